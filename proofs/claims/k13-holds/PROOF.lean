import PyProof.Rows.All
import Wide.All
import OpenK.AllK
import Wide.FinOn
import HandS.ForMost
import HandS.Codes
import HandS.Defaults
import HandS.WordsExc
import HandS.Head0
import HandS.Head1
import HandS.Head2
import HandS.HeadEnd
import HandS.HeadHook1
import HandS.HeadHook2
import HandS.HeadHook3
import HandS.HeadHook4
import HandS.More
import HandS.Sort
import HandS.SortOrd
import HandS.SortRule
import HandS.NamedTupSort
import HandS.TupMul
import HandS.TupAny
import HandS.Wide
import HandS.IsInst
import HandS.Walk
import HandS.Zip
import KE.GoesMore
import HandS.Keys
import KE.KStateDown
import PySem.Challenge.RW_cornerbids_k13_whole_who_holds_and_press
set_option Elab.async false
set_option linter.all false
set_option maxRecDepth 100000
set_option maxHeartbeats 0
namespace Cb
open PySem PySem.Spec PyProof.Rows L2
def top (i : Nat) : Stmt := PySem.Challenge.pw_cornerbids_k13_whole_who_holds_and_press.main.body.getD i (.Pass ⟨0, 0, 0, 0⟩)
abbrev zis_integer : Stmt := top 7
abbrev zdivisor : Stmt := top 8
abbrev zmade : Stmt := top 9
abbrev zplus : Stmt := top 10
abbrev ztimes : Stmt := top 11
abbrev zis_less : Stmt := top 12
abbrev zleast_of : Stmt := top 13
abbrev zgreatest_of : Stmt := top 14
abbrev zascending : Stmt := top 15
abbrev zmiddle : Stmt := top 16
abbrev zis_fraction : Stmt := top 17
abbrev zis_within : Stmt := top 20
abbrev zis_number : Stmt := top 21
abbrev zare_numbers : Stmt := top 22
abbrev zcheck_wishes : Stmt := top 23
abbrev zmean_of : Stmt := top 25
abbrev zranked_of : Stmt := top 26
abbrev zvalue_of : Stmt := top 27
abbrev zall_lots : Stmt := top 29
abbrev zends_for : Stmt := top 30
abbrev zcorner_of : Stmt := top 31
abbrev zwishing : Stmt := top 33
abbrev zwishing_more : Stmt := top 34
abbrev zoutcome_among : Stmt := top 35
abbrev zoutcome_of : Stmt := top 36
abbrev zholding : Stmt := top 37
abbrev zpressing : Stmt := top 38
abbrev zare_parts : Stmt := top 44
abbrev zis_weighted : Stmt := top 45
abbrev zis_bound : Stmt := top 46
abbrev zparts_told : Stmt := top 47
abbrev zis_leaf : Stmt := top 48
abbrev zterms_told : Stmt := top 49
abbrev zL_dice : Stmt := top 52
abbrev zL_draw : Stmt := top 53
abbrev zL_lowest : Stmt := top 54
abbrev zL_sum : Stmt := top 55
abbrev zL_product : Stmt := top 56
abbrev zL_less : Stmt := top 57
abbrev zL_sorted : Stmt := top 58
abbrev zL_number : Stmt := top 59
abbrev zL_numbers : Stmt := top 60
abbrev zL_term : Stmt := top 61
abbrev zL_rule_parts : Stmt := top 62
abbrev zL_value : Stmt := top 63
abbrev zL_lots : Stmt := top 64
abbrev zL_by_size : Stmt := top 65
abbrev zL_at_ends : Stmt := top 66
abbrev zL_corner : Stmt := top 67
abbrev zL_outcome : Stmt := top 68
abbrev zlaw : Stmt := top 69
abbrev zInit : Stmt := inClass (top 50) 0
def dzis_integer : He.DefD := ⟨("is_integer", none), "is_integer", "is_integer", defArgs zis_integer, defBody zis_integer, defScope zis_integer, [], []⟩
def dzdivisor : He.DefD := ⟨("divisor", none), "divisor", "divisor", defArgs zdivisor, defBody zdivisor, defScope zdivisor, [], []⟩
def dzmade : He.DefD := ⟨("made", none), "made", "made", defArgs zmade, defBody zmade, defScope zmade, [], []⟩
def dzplus : He.DefD := ⟨("plus", none), "plus", "plus", defArgs zplus, defBody zplus, defScope zplus, [], []⟩
def dztimes : He.DefD := ⟨("times", none), "times", "times", defArgs ztimes, defBody ztimes, defScope ztimes, [], []⟩
def dzis_less : He.DefD := ⟨("is_less", none), "is_less", "is_less", defArgs zis_less, defBody zis_less, defScope zis_less, [], []⟩
def dzleast_of : He.DefD := ⟨("least_of", none), "least_of", "least_of", defArgs zleast_of, defBody zleast_of, defScope zleast_of, [], []⟩
def dzgreatest_of : He.DefD := ⟨("greatest_of", none), "greatest_of", "greatest_of", defArgs zgreatest_of, defBody zgreatest_of, defScope zgreatest_of, [], []⟩
def dzascending : He.DefD := ⟨("ascending", none), "ascending", "ascending", defArgs zascending, defBody zascending, defScope zascending, [], []⟩
def dzmiddle : He.DefD := ⟨("middle", none), "middle", "middle", defArgs zmiddle, defBody zmiddle, defScope zmiddle, [], []⟩
def dzis_fraction : He.DefD := ⟨("is_fraction", none), "is_fraction", "is_fraction", defArgs zis_fraction, defBody zis_fraction, defScope zis_fraction, [], []⟩
def dzis_within : He.DefD := ⟨("is_within", none), "is_within", "is_within", defArgs zis_within, defBody zis_within, defScope zis_within, [], []⟩
def dzis_number : He.DefD := ⟨("is_number", none), "is_number", "is_number", defArgs zis_number, defBody zis_number, defScope zis_number, [], []⟩
def dzare_numbers : He.DefD := ⟨("are_numbers", none), "are_numbers", "are_numbers", defArgs zare_numbers, defBody zare_numbers, defScope zare_numbers, [], []⟩
def dzcheck_wishes : He.DefD := ⟨("check_wishes", none), "check_wishes", "check_wishes", defArgs zcheck_wishes, defBody zcheck_wishes, defScope zcheck_wishes, [], []⟩
def dzmean_of : He.DefD := ⟨("mean_of", none), "mean_of", "mean_of", defArgs zmean_of, defBody zmean_of, defScope zmean_of, [], []⟩
def dzranked_of : He.DefD := ⟨("ranked_of", none), "ranked_of", "ranked_of", defArgs zranked_of, defBody zranked_of, defScope zranked_of, [], []⟩
def dzvalue_of : He.DefD := ⟨("value_of", none), "value_of", "value_of", defArgs zvalue_of, defBody zvalue_of, defScope zvalue_of, [], []⟩
def dzall_lots : He.DefD := ⟨("all_lots", none), "all_lots", "all_lots", defArgs zall_lots, defBody zall_lots, defScope zall_lots, [], []⟩
def dzends_for : He.DefD := ⟨("ends_for", none), "ends_for", "ends_for", defArgs zends_for, defBody zends_for, defScope zends_for, [], []⟩
def dzcorner_of : He.DefD := ⟨("corner_of", none), "corner_of", "corner_of", defArgs zcorner_of, defBody zcorner_of, defScope zcorner_of, [], []⟩
def dzwishing : He.DefD := ⟨("wishing", none), "wishing", "wishing", defArgs zwishing, defBody zwishing, defScope zwishing, [], []⟩
def dzwishing_more : He.DefD := ⟨("wishing_more", none), "wishing_more", "wishing_more", defArgs zwishing_more, defBody zwishing_more, defScope zwishing_more, [], []⟩
def dzoutcome_among : He.DefD := ⟨("outcome_among", none), "outcome_among", "outcome_among", defArgs zoutcome_among, defBody zoutcome_among, defScope zoutcome_among, [], []⟩
def dzoutcome_of : He.DefD := ⟨("outcome_of", none), "outcome_of", "outcome_of", defArgs zoutcome_of, defBody zoutcome_of, defScope zoutcome_of, [], []⟩
def dzholding : He.DefD := ⟨("holding", none), "holding", "holding", defArgs zholding, defBody zholding, defScope zholding, [], []⟩
def dzpressing : He.DefD := ⟨("pressing", none), "pressing", "pressing", defArgs zpressing, defBody zpressing, defScope zpressing, [], []⟩
def dzare_parts : He.DefD := ⟨("are_parts", none), "are_parts", "are_parts", defArgs zare_parts, defBody zare_parts, defScope zare_parts, [], []⟩
def dzis_weighted : He.DefD := ⟨("is_weighted", none), "is_weighted", "is_weighted", defArgs zis_weighted, defBody zis_weighted, defScope zis_weighted, [], []⟩
def dzis_bound : He.DefD := ⟨("is_bound", none), "is_bound", "is_bound", defArgs zis_bound, defBody zis_bound, defScope zis_bound, [], []⟩
def dzparts_told : He.DefD := ⟨("parts_told", none), "parts_told", "parts_told", defArgs zparts_told, defBody zparts_told, defScope zparts_told, [], []⟩
def dzis_leaf : He.DefD := ⟨("is_leaf", none), "is_leaf", "is_leaf", defArgs zis_leaf, defBody zis_leaf, defScope zis_leaf, [], []⟩
def dzterms_told : He.DefD := ⟨("terms_told", none), "terms_told", "terms_told", defArgs zterms_told, defBody zterms_told, defScope zterms_told, [], []⟩
def dzL_dice : He.DefD := ⟨("_law_dice", none), "_law_dice", "_law_dice", defArgs zL_dice, defBody zL_dice, defScope zL_dice, [], []⟩
def dzL_draw : He.DefD := ⟨("_law_draw", none), "_law_draw", "_law_draw", defArgs zL_draw, defBody zL_draw, defScope zL_draw, [], []⟩
def dzL_lowest : He.DefD := ⟨("_law_lowest", none), "_law_lowest", "_law_lowest", defArgs zL_lowest, defBody zL_lowest, defScope zL_lowest, [], []⟩
def dzL_sum : He.DefD := ⟨("_law_sum", none), "_law_sum", "_law_sum", defArgs zL_sum, defBody zL_sum, defScope zL_sum, [], []⟩
def dzL_product : He.DefD := ⟨("_law_product", none), "_law_product", "_law_product", defArgs zL_product, defBody zL_product, defScope zL_product, [], []⟩
def dzL_less : He.DefD := ⟨("_law_less", none), "_law_less", "_law_less", defArgs zL_less, defBody zL_less, defScope zL_less, [], []⟩
def dzL_sorted : He.DefD := ⟨("_law_sorted", none), "_law_sorted", "_law_sorted", defArgs zL_sorted, defBody zL_sorted, defScope zL_sorted, [], []⟩
def dzL_number : He.DefD := ⟨("_law_number", none), "_law_number", "_law_number", defArgs zL_number, defBody zL_number, defScope zL_number, [], []⟩
def dzL_numbers : He.DefD := ⟨("_law_numbers", none), "_law_numbers", "_law_numbers", defArgs zL_numbers, defBody zL_numbers, defScope zL_numbers, [], []⟩
def dzL_term : He.DefD := ⟨("_law_term", none), "_law_term", "_law_term", defArgs zL_term, defBody zL_term, defScope zL_term, [], []⟩
def dzL_rule_parts : He.DefD := ⟨("_law_rule_parts", none), "_law_rule_parts", "_law_rule_parts", defArgs zL_rule_parts, defBody zL_rule_parts, defScope zL_rule_parts, [], []⟩
def dzL_value : He.DefD := ⟨("_law_value", none), "_law_value", "_law_value", defArgs zL_value, defBody zL_value, defScope zL_value, [], []⟩
def dzL_lots : He.DefD := ⟨("_law_lots", none), "_law_lots", "_law_lots", defArgs zL_lots, defBody zL_lots, defScope zL_lots, [], []⟩
def dzL_by_size : He.DefD := ⟨("_law_by_size", none), "_law_by_size", "_law_by_size", defArgs zL_by_size, defBody zL_by_size, defScope zL_by_size, [], []⟩
def dzL_at_ends : He.DefD := ⟨("_law_at_ends", none), "_law_at_ends", "_law_at_ends", defArgs zL_at_ends, defBody zL_at_ends, defScope zL_at_ends, [], []⟩
def dzL_corner : He.DefD := ⟨("_law_corner", none), "_law_corner", "_law_corner", defArgs zL_corner, defBody zL_corner, defScope zL_corner, [], []⟩
def dzL_outcome : He.DefD := ⟨("_law_outcome", none), "_law_outcome", "_law_outcome", defArgs zL_outcome, defBody zL_outcome, defScope zL_outcome, [], []⟩
def dzlaw : He.DefD := ⟨("law", none), "law", "law", defArgs zlaw, defBody zlaw, defScope zlaw, [], []⟩
def dzInit : He.DefD := ⟨("Rule", some "__init__"), "__init__", "Rule.__init__", defArgs zInit, defBody zInit, defScope zInit, [], []⟩
def fn1 : List He.DefD := [dzis_integer, dzdivisor, dzmade, dzplus, dztimes, dzis_less, dzleast_of, dzgreatest_of, dzascending, dzmiddle, dzis_fraction, dzis_within, dzis_number, dzare_numbers, dzcheck_wishes, dzmean_of, dzranked_of, dzvalue_of, dzall_lots, dzends_for, dzcorner_of, dzwishing, dzwishing_more, dzoutcome_among, dzoutcome_of, dzholding, dzpressing]
def fn2 : List He.DefD := [dzare_parts, dzis_weighted, dzis_bound, dzparts_told, dzis_leaf, dzterms_told, dzL_dice, dzL_draw, dzL_lowest, dzL_sum, dzL_product, dzL_less, dzL_sorted, dzL_number, dzL_numbers, dzL_term, dzL_rule_parts, dzL_value, dzL_lots, dzL_by_size, dzL_at_ends, dzL_corner, dzL_outcome, dzlaw, dzInit]
def fn : List He.DefD := fn1 ++ fn2
def fa1 : List He.Fa := [.glo "is_integer", .glo "divisor", .glo "made", .glo "plus", .glo "times", .glo "is_less", .glo "least_of", .glo "greatest_of", .glo "ascending", .glo "middle", .glo "is_fraction", .glo "is_within", .glo "is_number", .glo "are_numbers", .glo "check_wishes", .glo "mean_of", .glo "ranked_of", .glo "value_of", .glo "all_lots", .glo "ends_for", .glo "corner_of", .glo "wishing", .glo "wishing_more", .glo "outcome_among", .glo "outcome_of", .glo "holding", .glo "pressing"]
def fa2 : List He.Fa := [.glo "are_parts", .glo "is_weighted", .glo "is_bound", .glo "parts_told", .glo "is_leaf", .glo "terms_told", .glo "_law_dice", .glo "_law_draw", .glo "_law_lowest", .glo "_law_sum", .glo "_law_product", .glo "_law_less", .glo "_law_sorted", .glo "_law_number", .glo "_law_numbers", .glo "_law_term", .glo "_law_rule_parts", .glo "_law_value", .glo "_law_lots", .glo "_law_by_size", .glo "_law_at_ends", .glo "_law_corner", .glo "_law_outcome", .glo "law"]
def fa3 : List He.Fa := [.free "len", .free "range", .free "isinstance", .free "int", .free "bool", .free "tuple", .free "str", .free "abs", .free "sum", .free "list", .free "sorted", .free "zip", .free "enumerate", .free "all", .free "any", .glo "Rule", .glo "ZERO", .glo "ONE", .int "MOST_PEOPLE" 6, .int "MOST_DEEP" 8, .int "MOST_TERMS" 60, .int "MOST_PARTS" 8, .int "MOST_WEIGHT" 99, .cls "Rule", .noat "Rule" "people", .noat "Rule" "term", .mkr "Rule"]
def fa : List He.Fa := fa1 ++ (fa2 ++ fa3)
def ex (K : PySem.W.Frag) : Bool := He.tupB K "ZERO" [.int 0, .int 1] && He.tupB K "ONE" [.int 1, .int 1]
def lo1 : List PySem.Str := ["BidError", "BadRule", "NoWishes", "ZERO", "ONE", "is_integer", "divisor", "made", "plus", "times", "is_less", "least_of", "greatest_of", "ascending", "middle", "is_fraction", "MOST_PEOPLE", "is_within", "is_number", "are_numbers", "check_wishes", "mean_of", "ranked_of", "value_of", "all_lots", "ends_for", "corner_of", "wishing", "wishing_more", "outcome_among", "outcome_of", "holding"]
def lo2 : List PySem.Str := ["pressing", "MOST_DEEP", "MOST_TERMS", "MOST_PARTS", "MOST_WEIGHT", "are_parts", "is_weighted", "is_bound", "parts_told", "is_leaf", "terms_told", "Rule", "_law_dice", "_law_draw", "_law_lowest", "_law_sum", "_law_product", "_law_less", "_law_sorted", "_law_number", "_law_numbers", "_law_term", "_law_rule_parts", "_law_value", "_law_lots", "_law_by_size", "_law_at_ends", "_law_corner", "_law_outcome"]
def lo : List PySem.Str := lo1 ++ lo2
abbrev R : PySem.W.OpenRow := PySem.W.OpenLaw.row PySem.Challenge.rw_cornerbids_k13_whole_who_holds_and_press
abbrev hk : PySem.W.Hook := He.hookX 5 fa fn [] [] ex
def ob (s : PySem.W.SharedT) : He.AlX := He.obsX 5 fa fn [] [] ex (HandSHeadRun.getT s)
theorem ob_eq (s : PySem.W.SharedT) : ob s = hk.obs s.abs := He.obsX_eq (HandSHeadRun.getT_eq s)
theorem run (w : World) : HandSHeadRun.RunEq R (PySem.W.view R.prog [69]) hk ob 3000 lo w := by
  intro os
  kernel_rfl
end Cb
/-! own rules of the layer: enumerate over a tuple, tuple * int from 1 on, sorted of tuples of ints of any length -/
namespace Rl
open PySem PySem.Spec PyProof.Rows L2
open PySem.AutoSeq1 (wpAny_loadPart')
/-! ### enumerate(tuple): the two objects that it lays, told as they lie -/
def tOb (t : Addr) : Obj := { cls := .type "tuple_iterator", data := .fields #[.ref t, .int 0 0] }
def eOb (it : Addr) : Obj := { cls := .type "enumerate", data := .fields #[.none, .bool false, .ref it, rawInt 0, .none, .none] }
abbrev both (h : Heap) (t : Addr) : Heap := (h.push (tOb t)).push (eOb h.objs.size)
theorem both_size (h : Heap) (t : Addr) : (h.push (tOb t)).objs.size = h.objs.size + 1 := Heap.size_push ..
theorem both_enum (h : Heap) (t : Addr) : IsEnum (both h t) (h.objs.size + 1) h.objs.size 0 .none := by
  have g : (both h t).get? (h.push (tOb t)).objs.size = some (eOb h.objs.size) := Heap.get?_push_size _ rfl
  rw [both_size] at g
  exact g
theorem both_iter (h : Heap) (t : Addr) : (both h t).IsTupleIter h.objs.size t 0 := ⟨tOb t, Heap.get?_push_of_some _ (Heap.get?_push_size h rfl), rfl, rfl⟩
theorem both_old {h : Heap} {t b : Addr} {o : Obj} (g : h.get? b = some o) : (both h t).get? b = some o := Heap.get?_push_of_some _ (Heap.get?_push_of_some _ g)
theorem new_lays (t : Addr) (us : Array Value) (n : Nat) (dd : Option Addr) (sl : Array (Option Value)) :
    Meets (Builtin.«enumerate.__new__» ⟨[.type "enumerate", .ref t], []⟩) (fun _ R s => s.heap.get? t = some { cls := .type "tuple", dict := dd, data := .seq us n, slots := sl } ∧
      R (.ok (.ret (.ref (s.heap.push (tOb t)).objs.size))) { s with heap := both s.heap t }) :=
  Meets.of_wp fun p w A R s told => by
    obtain ⟨h, g, d, tk, os⟩ := s
    obtain ⟨here, goal⟩ := told
    have sub := sub_enumerate
    have tup : Heap.IsTuple (Shared.heap ⟨h, g, d, tk, os⟩) t us := ⟨_, here, rfl, n, rfl⟩
    wp_walk using wpAny_loadPart' here
    refine wpAny_stack_any fun _ => wpAny_pure ?_
    split
    · rename_i c _ _ _ _ _
      cases c == Value.type "enumerate" <;> (wp_walk using wpAny_loadPart' here, wpAny_pyIter_tuple tup; exact ⟨_, rfl, goal⟩)
    · wp_walk using wpAny_loadPart' here, wpAny_pyIter_tuple tup
      exact ⟨_, rfl, goal⟩
theorem call_lays {p : Program} {w : World} {A : Around} {E Q : Value → Shared → Prop} {s : Shared} {t : Addr} {us : Array Value} (tup : s.heap.IsTuple t us)
    (goal : Q (.ref (s.heap.objs.size + 1)) { s with heap := both s.heap t }) : wpAny (model p w) A (call (.type "enumerate") [.ref t]) Q E s := by
  obtain ⟨⟨cl, dd, dt, sl⟩, here, ec, n, ed⟩ := tup
  have ec' : cl = .type "tuple" := ec
  have ed' : dt = .seq us n := ed
  rw [ec', ed'] at here
  refine callType_new F.called_enumerate (by decide) (F.typeCall_enumerate_1 _) (F.newCall_enumerate_1 _) (fun ob => F.args_object_init_2 ob _) F.entry_enumerate_new (new_lays t us n dd sl) ⟨here, ?_⟩
  show _ ∧ _
  rw [both_size]
  exact ⟨⟨eOb s.heap.objs.size, both_enum s.heap t, rfl⟩, goal⟩
/-- between two turns: i items are drawn -/
structure EnT (a e it : Addr) (i : Nat) (h : Heap) : Prop where
  en : ∃ old, IsEnum h e it ((i : Nat) : Int) old
  ti : h.IsTupleIter it a i
  ne : e ≠ it
  na : e ≠ a
theorem EnT.still {a e it : Addr} {i : Nat} {h h' : Heap} (x : EnT a e it i h) (k : ∀ b ∈ [e, it], ∀ o, h.get? b = some o → h'.get? b = some o) : EnT a e it i h' :=
  ⟨x.en.imp fun _ q => k e (List.mem_cons_self ..) _ q, x.ti.at fun o q => k it (List.mem_cons_of_mem _ (List.mem_cons_self ..)) o q, x.ne, x.na⟩
theorem two {e it b : Addr} {P : Addr → Prop} (h1 : P e) (h2 : P it) (hb : b ∈ [e, it]) : P b := by
  cases hb with
  | head => exact h1
  | tail _ hb =>
    cases hb with
    | head => exact h2
    | tail _ hb => cases hb
/-- the tuple's items, each behind its number in a pair that is laid at the turn -/
def IteT (K : PySem.W.Frag) (a : Addr) : It where
  go := fun i H => ∃ (xs : List V) (x : V), SqT K H a xs ∧ xs[i]? = some x
  yld := fun i H v H' => ∃ T x, v = .ref T ∧ H T = none ∧ H' = upd H T (.tup [.int (i : Nat), x]) ∧ ∀ xs, SqT K H a xs → xs[i]? = some x
  stop := fun i H => ∃ xs : List V, SqT K H a xs ∧ xs.length ≤ i
/-- the end, as a draw that has none left -/
theorem endD {p : Program} {w : World} {A : Around} (free : A.handled = none) (a it : Addr) (us : Array Value) (i : Nat) (big : us.size ≤ i) :
    PySem.Draws p w A it [it, a] i (fun _ _ => False) (fun j h => j = i ∧ h.IsTupleIter it a i ∧ h.IsTuple a us) where
  live := fun _ _ ⟨_, ⟨o, q, _⟩, _⟩ => ⟨o, q⟩
  frame := fun _ _ _ ⟨e, q, ⟨o, g, r⟩⟩ k => ⟨e, q.at fun o g => k it (List.mem_cons_self ..) o g, o, k a (List.mem_cons_of_mem _ (List.mem_cons_self ..)) o g, r⟩
  item := fun _ _ _ _ lt ⟨e, _⟩ => absurd (e ▸ lt) (Nat.lt_irrefl _)
  done := fun _ _ _ ⟨_, q, r⟩ f => wpAny_nextOf_tuple_end free q r (Array.getElem?_eq_none big) f
theorem turn_enumT {P : Program} {w : World} {K : PySem.W.Frag} {elts : List Expr} {kk : Nat} {tpos : Pos} (a e it : Addr) (hai : a ≠ it) : Turn P w K (.Tuple elts kk tpos) (IteT K a) [e, it] e (EnT a e it) where
  mem := List.mem_cons_self ..
  obj := fun i h st b hb => by
    obtain ⟨old, q⟩ := st.en
    obtain ⟨o, r, _, rd⟩ := st.ti
    exact two (P := fun b => ∃ o, h.get? b = some o ∧ ∀ v, o.data ≠ .cell v) ⟨_, q, fun _ z => nomatch z⟩ ⟨o, r, fun _ z => nomatch rd.symm.trans z⟩ hb
  keep := fun i h h' st k => st.still k
  item := by
    intro X eP ew eK calm i pins s σ H E I fp st go
    subst eP ew eK
    obtain ⟨xs, x, hS, hx⟩ := go
    obtain ⟨us, rv, tup, _⟩ := I.tuple hS
    obtain ⟨u, hu, ru⟩ := rv.get hx
    obtain ⟨old, en⟩ := st.en
    have e_in : e < s.heap.objs.size := Heap.lt_size en
    have it_in : it < s.heap.objs.size := Heap.lt_size st.ti.choose_spec.1
    have far : e ∉ [it, a] := fun m => two (P := fun b => e ≠ b) st.ne st.na m rfl
    have room : i < us.toArray.size := by rw [List.size_toArray]; exact (List.getElem?_eq_some_iff.mp hu).1
    refine wpAny_pyNext_enum_itemD (PySem.Draws.tuple (by show X.A.in1.handled = none; exact I.ok.hd calm) it a hai us.toArray) en ⟨st.ti, show s.heap.IsTuple a us.toArray from tup⟩ room st.ne far fun y h1 tk hy out ti1 pair _ old1 => ?_
    obtain rfl : y = u := by
      rw [List.getElem?_toArray] at hy
      exact Option.some.inj (hy.symm.trans hu)
    refine ⟨_, rfl, wpAny_letOwnedTupleGo_enum (s := { s with heap := h1, toks := tk + 1 }) out fun h2 en2 but => ?_⟩
    have pair2 := (but.2 _ (Nat.ne_of_gt e_in)).trans pair
    have laid : ObjOk X.prog X.w (upd H s.heap.objs.size (.tup [.int (i : Nat), x])) h2 s.heap.objs.size (.tup [.int (i : Nat), x]) := ⟨by show 2 ≤ sizeLine; decide, _, .cons ⟨tk, rfl⟩ (.cons ru .nil), _, pair2, rfl, _, rfl⟩
    have kept : ∀ b ob, b ∉ [e, it] → s.heap.get? b = some ob → h2.get? b = some ob := fun b ob nb q =>
      (but.2 b fun z => nb (z ▸ List.mem_cons_self ..)).trans (old1 b ob (fun z => nb (z ▸ List.mem_cons_self ..)) (fun z => nb (z ▸ List.mem_cons_of_mem _ (List.mem_cons_self ..))) q)
    refine ⟨.ref s.heap.objs.size, _, I.turnedNew (h' := h2) (t' := tk + 1) (ch := [e, it]) kept fp (Nat.le_refl _) laid, rfl, ⟨_, x, rfl, I.hok.fresh (Nat.le_refl _), rfl, fun ys q => by rw [I.tuple_inj q hS]; exact hx⟩, ⟨⟨y, ?_⟩, ti1.1.at fun o q => (but.2 it (Ne.symm st.ne)).trans q, st.ne, st.na⟩, fun b hb => ?_⟩
    · rw [show ((i + 1 : Nat) : Int) = (i : Int) + 1 by omega]
      exact en2
    · have bnd : b < s.heap.objs.size := two (P := fun b => b < s.heap.objs.size) e_in it_in hb
      rw [upd_ne (Nat.ne_of_lt bnd)]
      exact (fp b hb).1
  done := by
    intro X eP ew eK calm i pins s σ H E I fp st stop
    subst eP ew eK
    obtain ⟨xs, hS, hx⟩ := stop
    obtain ⟨us, rv, tup, _⟩ := I.tuple hS
    obtain ⟨old, en⟩ := st.en
    obtain ⟨g0, g1, g2, g3, g4, g5⟩ := fp it (List.mem_cons_of_mem _ (List.mem_cons_self ..))
    have big : us.toArray.size ≤ i := by rw [List.size_toArray, ← rv.length]; exact hx
    exact wpAny_pyNext_enum_endD (endD (by show X.A.in1.handled = none; exact I.ok.hd calm) a it us.toArray i big) en ⟨rfl, st.ti, tup⟩ fun h' but => ⟨rfl, I.turned (t' := s.toks) (fun b o nb q => but b o nb q) g0 g1 g3 g4 g5⟩
  self := fun A i s Q E st q => wpAny_pyIter_enum st.en.choose_spec q
def iEnumT (K : PySem.W.Frag) (ta : TA) : TI := fun σ H R => ta σ H fun vs H1 => ∃ a xs, vs = [.ref a] ∧ SqT K H1 a xs ∧ R (IteT K a) H1
theorem pi_enumT {X : Cx} {e : Expr} {ta : TA} {p pos tpos : Pos} {elts : List Expr} {kk : Nat} (hg : Gl X "enumerate") (hm : X.mg "enumerate" = none) (ha : PA X [e] ta) (hs : starEach [e] X.env = [(false, eval e X.env)] := by rfl) :
    PI X (.Tuple elts kk tpos) (.Call (.Name "enumerate" p) [e] [] pos) (iEnumT X.K ta) where
  run := fun pins s σ H R I h => by
    refine Call_ (ld_blt I hg hm boot_enumerate (PyProof.Rows.callWith_type1 (thn (ha.run pos pins s σ H _ I h) ?_) hs rfl))
    rintro us s1 ⟨_, H1, I1, r1, a, xs, rfl, hS, q⟩
    obtain ⟨u, rfl, ru⟩ := vals1 r1
    obtain rfl : u = Value.ref a := ru
    obtain ⟨vs, rv, tup, _⟩ := I1.tuple hS
    have bnd : a < s1.heap.objs.size := tup.lt
    refine call_lays (us := vs.toArray) tup (wpAny_pyIter_enum (both_enum s1.heap a) ?_)
    have I2 : Inv X pins σ H1 { s1 with heap := both s1.heap a } := I1.kept (t' := s1.toks) fun b o g => both_old g
    refine ⟨s1.heap.objs.size + 1, [s1.heap.objs.size + 1, s1.heap.objs.size], _, _, H1, rfl, I2, turn_enumT a (s1.heap.objs.size + 1) s1.heap.objs.size (Nat.ne_of_lt bnd), ⟨⟨.none, both_enum s1.heap a⟩, both_iter s1.heap a, Nat.succ_ne_self _, Nat.ne_of_gt (Nat.lt_succ_of_lt bnd)⟩, fun b hb => ?_, q⟩
    have past : s1.heap.objs.size ≤ b := two (P := fun b => s1.heap.objs.size ≤ b) (Nat.le_succ _) (Nat.le_refl _) hb
    exact I1.fpOk past (I1.hok.fresh past)
theorem walk_enumT {K : PySem.W.Frag} {a : Addr} {xs : List V} : Walk (IteT K a) xs.length (fun H => SqT K H a xs) (YPair (fun i => some (.int (i : Nat))) (fun i => xs[i]?)) :=
  ⟨fun i _ lt q => ⟨xs, xs[i], q, List.getElem?_eq_getElem lt⟩, fun _ q => ⟨xs, q, Nat.le_refl _⟩, fun i H v H' _ q ⟨T, x, e1, e2, e3, e4⟩ => ⟨T, .int (i : Nat), x, e1, e2, e3, rfl, e4 xs q⟩⟩
/-! ### sorted of tuples of ints: two tuples of any lengths, told by the ints that they hold -/
section
open SrtO
variable {p : Program} {w : World} {A : Around} {s : Shared}
theorem lex_runs {b : Bool} {Q : Bool → Shared → Prop} {us : List Value} {ns : List Int} (hu : IntsAre us ns) : ∀ {vs : List Value} {ms : List Int} (i : Nat), IntsAre vs ms → Q (HT.lexLt ns ms) s →
    PySem.W.KatLex p w A b (decide (us.length < vs.length)) Q (us.zip vs) i s := by
  induction hu with
  | nil =>
    intro vs ms i hv q
    cases hv with
    | nil =>
      rw [HT.lexLt_nil_nil] at q
      exact PySem.W.kat_nil q
    | cons m t hv =>
      rw [HT.lexLt_nil_cons] at q
      exact PySem.W.kat_nil (by simpa using q)
  | cons n t hu ih =>
    intro vs ms i hv q
    cases hv with
    | nil =>
      rw [HT.lexLt_cons_nil] at q
      exact PySem.W.kat_nil (by simpa using q)
    | cons m u hv =>
      rw [HT.lexLt_cons] at q
      refine PySem.W.kat_cons (wpAny_eqBool_int ?_)
      cases c : n == m with
      | true =>
        rw [if_pos (eq_of_beq c)] at q
        refine PySem.W.kat_yes ?_
        have l := ih (i + 1) hv q
        simp only [List.length_cons, Nat.add_lt_add_iff_right]
        exact l
      | false =>
        rw [if_neg (ne_of_beq_false c)] at q
        exact PySem.W.kat_no (TS.oneLt_ints _ q)
/-- each of the values is a tuple of the ints that k tells -/
def Told (h : Heap) (k : Value → List Int) (vs : List Value) : Prop := ∀ v ∈ vs, TS.TupInts h v (k v)
theorem Told.heads {h : Heap} {k : Value → List Int} : ∀ {vs : List Value}, Told h k vs → (∀ v ∈ vs, k v ≠ []) → ∃ fs, PySem.W.KatTups h vs fs ∧ fs.length = vs.length ∧ ∀ f ∈ fs, ∃ n t, f = Value.int n t
  | [], _, _ => ⟨[], PySem.W.KatTups.nil, rfl, fun _ m => nomatch m⟩
  | v :: vs, x, full => by
    obtain ⟨fs, tups, len, whole⟩ := Told.heads (vs := vs) (fun u m => x u (.tail _ m)) fun u m => full u (.tail _ m)
    obtain ⟨a, us, rfl, ⟨o, here, cl, n, dt⟩, are⟩ := x v (.head _)
    have some1 := full _ (.head _)
    generalize k (.ref a) = ks at are some1
    generalize eu : us.toList = zs at are
    cases are with
    | nil => exact absurd rfl some1
    | cons m t are =>
      refine ⟨.int m t :: fs, PySem.W.KatTups.cons here cl dt (by rw [← Array.getElem?_toList, eu] <;> rfl) tups, congrArg Nat.succ len, fun f mem => ?_⟩
      cases mem with
      | head => exact ⟨m, t, rfl⟩
      | tail _ mem => exact whole f mem
theorem Told.less {vs : List Value} {k : Value → List Int} (x : Told s.heap k vs) : Cmp p w A s (tuples' true) (fun q => q.1 ∈ vs) (lt2 fun v u => HT.lexLt (k v) (k u)) := by
  intro q r mq mr
  obtain ⟨a, us, ea, ⟨o, ho, co, n, dto⟩, ints_a⟩ := x _ mq
  obtain ⟨b, vs', eb, ⟨o', ho', co', n', dto'⟩, ints_b⟩ := x _ mr
  show wpAny (model p w) A (keyLt' (tuples' true) q.1 r.1) (fun z s' => s' = s ∧ z = HT.lexLt (k q.1) (k r.1)) (fun _ _ => False) s
  have run := lex_runs (p := p) (w := w) (A := A) (b := true) (s := s) (Q := fun z s' => s' = s ∧ z = HT.lexLt (k q.1) (k r.1)) ints_a 0 ints_b ⟨rfl, rfl⟩
  rw [ea, eb] at run ⊢
  exact PySem.W.kat_lt ho dto ho' dto' (by simpa using run)
theorem Told.sortable {a : Addr} {vs : List Value} {k : Value → List Int} (more : 2 ≤ vs.length) (x : Told s.heap k vs) (full : ∀ v ∈ vs, k v ≠ []) (na : ∀ o, s.heap.get? a = some o → o.cls ≠ .type "tuple") : SortableO p w A s a vs fun v u => HT.lexLt (k v) (k u) := by
  intro h' keep
  have x' : Told h' k vs := fun v mv => (x v mv).keeps fun b o e c => keep b o (fun z => na o (z ▸ e) c) e
  obtain ⟨fs, tups, len, whole⟩ := x'.heads full
  refine ⟨tuples' true, fun Q E q => PySem.W.kat_kind (T := .type "int") tups (by omega) (fun f mf => ?_) (by rfl) ?_, x'.less⟩
  · obtain ⟨n, t, rfl⟩ := whole f mf
    exact PySem.W.Looks.now
  · rw [show (Value.type "int" != Value.type "tuple") = true by decide +kernel]
    exact q
end
/-- sorted(xs), xs a list of tuples of ints (k says which) -/
def rSortedL (K : PySem.W.Frag) : List V → Hp → VK → Prop := fun vs H Q => ∃ (a : Addr) (xs : List V) (k : V → List Int), vs = [V.ref a] ∧ SqL K H a xs ∧ (∀ x ∈ xs, ∃ t, x = V.ref t ∧ SqT K H t ((k x).map V.int)) ∧ (2 ≤ xs.length → ∀ x ∈ xs, k x ≠ []) ∧
  ∀ ys p, SrtO.Srtd (fun v u => HT.lexLt (k v) (k u)) ys → ys.Perm xs → H p = none → Q (.ref p) (upd H p (.lst ys))
theorem are_of : ∀ {ns : List Int} {us : List Value}, Vals (ns.map V.int) us → IntsAre us ns
  | [], _, .nil => .nil
  | n :: ns, _, .cons ⟨t, e⟩ r => e ▸ .cons n t (are_of r)
section
variable {X : Cx}
theorem cr_sortedL : CallR X (.builtin "sorted") (rSortedL X.K) := by
  rintro pins s σ H _ us Q I rel ⟨a, xs, k, rfl, hS, tups, full, q⟩
  obtain ⟨vs, rv, lst, small⟩ := I.list hS
  obtain ⟨u, rfl, rfl⟩ : ∃ u, us = [u] ∧ u = Value.ref a := vals1 rel
  have back := refs_back rv fun x m => (tups x m).imp fun _ q => q.1
  have inx : ∀ v ∈ vs, backV v ∈ xs := fun v m => by
    rw [back.1]
    exact List.mem_map_of_mem m
  have told : Told s.heap (fun u => k (backV u)) vs := fun v m => by
    obtain ⟨t, rfl⟩ := back.2 v m
    obtain ⟨t', e, ht⟩ := tups _ (inx _ m)
    cases e
    obtain ⟨ws, rw', tw, _⟩ := I.tuple ht
    exact ⟨t, ws.toArray, rfl, tw, are_of rw'⟩
  refine SrtO.sorted_ord (NtL.swo_lexL fun u => k (backV u)) lst.isList (rv.length ▸ small) (fun two h₁ a' ha keep => ?_) fun out inorder best => ?_
  · refine Told.sortable (s := { s with heap := h₁ }) two (fun v m => (told v m).keeps fun b o e _ => (keep b o e).2) (fun v m => full (rv.length ▸ two) _ (inx v m)) fun o e c => ?_
    have same := Option.some.inj (e.symm.trans ha)
    rw [same] at c
    exact absurd (Value.type.inj c) (show ¬ ("list" : String) = "tuple" by decide)
  · have refs : ∀ u ∈ out, ∃ a, u = Value.ref a := fun u m => back.2 u (best.perm.mem_iff.mp m)
    obtain ⟨n, laid⟩ := sortedAll_at s.heap vs out.toArray
    have perm : (out.map backV).Perm xs := back.1 ▸ best.perm.map backV
    exact ⟨.ref (s.heap.objs.size + 1), upd H (s.heap.objs.size + 1) (.lst (out.map backV)), I.laid (t' := s.toks) (fun b o e => sortedAll_old e) (Nat.le_succ _) ⟨perm.length_eq ▸ small, out, n, vals_back refs, laid⟩, rfl, q _ _ (SrtO.srtd_map inorder) perm (I.hok.fresh (Nat.le_succ _))⟩
end
/-! ### tuple * int, from 1 on -/
theorem tuple_mul1 (l : Addr) (items : Array Value) (n : Nat) (dd : Option Addr) (sl : Array (Option Value)) (u : Tok) :
    Meets (Builtin.«tuple.__mul__» ⟨[.ref l, .int 1 u], []⟩) (fun _ R s => s.heap.get? l = some { cls := .type "tuple", dict := dd, data := .seq items n, slots := sl } ∧ R (.ok (.ret (Value.ref l))) s) :=
  .of_wp fun prog w A R s h => by
    obtain ⟨hp, g, d, tk, os⟩ := s
    obtain ⟨hl, h⟩ := h
    have f1 := AutoSeq1.idx_int
    wp_walk using wpAny_loadPart' hl
    exact ⟨_, rfl, h⟩
def rRepA (K : PySem.W.Frag) : R2 := fun x y H Q => ∃ l k xs, x = .ref l ∧ y = .int k ∧ SqT K H l xs ∧ xs ≠ [] ∧ 1 ≤ k ∧ k ≤ 1000 ∧ xs.length ≤ 1000 ∧ (k = 1 → Q (.ref l) H) ∧ (k ≠ 1 → ∀ p, H p = none → Q (.ref p) (upd H p (.tup (List.replicate k.toNat xs).flatten)))
section
variable {X : Cx}
theorem op_repA : OpR X (binaryOp .Mult) (rRepA X.K) := by
  intro pins s σ H x y v u Q I rx ry h
  obtain ⟨l, k, xs, rfl, rfl, hT, hne, h1, h2, hz, q1, q2⟩ := h
  by_cases hk : k = 1
  · subst hk
    cases rx
    obtain ⟨t, rfl⟩ := ry
    obtain ⟨its, r, ⟨⟨cls, dd, data, sl⟩, ho, hc, n, hd⟩, hs⟩ := I.tuple hT
    simp only at hc hd
    subst hc hd
    refine wpAny_binaryOp_repeat_ref (T := "tuple") (U := "int") (by decide) ⟨_, ho, rfl⟩ (fun s' => typeIs_int s' 1 t) noFill_tuple_mul F.fills_int_mul F.slot_int_rmul repeat_tuple F.slot_int_index.lookup
      (call_meets F.slot_int_rmul (typeIs_int s 1 t) F.entry_int_rmul (F.args_int_rmul_2 _ _) (int_rmul_tuple 1 t l its.toArray n dd sl)
        ⟨ho, rfl, ⟨_, ho, rfl⟩, call_meets F.slot_tuple_mul ⟨_, ho, rfl⟩ F.entry_tuple_mul (F.args_tuple_mul_2 _ _) (tuple_mul1 l its.toArray n dd sl t) ⟨ho, ?_⟩⟩)
    exact ⟨.ref l, H, I, rfl, q1 rfl⟩
  · exact op_repT pins s σ H _ _ v u Q I rx ry ⟨l, k, xs, rfl, rfl, hT, hne, by omega, h2, hz, q2 hk⟩
end
end Rl
namespace Cb
open PySem PySem.Spec PyProof.Rows L2
open C8 (Cal Mak pe_c pe_mk pe_gc)
/-- what is asked of the top -/
structure Tx (K : PySem.W.Frag) (mg : Str → Option Value) : Prop where
  says : He.SaysD fa fn K
  glo : ∀ (x : Str), He.Fa.glo x ∈ fa → mg x = some (.ref (He.ga K x))
  b_len : mg "len" = none
  b_range : mg "range" = none
  b_isinstance : mg "isinstance" = none
  b_int : mg "int" = none
  b_bool : mg "bool" = none
  b_tuple : mg "tuple" = none
  b_str : mg "str" = none
  b_abs : mg "abs" = none
  b_sum : mg "sum" = none
  b_list : mg "list" = none
  b_sorted : mg "sorted" = none
  b_zip : mg "zip" = none
  b_enumerate : mg "enumerate" = none
  b_all : mg "all" = none
  b_any : mg "any" = none
  MOST_PEOPLE : ∃ u, mg "MOST_PEOPLE" = some u ∧ RelV (.int 6) u
  MOST_DEEP : ∃ u, mg "MOST_DEEP" = some u ∧ RelV (.int 8) u
  MOST_TERMS : ∃ u, mg "MOST_TERMS" = some u ∧ RelV (.int 60) u
  MOST_PARTS : ∃ u, mg "MOST_PARTS" = some u ∧ RelV (.int 8) u
  MOST_WEIGHT : ∃ u, mg "MOST_WEIGHT" = some u ∧ RelV (.int 99) u
  ZERO : ∃ u, mg "ZERO" = some u ∧ RelV (.ref (He.ga K "ZERO")) u
  ONE : ∃ u, mg "ONE" = some u ∧ RelV (.ref (He.ga K "ONE")) u
  zero_at : ∀ H : Hp, SqT K H (He.ga K "ZERO") [.int 0, .int 1]
  one_at : ∀ H : Hp, SqT K H (He.ga K "ONE") [.int 1, .int 1]
  clR : Cls K (He.ga K "Rule")
  nPe : NoAttr K (He.ga K "Rule") "people"
  nTe : NoAttr K (He.ga K "Rule") "term"
  mkR : Mk K (He.ga K "Rule") (He.ma K (He.ga K "Rule") "__init__")
  mgR : mg "Rule" = some (.ref (He.ga K "Rule"))
/-! rules with the written part named -/
section
variable {X : Cx}
theorem catA (K : PySem.W.Frag) (h : X.K = K := by rfl) : OpR X (binaryOp .Add) (rCatA K) := by subst h; exact op_catA
theorem inS (K : PySem.W.Frag) (h : X.K = K := by rfl) : OpR X (compareOp .In) (rIn K false) := by subst h; exact op_in_seq
theorem ninS (K : PySem.W.Frag) (h : X.K = K := by rfl) : OpR X (compareOp .NotIn) (rIn K true) := by subst h; exact op_notIn_seq
theorem ixT (K : PySem.W.Frag) (h : X.K = K := by rfl) : IxR X (rIxT K) := by subst h; exact ix_tup
theorem ixL (K : PySem.W.Frag) (h : X.K = K := by rfl) : IxR X (rIxL K) := by subst h; exact ix_list
theorem slL (K : PySem.W.Frag) (h : X.K = K := by rfl) : SlR X (rSlL K) := by subst h; exact sl_list
theorem repA (K : PySem.W.Frag) (h : X.K = K := by rfl) : OpR X (binaryOp .Mult) (Rl.rRepA K) := by subst h; exact Rl.op_repA
theorem neD (K : PySem.W.Frag) (hu : X.A.units + 64 < cLine) (h : X.K = K := by rfl) : OpR X (compareOp .NotEq) (rNeD K) := by subst h; exact op_neD hu
theorem lenS (K : PySem.W.Frag) (h : X.K = K := by rfl) : CallR X (.builtin "len") (fun xs H Q => ∃ p ys, xs = [.ref p] ∧ (SqL K H p ys ∨ SqT K H p ys) ∧ Q (.int ys.length) H) := by subst h; exact call_len_seq
theorem tupO (K : PySem.W.Frag) (h : X.K = K := by rfl) : CallR X (.type "tuple") (fun xs H Q => ∃ p ys, xs = [.ref p] ∧ ((SqL K H p ys ∧ ∀ l, H l = none → Q (.ref l) (upd H l (.tup ys))) ∨ (SqT K H p ys ∧ Q (.ref p) H))) := by subst h; exact call_tuple_of
theorem lstO (K : PySem.W.Frag) (h : X.K = K := by rfl) : CallR X (.type "list") (fun xs H Q => ∃ p ys, xs = [.ref p] ∧ (SqL K H p ys ∨ SqT K H p ys) ∧ ∀ l, H l = none → Q (.ref l) (upd H l (.lst ys))) := by subst h; exact call_list_of
theorem isiK (K : PySem.W.Frag) (h : X.K = K := by rfl) : CallR X (.builtin "isinstance") (rIsi K) := by subst h; exact call_isi
theorem sumK (K : PySem.W.Frag) (hc : X.calm = true) (h : X.K = K := by rfl) : CallR X (.builtin "sum") (rSum K) := by subst h; exact cr_sum hc
theorem allK (K : PySem.W.Frag) (hc : X.calm = true) (h : X.K = K := by rfl) : CallR X (.builtin "all") (rAll K) := by subst h; exact cr_all hc
theorem anyK (K : PySem.W.Frag) (hc : X.calm = true) (h : X.K = K := by rfl) : CallR X (.builtin "any") (rAny K) := by subst h; exact cr_any hc
theorem srtK (K : PySem.W.Frag) (h : X.K = K := by rfl) : CallR X (.builtin "sorted") (Rl.rSortedL K) := by subst h; exact Rl.cr_sortedL
end
section
variable {P : Program} {w : World} {K : PySem.W.Frag} {mg : Str → Option Value} {base : Heap}
theorem mk_cal {x : Str} {st : Stmt} {N ps : List Str} {k : Nat} {sp : Sp} (T : Tx K mg) (i : Nat) (hi : fn[i]? = some ⟨(x, none), x, x, defArgs st, defBody st, defScope st, [], []⟩) (gi : fa[i]? = some (.glo x))
    (S : FnScope N ps (defScope st))
    (bi : ∀ (kV doc pm : Value) (an : Option Addr) (cdv ct : Value) (us : List Value), us.length = ps.length → bindArgs (PySem.W.fnOf x x (defArgs st) (defBody st) (defScope st) .none kV doc pm an cdv ct) ⟨us, []⟩ = pure (ps.zip us))
    (len : ∀ vs H Q E, sp vs H Q E → vs.length = ps.length)
    (hbody : ∀ (f : Addr) (cdv : Value) (A : Around) (outer : List Env) (s : Shared) (H : Hp) (vs : List V) (Q : VK) (E : XK), Room k (A.deeper (envOfC x (defScope st) s.heap.objs.size f cdv)) → sp vs H Q E →
      ∃ t, PSs (cxOf CX0 P w K mg base N x (defScope st) f cdv A outer s H E).nox (defBody st) t ∧ t { nx := fun _ H' => Q .non H', rt := Q } (start N vs) H) : Cal P w K mg base (k + 1) x sp [] := by
  obtain ⟨fd, F⟩ := T.says.def_ i hi
  have F' : FunD K x x (defArgs st) (defBody st) (defScope st) [] [] (He.ga K x) fd := F
  refine ⟨He.ga K x, fd, ps, [], F'.ok S len (fun cdv A outer s H vs Q E hr h => ?_), T.glo x (List.mem_of_getElem? gi), F'.kp, F'.bindsN bi, .nil⟩
  obtain ⟨t, h1, h2⟩ := hbody (He.ga K x) cdv A outer s H vs Q E hr h
  exact ⟨t, h1.nox, h2⟩
/-- Rule's __init__ -/
theorem mk_rule {N ps : List Str} {k : Nat} {sp : Sp} (T : Tx K mg) (S : FnScope N ps (defScope zInit))
    (bi : ∀ (kV doc pm : Value) (an : Option Addr) (cdv ct : Value) (us : List Value), us.length = ps.length → bindArgs (PySem.W.fnOf "__init__" "Rule.__init__" (defArgs zInit) (defBody zInit) (defScope zInit) .none kV doc pm an cdv ct) ⟨us, []⟩ = pure (ps.zip us))
    (len : ∀ vs H Q E, sp vs H Q E → vs.length = ps.length)
    (hbody : ∀ (f : Addr) (cdv : Value) (A : Around) (outer : List Env) (s : Shared) (H : Hp) (vs : List V) (Q : VK) (E : XK), Room k (A.deeper (envOfC "Rule.__init__" (defScope zInit) s.heap.objs.size f cdv)) → sp vs H Q E →
      ∃ t, PSs (cxOf CX0 P w K mg base N "Rule.__init__" (defScope zInit) f cdv A outer s H E).nox (defBody zInit) t ∧ t { nx := fun _ H' => Q .non H', rt := Q } (start N vs) H) : Mak P w K mg base (k + 1) "Rule" (He.ga K "Rule") sp [] := by
  obtain ⟨fd, F⟩ := T.says.def_ 51 (d := dzInit) rfl
  have F' : FunD K "__init__" "Rule.__init__" (defArgs zInit) (defBody zInit) (defScope zInit) [] [] (He.ma K (He.ga K "Rule") "__init__") fd := F
  refine ⟨He.ma K (He.ga K "Rule") "__init__", fd, ps, [], T.mkR, F'.ok S len (fun cdv A outer s H vs Q E hr h => ?_), T.mgR, F'.bindsN bi, .nil⟩
  obtain ⟨t, h1, h2⟩ := hbody _ cdv A outer s H vs Q E hr h
  exact ⟨t, h1.nox, h2⟩
end
end Cb
namespace Cb
/-! ### fractions -/
abbrev Fr := Int × Int
def fLess (a b : Fr) : Bool := decide (a.1 * b.2 < b.1 * a.2)
def fMade (t b : Int) : Fr := (t / (Int.gcd t b : Int), b / (Int.gcd t b : Int))
def fPlus (a b : Fr) : Fr := fMade (a.1 * b.2 + b.1 * a.2) (a.2 * b.2)
def fTimes (a b : Fr) : Fr := fMade (a.1 * b.1) (a.2 * b.2)
/-- in lowest terms, the bottom from 1 on -/
def Lo (f : Fr) : Prop := 0 < f.2 ∧ Int.gcd f.1 f.2 = 1
def Bt (n : Nat) (f : Fr) : Prop := f.1.natAbs < 2 ^ n ∧ f.2.natAbs < 2 ^ n
def Num (f : Fr) : Prop := Lo f ∧ 0 ≤ f.1 ∧ f.1 ≤ f.2
theorem Bt.mono {m n : Nat} {f : Fr} (h : Bt m f) (l : m ≤ n) : Bt n f :=
  ⟨Nat.lt_of_lt_of_le h.1 (Nat.pow_le_pow_right (by decide) l), Nat.lt_of_lt_of_le h.2 (Nat.pow_le_pow_right (by decide) l)⟩
theorem gcd_pos_r {t b : Int} (h : 0 < b) : 0 < Int.gcd t b := Int.gcd_pos_of_ne_zero_right t (by omega)
theorem made_eq {t b : Int} (h : 0 < b) : (fMade t b).1 * b = t * (fMade t b).2 := by
  have hg : (0 : Int) < (Int.gcd t b : Int) := by have := gcd_pos_r (t := t) h; omega
  obtain ⟨x, hx⟩ : (Int.gcd t b : Int) ∣ t := Int.gcd_dvd_left t b
  obtain ⟨y, hy⟩ : (Int.gcd t b : Int) ∣ b := Int.gcd_dvd_right t b
  have e1 : (fMade t b).1 = x := by
    show t / (Int.gcd t b : Int) = x
    exact Int.ediv_eq_of_eq_mul_right (by omega) hx
  have e2 : (fMade t b).2 = y := by
    show b / (Int.gcd t b : Int) = y
    exact Int.ediv_eq_of_eq_mul_right (by omega) hy
  rw [e1, e2]
  generalize (Int.gcd t b : Int) = g at hx hy
  subst hx
  subst hy
  rw [Int.mul_comm g y, ← Int.mul_assoc, Int.mul_comm x y, Int.mul_assoc, Int.mul_comm y (x * g), Int.mul_comm x g]
theorem made_lo {t b : Int} (h : 0 < b) : Lo (fMade t b) := by
  have hg := gcd_pos_r (t := t) h
  refine ⟨?_, ?_⟩
  · show 0 < b / (Int.gcd t b : Int)
    exact Int.ediv_pos_of_pos_of_dvd h (by omega) (Int.gcd_dvd_right t b)
  · show Int.gcd (t / (Int.gcd t b : Int)) (b / (Int.gcd t b : Int)) = 1
    exact Int.gcd_ediv_gcd_ediv_gcd hg
theorem natAbs_ediv_le (t : Int) (g : Nat) : (t / (g : Int)).natAbs ≤ t.natAbs := by
  exact Int.natAbs_ediv_le_natAbs t g
theorem made_bt {t b : Int} {n : Nat} (h : 0 < b) (ht : t.natAbs < 2 ^ n) (hb : b.natAbs < 2 ^ n) : Bt n (fMade t b) := by
  have h2 : (b / (Int.gcd t b : Int)).natAbs ≤ b.natAbs := by
    exact Int.natAbs_ediv_le_natAbs b _
  have h1 : (t / (Int.gcd t b : Int)).natAbs ≤ t.natAbs := by
    obtain ⟨x, hx⟩ : (Int.gcd t b : Int) ∣ t := Int.gcd_dvd_left t b
    have hg := gcd_pos_r (t := t) h
    have e : t / (Int.gcd t b : Int) = x := Int.ediv_eq_of_eq_mul_right (by omega) hx
    rw [e]
    have e2 : t.natAbs = Int.gcd t b * x.natAbs := by
      have := congrArg Int.natAbs hx
      rw [Int.natAbs_mul, Int.natAbs_natCast] at this
      exact this
    rw [e2]
    exact Nat.le_mul_of_pos_left _ hg
  exact ⟨Nat.lt_of_le_of_lt h1 ht, Nat.lt_of_le_of_lt h2 hb⟩
theorem nmul_lt {a b m n : Nat} (ha : a < 2 ^ m) (hb : b < 2 ^ n) : a * b < 2 ^ (m + n) := by
  rw [Nat.pow_add]
  exact Nat.mul_lt_mul'' ha hb
theorem imul_lt {a b : Int} {m n : Nat} (ha : a.natAbs < 2 ^ m) (hb : b.natAbs < 2 ^ n) : (a * b).natAbs < 2 ^ (m + n) := by
  rw [Int.natAbs_mul]
  exact nmul_lt ha hb
theorem iadd_lt {a b : Int} {m : Nat} (ha : a.natAbs < 2 ^ m) (hb : b.natAbs < 2 ^ m) : (a + b).natAbs < 2 ^ (m + 1) := by
  have := Int.natAbs_add_le a b
  rw [Nat.pow_succ]
  omega
theorem plus_bt {a b : Fr} {m n : Nat} (ha : Lo a) (hb : Lo b) (h1 : Bt m a) (h2 : Bt n b) : Bt (m + n + 1) (fPlus a b) := by
  have p : 0 < a.2 * b.2 := Int.mul_pos ha.1 hb.1
  refine made_bt p ?_ ?_
  · refine iadd_lt (imul_lt h1.1 h2.2) ?_
    have := imul_lt h2.1 h1.2
    rw [Nat.add_comm m n]
    exact this
  · refine Nat.lt_of_lt_of_le (imul_lt h1.2 h2.2) (Nat.pow_le_pow_right (by decide) (by omega))
theorem times_bt {a b : Fr} {m n : Nat} (ha : 0 < a.2) (hb : 0 < b.2) (h1 : Bt m a) (h2 : Bt n b) : Bt (m + n) (fTimes a b) :=
  made_bt (Int.mul_pos ha hb) (imul_lt h1.1 h2.1) (imul_lt h1.2 h2.2)
theorem plus_lo {a b : Fr} (ha : 0 < a.2) (hb : 0 < b.2) : Lo (fPlus a b) := made_lo (Int.mul_pos ha hb)
theorem times_lo {a b : Fr} (ha : 0 < a.2) (hb : 0 < b.2) : Lo (fTimes a b) := made_lo (Int.mul_pos ha hb)
/-! ### the order -/
def fLe (a b : Fr) : Prop := a.1 * b.2 ≤ b.1 * a.2
theorem less_iff {a b : Fr} : fLess a b = true ↔ a.1 * b.2 < b.1 * a.2 := decide_eq_true_iff
theorem less_false {a b : Fr} : fLess a b = false ↔ fLe b a := by
  unfold fLess fLe
  rw [decide_eq_false_iff_not]
  omega
theorem fLe.refl (a : Fr) : fLe a a := Int.le_refl _
theorem le_of_less {a b : Fr} (h : fLess a b = true) : fLe a b := Int.le_of_lt (less_iff.mp h)
theorem fLe.total (a b : Fr) : fLe a b ∨ fLe b a := by unfold fLe; omega
theorem fLe.trans {a b c : Fr} (hb : 0 < b.2) (ha : 0 < a.2) (hc : 0 < c.2) (h1 : fLe a b) (h2 : fLe b c) : fLe a c := by
  unfold fLe at *
  have x1 : a.1 * b.2 * c.2 ≤ b.1 * a.2 * c.2 := Int.mul_le_mul_of_nonneg_right h1 (by omega)
  have x2 : b.1 * c.2 * a.2 ≤ c.1 * b.2 * a.2 := Int.mul_le_mul_of_nonneg_right h2 (by omega)
  have e1 : b.1 * a.2 * c.2 = b.1 * c.2 * a.2 := by rw [Int.mul_assoc, Int.mul_comm a.2, ← Int.mul_assoc]
  have x3 : a.1 * b.2 * c.2 ≤ c.1 * b.2 * a.2 := by omega
  have e2 : a.1 * b.2 * c.2 = b.2 * (a.1 * c.2) := by rw [Int.mul_comm a.1, Int.mul_assoc]
  have e3 : c.1 * b.2 * a.2 = b.2 * (c.1 * a.2) := by rw [Int.mul_comm c.1, Int.mul_assoc]
  rw [e2, e3] at x3
  exact Int.le_of_mul_le_mul_left x3 hb
theorem dvd_of_cop {a b c : Int} (h : a ∣ b * c) (g : Int.gcd a b = 1) : a ∣ c := by
  have h' : a.natAbs ∣ b.natAbs * c.natAbs := by
    rw [← Int.natAbs_mul]
    exact Int.natAbs_dvd_natAbs.mpr h
  have cp : Nat.Coprime a.natAbs b.natAbs := g
  exact Int.natAbs_dvd_natAbs.mp (Nat.Coprime.dvd_of_dvd_mul_left cp h')
theorem lo_antisymm {a b : Fr} (ha : Lo a) (hb : Lo b) (h1 : fLe a b) (h2 : fLe b a) : a = b := by
  have e : a.1 * b.2 = b.1 * a.2 := Int.le_antisymm h1 h2
  obtain ⟨pa, ga⟩ := ha
  obtain ⟨pb, gb⟩ := hb
  have d1 : a.2 ∣ b.2 := by
    have : a.2 ∣ a.1 * b.2 := ⟨b.1, by rw [e, Int.mul_comm]⟩
    exact dvd_of_cop this (by rw [Int.gcd_comm]; exact ga)
  have d2 : b.2 ∣ a.2 := by
    have : b.2 ∣ b.1 * a.2 := ⟨a.1, by rw [← e, Int.mul_comm]⟩
    exact dvd_of_cop this (by rw [Int.gcd_comm]; exact gb)
  have e2 : a.2 = b.2 := Int.dvd_antisymm (by omega) (by omega) d1 d2
  have e1 : a.1 = b.1 := by
    rw [e2] at e
    exact Int.eq_of_mul_eq_mul_right (by omega) e
  exact Prod.ext e1 e2
/-! ### least, greatest -/
def fMin1 (x : Fr) (ys : List Fr) : Fr := ys.foldl (fun f y => if fLess y f = true then y else f) x
def fMax1 (x : Fr) (ys : List Fr) : Fr := ys.foldl (fun f y => if fLess f y = true then y else f) x
def fMinL : List Fr → Fr
  | [] => (0, 1)
  | x :: ys => fMin1 x ys
def fMaxL : List Fr → Fr
  | [] => (0, 1)
  | x :: ys => fMax1 x ys
def Pos (f : Fr) : Prop := 0 < f.2
theorem min1_spec : ∀ (ys : List Fr) (x : Fr), Pos x → (∀ y ∈ ys, Pos y) → fMin1 x ys ∈ x :: ys ∧ ∀ y ∈ x :: ys, fLe (fMin1 x ys) y
  | [], x, _, _ => ⟨List.mem_cons_self .., fun y hy => by
      rcases List.mem_cons.mp hy with rfl | hy
      · exact fLe.refl _
      · cases hy⟩
  | z :: ys, x, hx, h => by
    have hz : Pos z := h z (List.mem_cons_self ..)
    have h' : ∀ y ∈ ys, Pos y := fun y hy => h y (List.mem_cons_of_mem _ hy)
    have e : fMin1 x (z :: ys) = fMin1 (if fLess z x = true then z else x) ys := rfl
    rw [e]
    by_cases c : fLess z x = true
    · rw [if_pos c]
      obtain ⟨m, l⟩ := min1_spec ys z hz h'
      have pm : Pos (fMin1 z ys) := by
        rcases List.mem_cons.mp m with q | q
        · rw [q]; exact hz
        · exact h' _ q
      refine ⟨List.mem_cons_of_mem _ m, fun y hy => ?_⟩
      rcases List.mem_cons.mp hy with rfl | hy
      · exact fLe.trans hz pm hx (l z (List.mem_cons_self ..)) (le_of_less c)
      · exact l y hy
    · rw [if_neg c]
      have c' : fLe x z := less_false.mp (Bool.eq_false_iff.mpr c)
      obtain ⟨m, l⟩ := min1_spec ys x hx h'
      have pm : Pos (fMin1 x ys) := by
        rcases List.mem_cons.mp m with q | q
        · rw [q]; exact hx
        · exact h' _ q
      refine ⟨?_, fun y hy => ?_⟩
      · rcases List.mem_cons.mp m with q | q
        · rw [q]; exact List.mem_cons_self ..
        · exact List.mem_cons_of_mem _ (List.mem_cons_of_mem _ q)
      · rcases List.mem_cons.mp hy with rfl | hy
        · exact l _ (List.mem_cons_self ..)
        · rcases List.mem_cons.mp hy with rfl | hy
          · exact fLe.trans hx pm hz (l x (List.mem_cons_self ..)) c'
          · exact l y (List.mem_cons_of_mem _ hy)
theorem max1_spec : ∀ (ys : List Fr) (x : Fr), Pos x → (∀ y ∈ ys, Pos y) → fMax1 x ys ∈ x :: ys ∧ ∀ y ∈ x :: ys, fLe y (fMax1 x ys)
  | [], x, _, _ => ⟨List.mem_cons_self .., fun y hy => by
      rcases List.mem_cons.mp hy with rfl | hy
      · exact fLe.refl _
      · cases hy⟩
  | z :: ys, x, hx, h => by
    have hz : Pos z := h z (List.mem_cons_self ..)
    have h' : ∀ y ∈ ys, Pos y := fun y hy => h y (List.mem_cons_of_mem _ hy)
    have e : fMax1 x (z :: ys) = fMax1 (if fLess x z = true then z else x) ys := rfl
    rw [e]
    by_cases c : fLess x z = true
    · rw [if_pos c]
      obtain ⟨m, l⟩ := max1_spec ys z hz h'
      have pm : Pos (fMax1 z ys) := by
        rcases List.mem_cons.mp m with q | q
        · rw [q]; exact hz
        · exact h' _ q
      refine ⟨List.mem_cons_of_mem _ m, fun y hy => ?_⟩
      rcases List.mem_cons.mp hy with rfl | hy
      · exact fLe.trans hz hx pm (le_of_less c) (l z (List.mem_cons_self ..))
      · exact l y hy
    · rw [if_neg c]
      have c' : fLe z x := less_false.mp (Bool.eq_false_iff.mpr c)
      obtain ⟨m, l⟩ := max1_spec ys x hx h'
      have pm : Pos (fMax1 x ys) := by
        rcases List.mem_cons.mp m with q | q
        · rw [q]; exact hx
        · exact h' _ q
      refine ⟨?_, fun y hy => ?_⟩
      · rcases List.mem_cons.mp m with q | q
        · rw [q]; exact List.mem_cons_self ..
        · exact List.mem_cons_of_mem _ (List.mem_cons_of_mem _ q)
      · rcases List.mem_cons.mp hy with rfl | hy
        · exact l _ (List.mem_cons_self ..)
        · rcases List.mem_cons.mp hy with rfl | hy
          · exact fLe.trans hx hz pm c' (l x (List.mem_cons_self ..))
          · exact l y (List.mem_cons_of_mem _ hy)
theorem minL_mem {l : List Fr} (h : l ≠ []) (p : ∀ y ∈ l, Pos y) : fMinL l ∈ l := by
  cases l with
  | nil => exact absurd rfl h
  | cons x ys => exact (min1_spec ys x (p x (List.mem_cons_self ..)) fun y hy => p y (List.mem_cons_of_mem _ hy)).1
theorem minL_le {l : List Fr} (p : ∀ y ∈ l, Pos y) {y : Fr} (hy : y ∈ l) : fLe (fMinL l) y := by
  cases l with
  | nil => cases hy
  | cons x ys => exact (min1_spec ys x (p x (List.mem_cons_self ..)) fun y hy => p y (List.mem_cons_of_mem _ hy)).2 y hy
theorem maxL_mem {l : List Fr} (h : l ≠ []) (p : ∀ y ∈ l, Pos y) : fMaxL l ∈ l := by
  cases l with
  | nil => exact absurd rfl h
  | cons x ys => exact (max1_spec ys x (p x (List.mem_cons_self ..)) fun y hy => p y (List.mem_cons_of_mem _ hy)).1
theorem maxL_ge {l : List Fr} (p : ∀ y ∈ l, Pos y) {y : Fr} (hy : y ∈ l) : fLe y (fMaxL l) := by
  cases l with
  | nil => cases hy
  | cons x ys => exact (max1_spec ys x (p x (List.mem_cons_self ..)) fun y hy => p y (List.mem_cons_of_mem _ hy)).2 y hy
/-! ### sorting -/
def ins (x : Fr) : List Fr → List Fr
  | [] => [x]
  | y :: l => if fLess x y = true then x :: y :: l else y :: ins x l
def asc (l : List Fr) : List Fr := l.foldl (fun acc x => ins x acc) []
def Srt (l : List Fr) : Prop := l.Pairwise fLe
theorem ins_perm (x : Fr) : ∀ l : List Fr, (ins x l).Perm (x :: l)
  | [] => List.Perm.refl _
  | y :: l => by
    unfold ins
    split
    · exact List.Perm.refl _
    · exact ((ins_perm x l).cons y).trans (List.Perm.swap x y l)
theorem asc_perm_aux : ∀ (l acc : List Fr), (l.foldl (fun acc x => ins x acc) acc).Perm (l ++ acc)
  | [], acc => List.Perm.refl _
  | x :: l, acc => by
    show (l.foldl (fun acc x => ins x acc) (ins x acc)).Perm (x :: (l ++ acc))
    refine (asc_perm_aux l (ins x acc)).trans ?_
    refine ((ins_perm x acc).append_left l).trans ?_
    exact List.perm_middle
theorem asc_perm (l : List Fr) : (asc l).Perm l := by
  have := asc_perm_aux l []
  rw [List.append_nil] at this
  exact this
theorem ins_srt {x : Fr} (hx : Pos x) : ∀ {l : List Fr}, (∀ y ∈ l, Pos y) → Srt l → Srt (ins x l)
  | [], _, _ => List.pairwise_singleton _ _
  | y :: l, p, s => by
    have py := p y (List.mem_cons_self ..)
    obtain ⟨s1, s2⟩ := List.pairwise_cons.mp s
    unfold ins
    split
    · rename_i c
      refine List.pairwise_cons.mpr ⟨fun z hz => ?_, s⟩
      rcases List.mem_cons.mp hz with rfl | hz
      · exact le_of_less c
      · exact fLe.trans py hx (p z (List.mem_cons_of_mem _ hz)) (le_of_less c) (s1 z hz)
    · rename_i c
      refine List.pairwise_cons.mpr ⟨fun z hz => ?_, ins_srt hx (fun z hz => p z (List.mem_cons_of_mem _ hz)) s2⟩
      rcases List.mem_cons.mp ((ins_perm x l).mem_iff.mp hz) with rfl | hz
      · exact less_false.mp (Bool.eq_false_iff.mpr c)
      · exact s1 z hz
theorem asc_srt_aux : ∀ (l acc : List Fr), (∀ y ∈ l, Pos y) → (∀ y ∈ acc, Pos y) → Srt acc → Srt (l.foldl (fun acc x => ins x acc) acc)
  | [], acc, _, _, s => s
  | x :: l, acc, p, q, s => by
    have hx := p x (List.mem_cons_self ..)
    exact asc_srt_aux l (ins x acc) (fun y hy => p y (List.mem_cons_of_mem _ hy)) (fun y hy => by
      rcases List.mem_cons.mp ((ins_perm x acc).mem_iff.mp hy) with rfl | hy
      · exact hx
      · exact q y hy) (ins_srt hx q s)
theorem asc_srt {l : List Fr} (p : ∀ y ∈ l, Pos y) : Srt (asc l) := asc_srt_aux l [] p (fun y hy => by cases hy) List.Pairwise.nil
theorem asc_len (l : List Fr) : (asc l).length = l.length := (asc_perm l).length_eq
theorem asc_mem {l : List Fr} {y : Fr} : y ∈ asc l ↔ y ∈ l := (asc_perm l).mem_iff
theorem asc_snoc (l : List Fr) (x : Fr) : asc (l ++ [x]) = ins x (asc l) := by
  unfold asc
  rw [List.foldl_append]
  rfl
/-- by the count of those that are not above: what the law does -/
theorem ins_count {x : Fr} : ∀ {l : List Fr}, Pos x → (∀ y ∈ l, Pos y) → Srt l →
    ins x l = l.take (l.filter fun y => !fLess x y).length ++ [x] ++ l.drop (l.filter fun y => !fLess x y).length
  | [], _, _, _ => rfl
  | y :: l, hx, p, s => by
    have py := p y (List.mem_cons_self ..)
    obtain ⟨s1, s2⟩ := List.pairwise_cons.mp s
    have p2 : ∀ z ∈ l, Pos z := fun z hz => p z (List.mem_cons_of_mem _ hz)
    unfold ins
    by_cases c : fLess x y = true
    · have e : (y :: l).filter (fun y => !fLess x y) = [] := by
        refine List.filter_eq_nil_iff.mpr fun z hz => ?_
        have : fLess x z = true := by
          rcases List.mem_cons.mp hz with rfl | hz
          · exact c
          · have l1 := s1 z hz
            cases q : fLess x z with
            | true => rfl
            | false =>
              have q2 : fLe z x := less_false.mp q
              have q3 : fLe y x := fLe.trans (p2 z hz) py hx l1 q2
              have c2 := less_iff.mp c
              unfold fLe at q3
              omega
        rw [this]; decide
      rw [e, if_pos c]
      rfl
    · have c' : fLess x y = false := Bool.eq_false_iff.mpr c
      rw [if_neg c, List.filter_cons_of_pos (by rw [c']; rfl), ins_count hx p2 s2]
      rfl
/-- from the end: what the program does: n is the place that it stops at -/
theorem ins_from_end {x : Fr} : ∀ {l : List Fr} (n : Nat), Pos x → (∀ y ∈ l, Pos y) → Srt l → n ≤ l.length → (∀ i y, n ≤ i → l[i]? = some y → fLess x y = true) → (n = 0 ∨ ∃ y, l[n - 1]? = some y ∧ fLess x y = false) →
    ins x l = l.take n ++ [x] ++ l.drop n
  | [], n, _, _, _, hn, _, _ => by
    have : n = 0 := by simpa using hn
    subst this
    rfl
  | y :: l, n, hx, p, s, hn, h1, h2 => by
    have py := p y (List.mem_cons_self ..)
    obtain ⟨s1, s2⟩ := List.pairwise_cons.mp s
    have p2 : ∀ z ∈ l, Pos z := fun z hz => p z (List.mem_cons_of_mem _ hz)
    unfold ins
    cases n with
    | zero =>
      have c := h1 0 y (Nat.le_refl _) rfl
      rw [if_pos c]
      rfl
    | succ n =>
      have c' : fLess x y = false := by
        rcases h2 with q | ⟨z, hz, hz2⟩
        · cases q
        · cases n with
          | zero =>
            have e : y = z := Option.some.inj hz
            rw [e]; exact hz2
          | succ n =>
            have hz' : l[n]? = some z := hz
            have m := List.mem_of_getElem? hz'
            exact less_false.mpr (fLe.trans (p2 z m) py hx (s1 z m) (less_false.mp hz2))
      rw [if_neg (by rw [c']; decide), ins_from_end n hx p2 s2 (Nat.le_of_succ_le_succ hn) (fun i z hi hz => h1 (i + 1) z (Nat.succ_le_succ hi) hz) ?_]
      · rfl
      · cases n with
        | zero => exact .inl rfl
        | succ n =>
          rcases h2 with q | ⟨z, hz, hz2⟩
          · cases q
          · exact .inr ⟨z, hz, hz2⟩
/-! ### order statistics -/
def leB (a b : Fr) : Bool := !fLess b a
theorem leB_iff {a b : Fr} : leB a b = true ↔ fLe a b := by
  unfold leB
  rw [Bool.not_eq_true', less_false]
theorem srt_count {l : List Fr} {z : Fr} {i : Nat} {y : Fr} (p : ∀ y ∈ l, Pos y) (hz : Pos z) (s : Srt l) (hi : l[i]? = some y) : fLe y z ↔ i < (l.filter fun u => leB u z).length := by
  induction l generalizing i with
  | nil => cases hi
  | cons u l ih =>
    obtain ⟨s1, s2⟩ := List.pairwise_cons.mp s
    have pu := p u (List.mem_cons_self ..)
    have p2 : ∀ z ∈ l, Pos z := fun z hz => p z (List.mem_cons_of_mem _ hz)
    cases i with
    | zero =>
      have e : u = y := Option.some.inj hi
      subst e
      constructor
      · intro h
        rw [List.filter_cons_of_pos (p := fun u => leB u z) (leB_iff.mpr h)]
        exact Nat.zero_lt_succ _
      · intro h
        cases q : leB u z with
        | true => exact leB_iff.mp q
        | false =>
          rw [List.filter_cons_of_neg (by rw [q]; decide)] at h
          obtain ⟨v, hv⟩ := List.exists_mem_of_length_pos h
          obtain ⟨hv1, hv2⟩ := List.mem_filter.mp hv
          exact fLe.trans (p2 v hv1) pu hz (s1 v hv1) (leB_iff.mp hv2)
    | succ i =>
      have hi' : l[i]? = some y := hi
      have := ih (i := i) p2 s2 hi'
      cases q : leB u z with
      | true =>
        rw [List.filter_cons_of_pos (p := fun u => leB u z) q, this]
        simp
      | false =>
        have no : ∀ v ∈ l, leB v z = false := fun v hv => by
          cases r : leB v z with
          | false => rfl
          | true =>
            have := fLe.trans (p2 v hv) pu hz (s1 v hv) (leB_iff.mp r)
            rw [leB_iff.mpr this] at q
            cases q
        rw [List.filter_cons_of_neg (by rw [q]; decide)]
        have e : l.filter (fun u => leB u z) = [] := List.filter_eq_nil_iff.mpr fun v hv => by rw [no v hv]; decide
        rw [e]
        constructor
        · intro h
          rw [this, e] at h
          simp at h
        · intro h
          simp at h
/-- pointwise -/
inductive All2 {α β : Type} (R : α → β → Prop) : List α → List β → Prop where
  | nil : All2 R [] []
  | cons {a : α} {b : β} {as : List α} {bs : List β} : R a b → All2 R as bs → All2 R (a :: as) (b :: bs)
theorem count_mono {z : Fr} (hz : Pos z) : ∀ {xs ys : List Fr}, All2 fLe xs ys → (∀ y ∈ xs, Pos y) → (∀ y ∈ ys, Pos y) → (ys.filter fun u => leB u z).length ≤ (xs.filter fun u => leB u z).length
  | _, _, .nil, _, _ => Nat.le_refl _
  | _, _, @All2.cons _ _ _ x y xs ys r t, p, q => by
    have ih := count_mono hz t (fun z hz => p z (List.mem_cons_of_mem _ hz)) fun z hz => q z (List.mem_cons_of_mem _ hz)
    have px := p x (List.mem_cons_self ..)
    have py := q y (List.mem_cons_self ..)
    cases c : leB y z with
    | true =>
      have c2 : leB x z = true := leB_iff.mpr (fLe.trans py px hz r (leB_iff.mp c))
      rw [List.filter_cons_of_pos (p := fun u => leB u z) c, List.filter_cons_of_pos (p := fun u => leB u z) c2]
      exact Nat.succ_le_succ ih
    | false =>
      rw [List.filter_cons_of_neg (by rw [c]; decide)]
      refine Nat.le_trans ih ?_
      rw [List.filter_cons]
      split
      · exact Nat.le_succ _
      · exact Nat.le_refl _
theorem All2.len {α β : Type} {R : α → β → Prop} : ∀ {as : List α} {bs : List β}, All2 R as bs → as.length = bs.length
  | _, _, .nil => rfl
  | _, _, .cons _ t => by rw [List.length_cons, List.length_cons, All2.len t]
theorem filter_len_perm {l m : List Fr} (h : l.Perm m) (p : Fr → Bool) : (l.filter p).length = (m.filter p).length := (h.filter p).length_eq
theorem asc_mono {xs ys : List Fr} (h : All2 fLe xs ys) (p : ∀ y ∈ xs, Pos y) (q : ∀ y ∈ ys, Pos y) {i : Nat} {x y : Fr} (hx : (asc xs)[i]? = some x) (hy : (asc ys)[i]? = some y) : fLe x y := by
  have p' : ∀ y ∈ asc xs, Pos y := fun y hy => p y (asc_mem.mp hy)
  have q' : ∀ y ∈ asc ys, Pos y := fun y hy => q y (asc_mem.mp hy)
  have py : Pos y := q' y (List.mem_of_getElem? hy)
  have c1 := (srt_count q' py (asc_srt q) hy).mp (fLe.refl y)
  refine (srt_count p' py (asc_srt p) hx).mpr ?_
  rw [filter_len_perm (asc_perm xs)]
  rw [filter_len_perm (asc_perm ys)] at c1
  exact Nat.lt_of_lt_of_le c1 (count_mono py h p q)
/-- the first and the last of the sorted ones -/
theorem asc_head {l : List Fr} (h : l ≠ []) (p : ∀ y ∈ l, Lo y) : (asc l)[0]? = some (fMinL l) := by
  have pp : ∀ y ∈ l, Pos y := fun y hy => (p y hy).1
  have ne : 0 < (asc l).length := by
    rw [asc_len]
    exact List.length_pos_iff.mpr h
  have e := List.getElem?_eq_getElem ne
  rw [e]
  have m1 : (asc l)[0] ∈ l := asc_mem.mp (List.getElem_mem ne)
  have m2 := minL_mem h pp
  have l1 := minL_le pp m1
  have l2 : fLe (asc l)[0] (fMinL l) := by
    have s := asc_srt pp
    obtain ⟨j, hj, ej⟩ := List.mem_iff_getElem.mp (asc_mem.mpr m2)
    by_cases c : j = 0
    · subst c
      rw [ej]
      exact fLe.refl _
    · have := List.pairwise_iff_getElem.mp s 0 j ne hj (by omega)
      rw [ej] at this
      exact this
  rw [lo_antisymm (p _ m1) (p _ m2) l2 l1]
theorem asc_last {l : List Fr} (h : l ≠ []) (p : ∀ y ∈ l, Lo y) : (asc l)[l.length - 1]? = some (fMaxL l) := by
  have pp : ∀ y ∈ l, Pos y := fun y hy => (p y hy).1
  have hl : 0 < l.length := List.length_pos_iff.mpr h
  have ne : l.length - 1 < (asc l).length := by
    rw [asc_len]
    omega
  have e := List.getElem?_eq_getElem ne
  rw [e]
  have m1 : (asc l)[l.length - 1] ∈ l := asc_mem.mp (List.getElem_mem ne)
  have m2 := maxL_mem h pp
  have l1 := maxL_ge pp m1
  have l2 : fLe (fMaxL l) (asc l)[l.length - 1] := by
    have s := asc_srt pp
    obtain ⟨j, hj, ej⟩ := List.mem_iff_getElem.mp (asc_mem.mpr m2)
    by_cases c : j = l.length - 1
    · subst c
      rw [ej]
      exact fLe.refl _
    · have hj' : j < l.length := by rw [asc_len] at hj; exact hj
      have := List.pairwise_iff_getElem.mp s j (l.length - 1) hj ne (by omega)
      rw [ej] at this
      exact this
  rw [lo_antisymm (p _ m1) (p _ m2) l1 l2]
end Cb
namespace Cb
theorem All2.map {α β γ δ : Type} {R : γ → δ → Prop} {f : α → γ} {g : β → δ} : ∀ {as : List α} {bs : List β}, All2 (fun a b => R (f a) (g b)) as bs → All2 R (as.map f) (bs.map g)
  | _, _, .nil => .nil
  | _, _, .cons r t => .cons r (All2.map t)
theorem All2.same {α : Type} {R : α → α → Prop} : ∀ {as : List α}, (∀ a ∈ as, R a a) → All2 R as as
  | [], _ => .nil
  | a :: as, h => .cons (h a (List.mem_cons_self ..)) (All2.same fun b hb => h b (List.mem_cons_of_mem _ hb))
/-! ### means -/
def fSum (wvs : List (Int × Fr)) : Fr := wvs.foldl (fun t p => fPlus t (fTimes (p.1, 1) p.2)) (0, 1)
def wSum (wvs : List (Int × Fr)) : Int := (wvs.map (·.1)).sum
def fMean (wvs : List (Int × Fr)) : Fr := fTimes (fSum wvs) (1, wSum wvs)
theorem le_made {t b t' b' : Int} (hb : 0 < b) (hb' : 0 < b') (h : t * b' ≤ t' * b) : fLe (fMade t b) (fMade t' b') := by
  have e1 := made_eq (t := t) hb
  have e2 := made_eq (t := t') hb'
  have p1 := (made_lo (t := t) hb).1
  have p2 := (made_lo (t := t') hb').1
  unfold fLe
  generalize (fMade t b).1 = x at e1 ⊢
  generalize (fMade t b).2 = y at e1 p1 ⊢
  generalize (fMade t' b').1 = x' at e2 ⊢
  generalize (fMade t' b').2 = y' at e2 p2 ⊢
  have h2 : t * b' * (y * y') ≤ t' * b * (y * y') := Int.mul_le_mul_of_nonneg_right h (Int.le_of_lt (Int.mul_pos p1 p2))
  have l : t * b' * (y * y') = x * y' * (b * b') := by
    have : t * b' * (y * y') = (t * y) * (b' * y') := by simp only [Int.mul_assoc, Int.mul_left_comm, Int.mul_comm]
    rw [this, ← e1]
    simp only [Int.mul_assoc, Int.mul_left_comm, Int.mul_comm]
  have r : t' * b * (y * y') = x' * y * (b * b') := by
    have : t' * b * (y * y') = (t' * y') * (b * y) := by simp only [Int.mul_assoc, Int.mul_left_comm, Int.mul_comm]
    rw [this, ← e2]
    simp only [Int.mul_assoc, Int.mul_left_comm, Int.mul_comm]
  rw [l, r] at h2
  exact Int.le_of_mul_le_mul_right h2 (Int.mul_pos hb hb')
theorem plus_mono {a b a' b' : Fr} (pa : Pos a) (pb : Pos b) (pa' : Pos a') (pb' : Pos b') (h1 : fLe a a') (h2 : fLe b b') : fLe (fPlus a b) (fPlus a' b') := by
  refine le_made (Int.mul_pos pa pb) (Int.mul_pos pa' pb') ?_
  obtain ⟨a1, a2⟩ := a
  obtain ⟨b1, b2⟩ := b
  obtain ⟨c1, c2⟩ := a'
  obtain ⟨d1, d2⟩ := b'
  unfold fLe at h1 h2
  unfold Pos at pa pb pa' pb'
  dsimp only at *
  have x1 : a1 * c2 * (b2 * d2) ≤ c1 * a2 * (b2 * d2) := Int.mul_le_mul_of_nonneg_right h1 (Int.le_of_lt (Int.mul_pos pb pb'))
  have x2 : b1 * d2 * (a2 * c2) ≤ d1 * b2 * (a2 * c2) := Int.mul_le_mul_of_nonneg_right h2 (Int.le_of_lt (Int.mul_pos pa pa'))
  have l : (a1 * b2 + b1 * a2) * (c2 * d2) = a1 * c2 * (b2 * d2) + b1 * d2 * (a2 * c2) := by
    rw [Int.add_mul]
    congr 1 <;> simp only [Int.mul_assoc, Int.mul_left_comm, Int.mul_comm]
  have r : (c1 * d2 + d1 * c2) * (a2 * b2) = c1 * a2 * (b2 * d2) + d1 * b2 * (a2 * c2) := by
    rw [Int.add_mul]
    congr 1 <;> simp only [Int.mul_assoc, Int.mul_left_comm, Int.mul_comm]
  rw [l, r]
  omega
theorem times_mono {a b b' : Fr} (pa : Pos a) (na : 0 ≤ a.1) (pb : Pos b) (pb' : Pos b') (h : fLe b b') : fLe (fTimes a b) (fTimes a b') := by
  refine le_made (Int.mul_pos pa pb) (Int.mul_pos pa pb') ?_
  obtain ⟨a1, a2⟩ := a
  obtain ⟨b1, b2⟩ := b
  obtain ⟨d1, d2⟩ := b'
  unfold fLe at h
  unfold Pos at pa pb pb'
  dsimp only at *
  have x : b1 * d2 * (a1 * a2) ≤ d1 * b2 * (a1 * a2) := Int.mul_le_mul_of_nonneg_right h (Int.mul_nonneg na (Int.le_of_lt pa))
  have l : a1 * b1 * (a2 * d2) = b1 * d2 * (a1 * a2) := by simp only [Int.mul_assoc, Int.mul_left_comm, Int.mul_comm]
  have r : a1 * d1 * (a2 * b2) = d1 * b2 * (a1 * a2) := by simp only [Int.mul_assoc, Int.mul_left_comm, Int.mul_comm]
  rw [l, r]
  exact x
theorem times_comm (a b : Fr) : fTimes a b = fTimes b a := by
  unfold fTimes
  rw [Int.mul_comm a.1, Int.mul_comm a.2]
def Wt (wvs : List (Int × Fr)) : Prop := ∀ p ∈ wvs, 1 ≤ p.1 ∧ Pos p.2
theorem sum_step {t : Fr} (pt : Pos t) {p : Int × Fr} (h : Pos p.2) : Lo (fPlus t (fTimes (p.1, 1) p.2)) :=
  plus_lo pt (times_lo (by show (0 : Int) < 1; decide) h).1
theorem sum_aux_pos : ∀ (l : List (Int × Fr)) (t : Fr), Lo t → Wt l → Lo (l.foldl (fun t p => fPlus t (fTimes (p.1, 1) p.2)) t)
  | [], t, h, _ => h
  | p :: l, t, h, w => sum_aux_pos l _ (sum_step h.1 (w p (List.mem_cons_self ..)).2) fun q hq => w q (List.mem_cons_of_mem _ hq)
theorem lo_zero : Lo (0, 1) := ⟨by decide, by decide⟩
theorem lo_one : Lo (1, 1) := ⟨by decide, by decide⟩
theorem fSum_lo {l : List (Int × Fr)} (w : Wt l) : Lo (fSum l) := sum_aux_pos l _ lo_zero w
theorem sum_aux_mono : ∀ {l m : List (Int × Fr)} {t u : Fr}, All2 (fun p q => p.1 = q.1 ∧ fLe p.2 q.2) l m → Lo t → Lo u → fLe t u → Wt l → Wt m →
    fLe (l.foldl (fun t p => fPlus t (fTimes (p.1, 1) p.2)) t) (m.foldl (fun t p => fPlus t (fTimes (p.1, 1) p.2)) u)
  | _, _, _, _, .nil, _, _, h, _, _ => h
  | _, _, t, u, @All2.cons _ _ _ p q l m r tl, ht, hu, h, wl, wm => by
    obtain ⟨e, r⟩ := r
    have wp := wl p (List.mem_cons_self ..)
    have wq := wm q (List.mem_cons_self ..)
    refine sum_aux_mono (l := l) (m := m) (t := fPlus t (fTimes (p.1, 1) p.2)) (u := fPlus u (fTimes (q.1, 1) q.2)) tl (sum_step ht.1 wp.2) (sum_step hu.1 wq.2) ?_ (fun z hz => wl z (List.mem_cons_of_mem _ hz)) fun z hz => wm z (List.mem_cons_of_mem _ hz)
    rw [← e]
    have o : (0 : Int) < 1 := by decide
    exact plus_mono ht.1 (times_lo o wp.2).1 hu.1 (times_lo o wq.2).1 h (times_mono o (by have := wp.1; show 0 ≤ p.1; omega) wp.2 wq.2 r)
theorem wSum_pos : ∀ {l : List (Int × Fr)}, l ≠ [] → Wt l → 0 < wSum l
  | [], h, _ => absurd rfl h
  | [p], _, w => by
    have := (w p (List.mem_cons_self ..)).1
    simp [wSum]
    omega
  | p :: q :: l, _, w => by
    have := (w p (List.mem_cons_self ..)).1
    have ih := wSum_pos (l := q :: l) (by simp) fun z hz => w z (List.mem_cons_of_mem _ hz)
    have e : wSum (p :: q :: l) = p.1 + wSum (q :: l) := by simp [wSum]
    omega
theorem mean_lo {l : List (Int × Fr)} (h : l ≠ []) (w : Wt l) : Lo (fMean l) := times_lo (fSum_lo w).1 (wSum_pos h w)
theorem mean_mono {l m : List (Int × Fr)} (h : l ≠ []) (r : All2 (fun p q => p.1 = q.1 ∧ fLe p.2 q.2) l m) (wl : Wt l) (wm : Wt m) : fLe (fMean l) (fMean m) := by
  have e : wSum l = wSum m := by
    have : l.map (·.1) = m.map (·.1) := by
      clear h wl wm
      induction r with
      | nil => rfl
      | cons r _ ih => rw [List.map_cons, List.map_cons, r.1, ih]
    unfold wSum
    rw [this]
  unfold fMean
  rw [← e, times_comm (fSum l), times_comm (fSum m)]
  exact times_mono (wSum_pos h wl) (by show (0 : Int) ≤ 1; decide) (fSum_lo wl).1 (fSum_lo wm).1 (sum_aux_mono r lo_zero lo_zero (fLe.refl _) wl wm)
/-! ### terms -/
inductive Tm where
  | bid (p : Nat)
  | fixed (f : Fr)
  | mean (ps : List (Int × Tm))
  | least (ts : List Tm)
  | greatest (ts : List Tm)
  | ranked (k : Nat) (ts : List Tm)
  | between (lo hi : Fr) (t : Tm)
def mid3 (a b c : Fr) : Fr := (asc [a, b, c]).getD 1 (0, 1)
/-- what a term tells at bids; n: how deep it is looked at -/
def val (bids : List Fr) : Nat → Tm → Fr
  | 0, _ => (0, 1)
  | _ + 1, .bid p => bids.getD p (0, 1)
  | _ + 1, .fixed f => f
  | n + 1, .mean ps => fMean (ps.map fun p => (p.1, val bids n p.2))
  | n + 1, .least ts => fMinL (ts.map (val bids n))
  | n + 1, .greatest ts => fMaxL (ts.map (val bids n))
  | n + 1, .ranked k ts => (asc (ts.map (val bids n))).getD (ts.length - k) (0, 1)
  | n + 1, .between lo hi t => mid3 lo hi (val bids n t)
/-- a right term of at most six parts each, nested at most n deep -/
def Wf (people : Nat) : Nat → Tm → Prop
  | 0, _ => False
  | _ + 1, .bid p => p < people
  | _ + 1, .fixed f => Num f ∧ Bt 20 f
  | n + 1, .mean ps => ps ≠ [] ∧ ps.length ≤ 6 ∧ ∀ p ∈ ps, 1 ≤ p.1 ∧ p.1 ≤ 99 ∧ Wf people n p.2
  | n + 1, .least ts => ts ≠ [] ∧ ts.length ≤ 6 ∧ ∀ t ∈ ts, Wf people n t
  | n + 1, .greatest ts => ts ≠ [] ∧ ts.length ≤ 6 ∧ ∀ t ∈ ts, Wf people n t
  | n + 1, .ranked k ts => 1 ≤ k ∧ k ≤ ts.length ∧ ts.length ≤ 6 ∧ ∀ t ∈ ts, Wf people n t
  | n + 1, .between lo hi t => Num lo ∧ Bt 20 lo ∧ Num hi ∧ Bt 20 hi ∧ fLe lo hi ∧ Wf people n t
/-- the number of its terms -/
def cnt : Nat → Tm → Nat
  | 0, _ => 0
  | _ + 1, .bid _ => 1
  | _ + 1, .fixed _ => 1
  | n + 1, .mean ps => 1 + (ps.map fun p => cnt n p.2).sum
  | n + 1, .least ts => 1 + (ts.map (cnt n)).sum
  | n + 1, .greatest ts => 1 + (ts.map (cnt n)).sum
  | n + 1, .ranked _ ts => 1 + (ts.map (cnt n)).sum
  | n + 1, .between _ _ t => 1 + cnt n t
theorem cnt_part {n : Nat} {ts : List Tm} {t : Tm} (h : t ∈ ts) : cnt n t ≤ (ts.map (cnt n)).sum := by
  induction ts with
  | nil => cases h
  | cons a l ih =>
    rw [List.map_cons, List.sum_cons]
    rcases List.mem_cons.mp h with rfl | h
    · omega
    · have := ih h
      omega
theorem cnt_partM {n : Nat} {ps : List (Int × Tm)} {p : Int × Tm} (h : p ∈ ps) : cnt n p.2 ≤ (ps.map fun p => cnt n p.2).sum := by
  induction ps with
  | nil => cases h
  | cons a l ih =>
    rw [List.map_cons, List.sum_cons]
    rcases List.mem_cons.mp h with rfl | h
    · omega
    · have := ih h
      omega
/-! ### bids -/
def BOk (people : Nat) (bids : List Fr) : Prop := bids.length = people ∧ ∀ f ∈ bids, Lo f ∧ Bt 64 f
theorem getD_of {α : Type} {l : List α} {i : Nat} {d : α} (h : i < l.length) : ∃ x, l[i]? = some x ∧ l.getD i d = x ∧ x ∈ l :=
  ⟨l[i], List.getElem?_eq_getElem h, by rw [List.getD_eq_getElem?_getD, List.getElem?_eq_getElem h]; rfl, List.getElem_mem h⟩
theorem asc_getD {l : List Fr} {i : Nat} (h : i < l.length) : ∃ x, (asc l)[i]? = some x ∧ (asc l).getD i (0, 1) = x ∧ x ∈ l := by
  obtain ⟨x, h1, h2, h3⟩ := getD_of (l := asc l) (i := i) (d := ((0, 1) : Fr)) (by rw [asc_len]; exact h)
  exact ⟨x, h1, h2, asc_mem.mp h3⟩
theorem bt_one : Bt 64 (1, 1) := ⟨by decide, by decide⟩
theorem bt_zero : Bt 64 (0, 1) := ⟨by decide, by decide⟩
/-! ### the size of means -/
def szW (cs : List Nat) : Nat := (cs.map fun c => 64 * c + 8).sum
theorem sum_bt : ∀ (l : List (Int × Fr)) (cs : List Nat) (t : Fr) (B : Nat), Lo t → Bt B t → All2 (fun p c => 1 ≤ p.1 ∧ p.1 ≤ 99 ∧ Lo p.2 ∧ Bt (64 * c) p.2) l cs →
    Bt (B + szW cs) (l.foldl (fun t p => fPlus t (fTimes (p.1, 1) p.2)) t)
  | _, _, t, B, _, hb, .nil => hb
  | _, _, t, B, ht, hb, @All2.cons _ _ _ p c l cs ⟨h1, h2, h3, h4⟩ tl => by
    have bw : Bt 7 (p.1, 1) := ⟨by show p.1.natAbs < 128; omega, by show (1 : Int).natAbs < 2 ^ 7; decide⟩
    have b2 := times_bt (a := (p.1, 1)) (by show (0 : Int) < 1; decide) h3.1 bw h4
    have b3 := plus_bt ht (times_lo (a := (p.1, 1)) (by show (0 : Int) < 1; decide) h3.1) hb b2
    have := sum_bt l cs _ _ (sum_step ht.1 h3.1) b3 tl
    refine this.mono ?_
    show B + (7 + 64 * c) + 1 + szW cs ≤ B + ((64 * c + 8) + szW cs)
    omega
theorem szW_le : ∀ cs : List Nat, szW cs = 64 * cs.sum + 8 * cs.length
  | [] => rfl
  | c :: cs => by
    have := szW_le cs
    show (64 * c + 8) + szW cs = 64 * (c + cs.sum) + 8 * (cs.length + 1)
    omega
theorem wSum_le : ∀ (l : List (Int × Fr)), (∀ p ∈ l, 1 ≤ p.1 ∧ p.1 ≤ 99) → wSum l ≤ 99 * l.length ∧ 0 ≤ wSum l
  | [], _ => ⟨by decide, by decide⟩
  | p :: l, h => by
    have ih := wSum_le l fun q hq => h q (List.mem_cons_of_mem _ hq)
    have hp := h p (List.mem_cons_self ..)
    have e : wSum (p :: l) = p.1 + wSum l := by simp [wSum]
    rw [e, List.length_cons]
    have : ((l.length + 1 : Nat) : Int) = l.length + 1 := by omega
    omega
theorem mean_bt {l : List (Int × Fr)} {cs : List Nat} (h : All2 (fun p c => 1 ≤ p.1 ∧ p.1 ≤ 99 ∧ Lo p.2 ∧ Bt (64 * c) p.2) l cs) (hn : l ≠ []) (h6 : l.length ≤ 6) : Bt (64 * (1 + cs.sum)) (fMean l) := by
  have hall : ∀ p ∈ l, 1 ≤ p.1 ∧ p.1 ≤ 99 ∧ Lo p.2 := by
    clear hn h6
    induction h with
    | nil => intro p hp; cases hp
    | cons r _ ih =>
      intro p hp
      rcases List.mem_cons.mp hp with rfl | hp
      · exact ⟨r.1, r.2.1, r.2.2.1⟩
      · exact ih p hp
  have wt : Wt l := fun p hp => ⟨(hall p hp).1, (hall p hp).2.2.1⟩
  have b := sum_bt l cs (0, 1) 1 lo_zero ⟨by decide, by decide⟩ h
  have ws := wSum_le l fun p hp => ⟨(hall p hp).1, (hall p hp).2.1⟩
  have wp := wSum_pos hn wt
  have bw : Bt 10 (1, wSum l) := ⟨by show (1 : Int).natAbs < 2 ^ 10; decide, by show (wSum l).natAbs < 1024; omega⟩
  refine (times_bt (fSum_lo wt).1 wp b bw).mono ?_
  have e := szW_le cs
  have e2 := h.len
  omega
/-! ### a term's number is in lowest terms, and not too large -/
theorem val_ok {people : Nat} {bids : List Fr} (hb : BOk people bids) : ∀ (n : Nat) (t : Tm), Wf people n t → Lo (val bids n t) ∧ Bt (64 * cnt n t) (val bids n t)
  | 0, _, h => h.elim
  | n + 1, .bid p, h => by
    have hp : p < bids.length := by rw [hb.1]; exact h
    obtain ⟨x, _, e, m⟩ := getD_of (d := ((0, 1) : Fr)) hp
    show Lo (bids.getD p (0, 1)) ∧ Bt 64 (bids.getD p (0, 1))
    rw [e]
    exact hb.2 x m
  | n + 1, .fixed f, h => ⟨h.1.1, h.2.mono (by show 20 ≤ 64 * 1; decide)⟩
  | n + 1, .mean ps, h => by
    obtain ⟨h1, h2, h3⟩ := h
    have a : All2 (fun (p : Int × Fr) c => 1 ≤ p.1 ∧ p.1 ≤ 99 ∧ Lo p.2 ∧ Bt (64 * c) p.2) (ps.map fun p => (p.1, val bids n p.2)) (ps.map fun p => cnt n p.2) := by
      refine All2.map (R := fun (p : Int × Fr) c => 1 ≤ p.1 ∧ p.1 ≤ 99 ∧ Lo p.2 ∧ Bt (64 * c) p.2) (f := fun p : Int × Tm => (p.1, val bids n p.2)) (g := fun p : Int × Tm => cnt n p.2) (All2.same fun p hp => ?_)
      obtain ⟨w1, w2, wf⟩ := h3 p hp
      obtain ⟨v1, v2⟩ := val_ok hb n p.2 wf
      exact ⟨w1, w2, v1, v2⟩
    have ne : (ps.map fun p => (p.1, val bids n p.2)) ≠ [] := by simpa using h1
    refine ⟨mean_lo ne fun q hq => ?_, mean_bt a ne (by rw [List.length_map]; exact h2)⟩
    obtain ⟨p, hp, rfl⟩ := List.mem_map.mp hq
    obtain ⟨w1, w2, wf⟩ := h3 p hp
    exact ⟨w1, (val_ok hb n p.2 wf).1.1⟩
  | n + 1, .least ts, h => by
    obtain ⟨h1, h2, h3⟩ := h
    have ok : ∀ y ∈ ts.map (val bids n), Lo y ∧ Bt (64 * (ts.map (cnt n)).sum) y := fun y hy => by
      obtain ⟨t, ht, rfl⟩ := List.mem_map.mp hy
      obtain ⟨a, b⟩ := val_ok hb n t (h3 t ht)
      exact ⟨a, b.mono (Nat.mul_le_mul_left _ (cnt_part ht))⟩
    have m := minL_mem (l := ts.map (val bids n)) (by simpa using h1) fun y hy => (ok y hy).1.1
    exact ⟨(ok _ m).1, (ok _ m).2.mono (by show 64 * _ ≤ 64 * (1 + _); omega)⟩
  | n + 1, .greatest ts, h => by
    obtain ⟨h1, h2, h3⟩ := h
    have ok : ∀ y ∈ ts.map (val bids n), Lo y ∧ Bt (64 * (ts.map (cnt n)).sum) y := fun y hy => by
      obtain ⟨t, ht, rfl⟩ := List.mem_map.mp hy
      obtain ⟨a, b⟩ := val_ok hb n t (h3 t ht)
      exact ⟨a, b.mono (Nat.mul_le_mul_left _ (cnt_part ht))⟩
    have m := maxL_mem (l := ts.map (val bids n)) (by simpa using h1) fun y hy => (ok y hy).1.1
    exact ⟨(ok _ m).1, (ok _ m).2.mono (by show 64 * _ ≤ 64 * (1 + _); omega)⟩
  | n + 1, .ranked k ts, h => by
    obtain ⟨h1, h2, h6, h3⟩ := h
    have ok : ∀ y ∈ ts.map (val bids n), Lo y ∧ Bt (64 * (ts.map (cnt n)).sum) y := fun y hy => by
      obtain ⟨t, ht, rfl⟩ := List.mem_map.mp hy
      obtain ⟨a, b⟩ := val_ok hb n t (h3 t ht)
      exact ⟨a, b.mono (Nat.mul_le_mul_left _ (cnt_part ht))⟩
    obtain ⟨x, _, e, m⟩ := asc_getD (l := ts.map (val bids n)) (i := ts.length - k) (by rw [List.length_map]; omega)
    show Lo ((asc (ts.map (val bids n))).getD (ts.length - k) (0, 1)) ∧ Bt (64 * (1 + (ts.map (cnt n)).sum)) ((asc (ts.map (val bids n))).getD (ts.length - k) (0, 1))
    rw [e]
    exact ⟨(ok _ m).1, (ok _ m).2.mono (by omega)⟩
  | n + 1, .between lo hi t, h => by
    obtain ⟨h1, h2, h3, h4, h5, h6⟩ := h
    obtain ⟨a, b⟩ := val_ok hb n t h6
    have ok : ∀ y ∈ [lo, hi, val bids n t], Lo y ∧ Bt (64 * (1 + cnt n t)) y := fun y hy => by
      simp only [List.mem_cons, List.mem_nil_iff, or_false] at hy
      rcases hy with rfl | rfl | rfl
      · exact ⟨h1.1, h2.mono (by omega)⟩
      · exact ⟨h3.1, h4.mono (by omega)⟩
      · exact ⟨a, b.mono (by omega)⟩
    obtain ⟨x, _, e, m⟩ := asc_getD (l := [lo, hi, val bids n t]) (i := 1) (by simp)
    show Lo ((asc [lo, hi, val bids n t]).getD 1 (0, 1)) ∧ Bt (64 * (1 + cnt n t)) ((asc [lo, hi, val bids n t]).getD 1 (0, 1))
    rw [e]
    exact ok x m
/-! ### more bids, more -/
theorem minL_mono {xs ys : List Fr} (h : All2 fLe xs ys) (hn : xs ≠ []) (p : ∀ y ∈ xs, Pos y) (q : ∀ y ∈ ys, Pos y) : fLe (fMinL xs) (fMinL ys) := by
  have hn2 : ys ≠ [] := by
    intro e
    have := h.len
    rw [e] at this
    exact hn (List.eq_nil_of_length_eq_zero this)
  have m := minL_mem hn2 q
  obtain ⟨x, hx, hl⟩ : ∃ x ∈ xs, fLe x (fMinL ys) := by
    generalize fMinL ys = z at m
    clear hn hn2 p q
    induction h with
    | nil => cases m
    | cons r _ ih =>
      rcases List.mem_cons.mp m with rfl | m
      · exact ⟨_, List.mem_cons_self .., r⟩
      · obtain ⟨x, hx, hl⟩ := ih m
        exact ⟨x, List.mem_cons_of_mem _ hx, hl⟩
  exact fLe.trans (p x hx) (p _ (minL_mem hn p)) (q _ m) (minL_le p hx) hl
theorem maxL_mono {xs ys : List Fr} (h : All2 fLe xs ys) (hn : xs ≠ []) (p : ∀ y ∈ xs, Pos y) (q : ∀ y ∈ ys, Pos y) : fLe (fMaxL xs) (fMaxL ys) := by
  have hn2 : ys ≠ [] := by
    intro e
    have := h.len
    rw [e] at this
    exact hn (List.eq_nil_of_length_eq_zero this)
  have m := maxL_mem hn p
  have pm := p _ m
  obtain ⟨y, hy, hl⟩ : ∃ y ∈ ys, fLe (fMaxL xs) y := by
    generalize fMaxL xs = z at m
    clear hn hn2 p q pm
    induction h with
    | nil => cases m
    | cons r _ ih =>
      rcases List.mem_cons.mp m with rfl | m
      · exact ⟨_, List.mem_cons_self .., r⟩
      · obtain ⟨x, hx, hl⟩ := ih m
        exact ⟨x, List.mem_cons_of_mem _ hx, hl⟩
  exact fLe.trans (q y hy) pm (q _ (maxL_mem hn2 q)) hl (maxL_ge q hy)
theorem All2.getD {R : Fr → Fr → Prop} : ∀ {as bs : List Fr}, All2 R as bs → ∀ {i : Nat} {d : Fr}, i < as.length → R (as.getD i d) (bs.getD i d)
  | _, _, .cons r _, 0, _, _ => r
  | _, _, .cons _ t, i + 1, d, h => All2.getD t (i := i) (Nat.lt_of_succ_lt_succ h)
theorem val_mono {people : Nat} {bids bids' : List Fr} (hb : BOk people bids) (hb' : BOk people bids') (h : All2 fLe bids bids') : ∀ (n : Nat) (t : Tm), Wf people n t → fLe (val bids n t) (val bids' n t)
  | 0, _, h => h.elim
  | n + 1, .bid p, hw => All2.getD h (by rw [hb.1]; exact hw)
  | n + 1, .fixed f, _ => fLe.refl f
  | n + 1, .mean ps, hw => by
    obtain ⟨h1, h2, h3⟩ := hw
    refine mean_mono (by simpa using h1) (All2.map (R := fun (p q : Int × Fr) => p.1 = q.1 ∧ fLe p.2 q.2) (f := fun p : Int × Tm => (p.1, val bids n p.2)) (g := fun p : Int × Tm => (p.1, val bids' n p.2)) (All2.same fun p hp => ⟨rfl, val_mono hb hb' h n p.2 (h3 p hp).2.2⟩)) (fun q hq => ?_) fun q hq => ?_
    · obtain ⟨p, hp, rfl⟩ := List.mem_map.mp hq
      exact ⟨(h3 p hp).1, (val_ok hb n p.2 (h3 p hp).2.2).1.1⟩
    · obtain ⟨p, hp, rfl⟩ := List.mem_map.mp hq
      exact ⟨(h3 p hp).1, (val_ok hb' n p.2 (h3 p hp).2.2).1.1⟩
  | n + 1, .least ts, hw => by
    obtain ⟨h1, h2, h3⟩ := hw
    refine minL_mono (All2.map (All2.same fun t ht => val_mono hb hb' h n t (h3 t ht))) (by simpa using h1) (fun y hy => ?_) fun y hy => ?_
    · obtain ⟨t, ht, rfl⟩ := List.mem_map.mp hy
      exact (val_ok hb n t (h3 t ht)).1.1
    · obtain ⟨t, ht, rfl⟩ := List.mem_map.mp hy
      exact (val_ok hb' n t (h3 t ht)).1.1
  | n + 1, .greatest ts, hw => by
    obtain ⟨h1, h2, h3⟩ := hw
    refine maxL_mono (All2.map (All2.same fun t ht => val_mono hb hb' h n t (h3 t ht))) (by simpa using h1) (fun y hy => ?_) fun y hy => ?_
    · obtain ⟨t, ht, rfl⟩ := List.mem_map.mp hy
      exact (val_ok hb n t (h3 t ht)).1.1
    · obtain ⟨t, ht, rfl⟩ := List.mem_map.mp hy
      exact (val_ok hb' n t (h3 t ht)).1.1
  | n + 1, .ranked k ts, hw => by
    obtain ⟨h1, h2, h6, h3⟩ := hw
    obtain ⟨x, ex, e, _⟩ := asc_getD (l := ts.map (val bids n)) (i := ts.length - k) (by rw [List.length_map]; omega)
    obtain ⟨y, ey, e', _⟩ := asc_getD (l := ts.map (val bids' n)) (i := ts.length - k) (by rw [List.length_map]; omega)
    show fLe ((asc (ts.map (val bids n))).getD (ts.length - k) (0, 1)) ((asc (ts.map (val bids' n))).getD (ts.length - k) (0, 1))
    rw [e, e']
    refine asc_mono (All2.map (All2.same fun t ht => val_mono hb hb' h n t (h3 t ht))) (fun y hy => ?_) (fun y hy => ?_) ex ey
    · obtain ⟨t, ht, rfl⟩ := List.mem_map.mp hy
      exact (val_ok hb n t (h3 t ht)).1.1
    · obtain ⟨t, ht, rfl⟩ := List.mem_map.mp hy
      exact (val_ok hb' n t (h3 t ht)).1.1
  | n + 1, .between lo hi t, hw => by
    obtain ⟨h1, h2, h3, h4, h5, h6⟩ := hw
    obtain ⟨x, ex, e, _⟩ := asc_getD (l := [lo, hi, val bids n t]) (i := 1) (by simp)
    obtain ⟨y, ey, e', _⟩ := asc_getD (l := [lo, hi, val bids' n t]) (i := 1) (by simp)
    show fLe ((asc [lo, hi, val bids n t]).getD 1 (0, 1)) ((asc [lo, hi, val bids' n t]).getD 1 (0, 1))
    rw [e, e']
    refine asc_mono (.cons (fLe.refl _) (.cons (fLe.refl _) (.cons (val_mono hb hb' h n t h6) .nil))) (fun y hy => ?_) (fun y hy => ?_) ex ey
    · simp only [List.mem_cons, List.mem_nil_iff, or_false] at hy
      rcases hy with rfl | rfl | rfl
      · exact h1.1.1
      · exact h3.1.1
      · exact (val_ok hb n t h6).1.1
    · simp only [List.mem_cons, List.mem_nil_iff, or_false] at hy
      rcases hy with rfl | rfl | rfl
      · exact h1.1.1
      · exact h3.1.1
      · exact (val_ok hb' n t h6).1.1
end Cb
namespace Cb
/-! ### lots -/
abbrev Lot := List Nat
def iLot (l : Lot) : List Int := l.map Int.ofNat
def lexL (a b : Lot) : Bool := HT.lexLt (iLot a) (iLot b)
theorem lex_total : ∀ a b : List Int, HT.lexLt a b = false → HT.lexLt b a = false → a = b
  | [], [], _, _ => rfl
  | [], y :: ys, h, _ => by rw [HT.lexLt_nil_cons] at h; cases h
  | x :: xs, [], _, h => by rw [HT.lexLt_nil_cons] at h; cases h
  | x :: xs, y :: ys, h1, h2 => by
    rw [HT.lexLt_cons] at h1 h2
    by_cases e : x = y
    · subst e
      rw [if_pos rfl] at h1 h2
      rw [lex_total xs ys h1 h2]
    · rw [if_neg e] at h1
      rw [if_neg (Ne.symm e)] at h2
      have a := of_decide_eq_false h1
      have b := of_decide_eq_false h2
      omega
theorem iLot_inj : ∀ {a b : Lot}, iLot a = iLot b → a = b
  | [], [], _ => rfl
  | [], _ :: _, h => by cases h
  | _ :: _, [], h => by cases h
  | x :: a, y :: b, h => by
    have h' : Int.ofNat x :: iLot a = Int.ofNat y :: iLot b := h
    injection h' with h1 h2
    rw [iLot_inj h2, Int.ofNat.inj h1]
def LSrt (l : List Lot) : Prop := l.Pairwise fun a b => lexL b a = false
def insL (x : Lot) : List Lot → List Lot
  | [] => [x]
  | y :: l => if lexL x y = true then x :: y :: l else y :: insL x l
def sortL (l : List Lot) : List Lot := l.foldr insL []
theorem insL_perm (x : Lot) : ∀ l : List Lot, (insL x l).Perm (x :: l)
  | [] => List.Perm.refl _
  | y :: l => by
    unfold insL
    split
    · exact List.Perm.refl _
    · exact ((insL_perm x l).cons y).trans (List.Perm.swap x y l)
theorem sortL_perm : ∀ l : List Lot, (sortL l).Perm l
  | [] => List.Perm.refl _
  | x :: l => (insL_perm x (sortL l)).trans ((sortL_perm l).cons x)
theorem insL_srt (x : Lot) : ∀ {l : List Lot}, LSrt l → LSrt (insL x l)
  | [], _ => List.pairwise_singleton _ _
  | y :: l, s => by
    obtain ⟨s1, s2⟩ := List.pairwise_cons.mp s
    unfold insL
    split
    · rename_i c
      have c2 : lexL y x = false := NtL.lex_asym _ _ c
      refine List.pairwise_cons.mpr ⟨fun z hz => ?_, s⟩
      rcases List.mem_cons.mp hz with rfl | hz
      · exact c2
      · exact NtL.lex_tr _ _ _ c2 (s1 z hz)
    · rename_i c
      refine List.pairwise_cons.mpr ⟨fun z hz => ?_, insL_srt x s2⟩
      rcases List.mem_cons.mp ((insL_perm x l).mem_iff.mp hz) with rfl | hz
      · exact Bool.eq_false_iff.mpr c
      · exact s1 z hz
theorem sortL_srt : ∀ l : List Lot, LSrt (sortL l)
  | [] => List.Pairwise.nil
  | x :: l => insL_srt x (sortL_srt l)
theorem sortL_uniq {l m : List Lot} (p : m.Perm l) (s : LSrt m) : m = sortL l :=
  List.Perm.eq_of_pairwise (le := fun a b => lexL b a = false) (fun a b _ _ h1 h2 => iLot_inj (lex_total _ _ h2 h1)) s (sortL_srt l) (p.trans (sortL_perm l).symm)
/-- the longer ones of a lot -/
def longer (n : Nat) (lot : Lot) : List Lot := ((List.range n).filter fun p => lot.isEmpty || decide (lot.getLastD 0 < p)).map fun p => lot ++ [p]
def lev (n : Nat) : Nat → List Lot
  | 0 => [[]]
  | s + 1 => sortL ((lev n s).flatMap (longer n))
def found (n : Nat) : Nat → List Lot
  | 0 => [[]]
  | s + 1 => found n s ++ lev n (s + 1)
def AL (n : Nat) : List Lot := found n n
def subs : Nat → List Lot
  | 0 => [[]]
  | k + 1 => subs k ++ (subs k).map fun l => l ++ [k]
def sized (l : List Lot) : Nat → List Lot
  | 0 => []
  | s + 1 => sized l s ++ sortL (l.filter fun x => decide (x.length = s))
def LL (n : Nat) : List Lot := sized (subs n) (subs n).length
theorem AL_LL : ∀ n, 1 ≤ n → n ≤ 6 → AL n = LL n := by
  intro n h1 h2
  match n, h1, h2 with
  | 1, _, _ => decide +kernel
  | 2, _, _ => decide +kernel
  | 3, _, _ => decide +kernel
  | 4, _, _ => decide +kernel
  | 5, _, _ => decide +kernel
  | 6, _, _ => decide +kernel
theorem subs_LL : ∀ n, 1 ≤ n → n ≤ 6 → ((subs n).all fun l => (LL n).contains l) = true := by
  intro n h1 h2
  match n, h1, h2 with
  | 1, _, _ => decide +kernel
  | 2, _, _ => decide +kernel
  | 3, _, _ => decide +kernel
  | 4, _, _ => decide +kernel
  | 5, _, _ => decide +kernel
  | 6, _, _ => decide +kernel
theorem LL_lt : ∀ n, 1 ≤ n → n ≤ 6 → ((LL n).all fun l => l.all fun p => decide (p < n)) = true := by
  intro n h1 h2
  match n, h1, h2 with
  | 1, _, _ => decide +kernel
  | 2, _, _ => decide +kernel
  | 3, _, _ => decide +kernel
  | 4, _, _ => decide +kernel
  | 5, _, _ => decide +kernel
  | 6, _, _ => decide +kernel
theorem subs_len : ∀ n, (subs n).length = 2 ^ n
  | 0 => rfl
  | n + 1 => by
    show (subs n ++ (subs n).map _).length = _
    rw [List.length_append, List.length_map, subs_len n, Nat.pow_succ]
    omega
theorem filter_subs (q : Nat → Bool) : ∀ n, (List.range n).filter q ∈ subs n
  | 0 => List.mem_cons_self ..
  | n + 1 => by
    rw [List.range_succ, List.filter_append]
    show _ ∈ subs n ++ (subs n).map fun l => l ++ [n]
    have ih := filter_subs q n
    cases h : q n with
    | true =>
      rw [List.filter_cons_of_pos h]
      exact List.mem_append_right _ (List.mem_map.mpr ⟨_, ih, rfl⟩)
    | false =>
      rw [List.filter_cons_of_neg (by rw [h]; decide)]
      rw [List.filter_nil, List.append_nil]
      exact List.mem_append_left _ ih
section
variable {n : Nat} (h1 : 1 ≤ n) (h6 : n ≤ 6)
include h1 h6
theorem filter_LL (q : Nat → Bool) : (List.range n).filter q ∈ LL n := by
  have := List.all_eq_true.mp (subs_LL n h1 h6) _ (filter_subs q n)
  exact List.contains_iff_mem.mp this
theorem LL_mem {l : Lot} (h : l ∈ LL n) {p : Nat} (hp : p ∈ l) : p < n :=
  of_decide_eq_true (List.all_eq_true.mp (List.all_eq_true.mp (LL_lt n h1 h6) l h) p hp)
end
/-! ### corners, the outcome -/
def ends (n : Nat) (lot : Lot) : List Fr := (List.range n).map fun p => if lot.contains p = true then (1, 1) else (0, 1)
theorem ends_ok (n : Nat) (lot : Lot) : BOk n (ends n lot) := by
  refine ⟨by simp [ends], fun f hf => ?_⟩
  obtain ⟨p, _, rfl⟩ := List.mem_map.mp hf
  split
  · exact ⟨lo_one, bt_one⟩
  · exact ⟨lo_zero, bt_zero⟩
theorem ends_mono (n : Nat) {l m : Lot} (h : ∀ p ∈ l, p ∈ m) : All2 fLe (ends n l) (ends n m) := by
  refine All2.map (All2.same fun p _ => ?_)
  by_cases c : l.contains p = true
  · rw [if_pos c, if_pos (List.contains_iff_mem.mpr (h p (List.contains_iff_mem.mp c)))]
    exact fLe.refl _
  · rw [if_neg c]
    split <;> (unfold fLe; decide)
section
variable (n d : Nat) (t : Tm) (ws : List Fr)
def corn (lot : Lot) : Fr := val (ends n lot) d t
def wi (p : Nat) : Fr := ws.getD p (0, 1)
def wsh (f : Fr) : Lot := (List.range n).filter fun p => !fLess (wi ws p) f
def wmo (f : Fr) : Lot := (List.range n).filter fun p => fLess f (wi ws p)
/-- the program's way -/
def pOut : Fr := fMaxL (corn n d t [] :: ws.map fun w => fMinL [corn n d t (wsh n ws w), w])
/-- the law's way -/
def lItem (lot : Lot) : Fr := fMinL (corn n d t lot :: lot.map (wi ws))
def lOut : Fr := fMaxL ((LL n).map (lItem n d t ws))
end
section
variable {n d : Nat} {t : Tm} {ws : List Fr} (h1 : 1 ≤ n) (h6 : n ≤ 6) (hw : Wf n d t) (hl : ws.length = n) (hws : ∀ f ∈ ws, Lo f ∧ Bt 64 f)
include hw in
theorem corn_lo (lot : Lot) : Lo (corn n d t lot) := (val_ok (ends_ok n lot) d t hw).1
include hw in
theorem corn_mono {l m : Lot} (h : ∀ p ∈ l, p ∈ m) : fLe (corn n d t l) (corn n d t m) := val_mono (ends_ok n l) (ends_ok n m) (ends_mono n h) d t hw
include hl hws in
theorem wi_ok {p : Nat} (hp : p < n) : Lo (wi ws p) ∧ wi ws p ∈ ws := by
  obtain ⟨x, _, e, m⟩ := getD_of (l := ws) (i := p) (d := ((0, 1) : Fr)) (by omega)
  unfold wi
  rw [e]
  exact ⟨(hws x m).1, m⟩
theorem mem_wsh {p : Nat} {f : Fr} : p ∈ wsh n ws f ↔ p < n ∧ fLe f (wi ws p) := by
  unfold wsh
  rw [List.mem_filter, List.mem_range, Bool.not_eq_true', less_false]
theorem mem_wmo {p : Nat} {f : Fr} : p ∈ wmo n ws f ↔ p < n ∧ fLess f (wi ws p) = true := by
  unfold wmo
  rw [List.mem_filter, List.mem_range]
include h1 h6 hw hl hws in
theorem item_lo {lot : Lot} (h : lot ∈ LL n) : ∀ y ∈ corn n d t lot :: lot.map (wi ws), Lo y := fun y hy => by
  rcases List.mem_cons.mp hy with rfl | hy
  · exact corn_lo hw lot
  · obtain ⟨p, hp, rfl⟩ := List.mem_map.mp hy
    exact (wi_ok hl hws (LL_mem h1 h6 h hp)).1
include h1 h6 hw hl hws in
theorem lItem_lo {lot : Lot} (h : lot ∈ LL n) : Lo (lItem n d t ws lot) :=
  item_lo h1 h6 hw hl hws h _ (minL_mem (List.cons_ne_nil _ _) fun y hy => (item_lo h1 h6 hw hl hws h y hy).1)
include h1 h6 hw hl hws in
theorem lItem_corn {lot : Lot} (h : lot ∈ LL n) : fLe (lItem n d t ws lot) (corn n d t lot) := minL_le (fun y hy => (item_lo h1 h6 hw hl hws h y hy).1) (List.mem_cons_self ..)
include h1 h6 hw hl hws in
theorem lItem_wi {lot : Lot} (h : lot ∈ LL n) {p : Nat} (hp : p ∈ lot) : fLe (lItem n d t ws lot) (wi ws p) :=
  minL_le (fun y hy => (item_lo h1 h6 hw hl hws h y hy).1) (List.mem_cons_of_mem _ (List.mem_map.mpr ⟨p, hp, rfl⟩))
include h1 h6 in
theorem LL_ne : LL n ≠ [] := List.ne_nil_of_mem (filter_LL h1 h6 fun _ => true)
include h1 h6 hw hl hws in
theorem items_lo : ∀ y ∈ (LL n).map (lItem n d t ws), Lo y := fun y hy => by
  obtain ⟨lot, h, rfl⟩ := List.mem_map.mp hy
  exact lItem_lo h1 h6 hw hl hws h
include h1 h6 hw hl hws in
theorem lOut_lo : Lo (lOut n d t ws) := items_lo h1 h6 hw hl hws _ (maxL_mem (by simpa using LL_ne h1 h6) fun y hy => (items_lo h1 h6 hw hl hws y hy).1)
include h1 h6 hw hl hws in
theorem lOut_ge {lot : Lot} (h : lot ∈ LL n) : fLe (lItem n d t ws lot) (lOut n d t ws) := maxL_ge (fun y hy => (items_lo h1 h6 hw hl hws y hy).1) (List.mem_map.mpr ⟨lot, h, rfl⟩)
include h1 h6 hw hl hws in
theorem lOut_at : ∃ lot ∈ LL n, lItem n d t ws lot = lOut n d t ws := by
  have m := maxL_mem (l := (LL n).map (lItem n d t ws)) (by simpa using LL_ne h1 h6) fun y hy => (items_lo h1 h6 hw hl hws y hy).1
  obtain ⟨lot, h, e⟩ := List.mem_map.mp m
  exact ⟨lot, h, e⟩
include hw hws in
theorem p_lo : ∀ y ∈ corn n d t [] :: ws.map (fun w => fMinL [corn n d t (wsh n ws w), w]), Lo y := fun y hy => by
  rcases List.mem_cons.mp hy with rfl | hy
  · exact corn_lo hw []
  · obtain ⟨w, hw', rfl⟩ := List.mem_map.mp hy
    have ok : ∀ y ∈ [corn n d t (wsh n ws w), w], Lo y := fun y hy => by
      simp only [List.mem_cons, List.mem_nil_iff, or_false] at hy
      rcases hy with rfl | rfl
      · exact corn_lo hw _
      · exact (hws _ hw').1
    exact ok _ (minL_mem (List.cons_ne_nil _ _) fun y hy => (ok y hy).1)
include hw hws in
theorem pOut_lo : Lo (pOut n d t ws) := p_lo hw hws _ (maxL_mem (List.cons_ne_nil _ _) fun y hy => (p_lo hw hws y hy).1)
include hw hws in
theorem pair_lo {w : Fr} (h : w ∈ ws) : ∀ y ∈ [corn n d t (wsh n ws w), w], Lo y := fun y hy => by
  simp only [List.mem_cons, List.mem_nil_iff, or_false] at hy
  rcases hy with rfl | rfl
  · exact corn_lo hw _
  · exact (hws _ h).1
/-- what is at least as each of a list's -/
theorem le_min {l : List Fr} {z : Fr} (hn : l ≠ []) (p : ∀ y ∈ l, Pos y) (h : ∀ y ∈ l, fLe z y) : fLe z (fMinL l) := h _ (minL_mem hn p)
include h1 h6 hw hl hws in
theorem out_eq : pOut n d t ws = lOut n d t ws := by
  have lp := pOut_lo (n := n) (d := d) (t := t) (ws := ws) hw hws
  have ll := lOut_lo h1 h6 hw hl hws
  refine lo_antisymm lp ll ?_ ?_
  · -- each of the program's is at most one of the law's
    have m := maxL_mem (l := corn n d t [] :: ws.map (fun w => fMinL [corn n d t (wsh n ws w), w])) (List.cons_ne_nil _ _) fun y hy => (p_lo hw hws y hy).1
    have e : fMaxL (corn n d t [] :: ws.map (fun w => fMinL [corn n d t (wsh n ws w), w])) = pOut n d t ws := rfl
    rw [e] at m
    generalize pOut n d t ws = z at m lp
    rcases List.mem_cons.mp m with rfl | m
    · have mem : ([] : Lot) ∈ LL n := by
        have := filter_LL h1 h6 fun _ => false
        rw [show (List.range n).filter (fun _ => false) = [] from List.filter_eq_nil_iff.mpr fun _ _ => by decide] at this
        exact this
      exact lOut_ge h1 h6 hw hl hws mem
    · obtain ⟨w, hwm, rfl⟩ := List.mem_map.mp m
      have mem : wsh n ws w ∈ LL n := filter_LL h1 h6 _
      have pl := pair_lo (n := n) (d := d) (t := t) hw hws hwm
      have il := lItem_lo h1 h6 hw hl hws mem
      refine fLe.trans il.1 lp.1 ll.1 ?_ (lOut_ge h1 h6 hw hl hws mem)
      refine le_min (List.cons_ne_nil _ _) (fun y hy => (item_lo h1 h6 hw hl hws mem y hy).1) fun y hy => ?_
      rcases List.mem_cons.mp hy with rfl | hy
      · exact minL_le (fun y hy => (pl y hy).1) (List.mem_cons_self ..)
      · obtain ⟨p, hp, rfl⟩ := List.mem_map.mp hy
        obtain ⟨hp1, hp2⟩ := mem_wsh.mp hp
        exact fLe.trans (hws w hwm).1.1 lp.1 (wi_ok hl hws hp1).1.1 (minL_le (fun y hy => (pl y hy).1) (List.mem_cons_of_mem _ (List.mem_cons_self ..))) hp2
  · -- each of the law's is at most one of the program's
    obtain ⟨lot, hm, e⟩ := lOut_at h1 h6 hw hl hws
    rw [← e]
    have il := lItem_lo h1 h6 hw hl hws hm
    have ge : ∀ y ∈ corn n d t [] :: ws.map (fun w => fMinL [corn n d t (wsh n ws w), w]), fLe y (pOut n d t ws) := fun y hy => maxL_ge (fun y hy => (p_lo hw hws y hy).1) hy
    by_cases c : lot = []
    · subst c
      exact fLe.trans (corn_lo hw []).1 il.1 lp.1 (lItem_corn h1 h6 hw hl hws hm) (ge _ (List.mem_cons_self ..))
    · -- the least wish in it
      have pw : ∀ y ∈ lot.map (wi ws), Lo y := fun y hy => by
        obtain ⟨p, hp, rfl⟩ := List.mem_map.mp hy
        exact (wi_ok hl hws (LL_mem h1 h6 hm hp)).1
      have mw := minL_mem (l := lot.map (wi ws)) (by simpa using c) fun y hy => (pw y hy).1
      obtain ⟨p, hp, ep⟩ := List.mem_map.mp mw
      have hpn := LL_mem h1 h6 hm hp
      obtain ⟨wl, wm⟩ := wi_ok hl hws hpn
      have sub : ∀ q ∈ lot, q ∈ wsh n ws (wi ws p) := fun q hq => mem_wsh.mpr ⟨LL_mem h1 h6 hm hq, by
        rw [ep]
        exact minL_le (fun y hy => (pw y hy).1) (List.mem_map.mpr ⟨q, hq, rfl⟩)⟩
      have cm := corn_mono hw sub
      have pl := pair_lo (n := n) (d := d) (t := t) hw hws wm
      have pin : fMinL [corn n d t (wsh n ws (wi ws p)), wi ws p] ∈ corn n d t [] :: ws.map (fun w => fMinL [corn n d t (wsh n ws w), w]) :=
        List.mem_cons_of_mem _ (List.mem_map.mpr ⟨wi ws p, wm, rfl⟩)
      refine fLe.trans (p_lo hw hws _ pin).1 il.1 lp.1 ?_ (ge _ pin)
      refine le_min (List.cons_ne_nil _ _) (fun y hy => (pl y hy).1) fun y hy => ?_
      simp only [List.mem_cons, List.mem_nil_iff, or_false] at hy
      rcases hy with rfl | rfl
      · exact fLe.trans (corn_lo hw lot).1 il.1 (corn_lo hw _).1 (lItem_corn h1 h6 hw hl hws hm) cm
      · exact lItem_wi h1 h6 hw hl hws hm hp
/-! ### who holds, who presses -/
def upB (n d : Nat) (t : Tm) (ws : List Fr) (f : Fr) (lot : Lot) : Bool := (lot.all fun p => !fLess (wi ws p) f) && !fLess (corn n d t lot) f
def othersOf (n : Nat) (lot : Lot) : Lot := (List.range n).filter fun p => !lot.contains p
def dnB (n d : Nat) (t : Tm) (ws : List Fr) (f : Fr) (lot : Lot) : Bool := (lot.all fun p => !fLess f (wi ws p)) && !fLess f (corn n d t (othersOf n lot))
include h1 h6 hw hl hws in
theorem up_some : ∃ lot, (LL n).find? (upB n d t ws (lOut n d t ws)) = some lot := by
  obtain ⟨lot, hm, e⟩ := lOut_at h1 h6 hw hl hws
  cases q : (LL n).find? (upB n d t ws (lOut n d t ws)) with
  | some l => exact ⟨l, rfl⟩
  | none =>
    have := List.find?_eq_none.mp q lot hm
    refine absurd ?_ this
    unfold upB
    rw [Bool.and_eq_true, List.all_eq_true]
    refine ⟨fun p hp => ?_, ?_⟩
    · rw [Bool.not_eq_true', less_false, ← e]
      exact lItem_wi h1 h6 hw hl hws hm hp
    · rw [Bool.not_eq_true', less_false, ← e]
      exact lItem_corn h1 h6 hw hl hws hm
include h1 h6 hw hl hws in
theorem dn_some : ∃ lot, (LL n).find? (dnB n d t ws (lOut n d t ws)) = some lot := by
  cases q : (LL n).find? (dnB n d t ws (lOut n d t ws)) with
  | some l => exact ⟨l, rfl⟩
  | none =>
    have hm : (List.range n).filter (fun p => !fLess (lOut n d t ws) (wi ws p)) ∈ LL n := filter_LL h1 h6 _
    have := List.find?_eq_none.mp q _ hm
    refine absurd ?_ this
    unfold dnB
    rw [Bool.and_eq_true, List.all_eq_true]
    refine ⟨fun p hp => (List.mem_filter.mp hp).2, ?_⟩
    rw [Bool.not_eq_true', less_false]
    -- those who wish more
    have er : othersOf n ((List.range n).filter fun p => !fLess (lOut n d t ws) (wi ws p)) = wmo n ws (lOut n d t ws) := by
      unfold othersOf wmo
      refine List.filter_congr fun p hp => ?_
      have hp' := List.mem_range.mp hp
      cases c : fLess (lOut n d t ws) (wi ws p) with
      | true =>
        have : ((List.range n).filter fun p => !fLess (lOut n d t ws) (wi ws p)).contains p = false := by
          refine Bool.eq_false_iff.mpr fun z => ?_
          have := (List.mem_filter.mp (List.contains_iff_mem.mp z)).2
          rw [c] at this
          cases this
        rw [this]
        rfl
      | false =>
        have : ((List.range n).filter fun p => !fLess (lOut n d t ws) (wi ws p)).contains p = true :=
          List.contains_iff_mem.mpr (List.mem_filter.mpr ⟨hp, by rw [c]; rfl⟩)
        rw [this]
        rfl
    rw [er]
    have mm : wmo n ws (lOut n d t ws) ∈ LL n := filter_LL h1 h6 _
    have g := lOut_ge h1 h6 hw hl hws mm
    have il := lItem_lo h1 h6 hw hl hws mm
    -- the least of the corner and the wishes is the corner
    have m := minL_mem (l := corn n d t (wmo n ws (lOut n d t ws)) :: (wmo n ws (lOut n d t ws)).map (wi ws)) (List.cons_ne_nil _ _) fun y hy => (item_lo h1 h6 hw hl hws mm y hy).1
    rcases List.mem_cons.mp m with e | m
    · have e' : lItem n d t ws (wmo n ws (lOut n d t ws)) = corn n d t (wmo n ws (lOut n d t ws)) := e
      rw [e'] at g
      exact g
    · obtain ⟨p, hp, ep⟩ := List.mem_map.mp m
      have hp2 := (mem_wmo.mp hp).2
      have ep' : wi ws p = lItem n d t ws (wmo n ws (lOut n d t ws)) := ep
      rw [← ep'] at g
      have := less_iff.mp hp2
      unfold fLe at g
      omega
end
end Cb
namespace Cb
open PySem PySem.Spec PyProof.Rows L2
open C8 (Cal Mak pe_c pe_mk pe_gc)
/-! ### pointwise lists -/
theorem All2.get {α β : Type} {R : α → β → Prop} : ∀ {as : List α} {bs : List β} {i : Nat} {a : α}, All2 R as bs → as[i]? = some a → ∃ b, bs[i]? = some b ∧ R a b
  | _, _, _, _, .nil, e => by simp at e
  | _, _, 0, _, .cons r _, e => by simp at e; subst e; exact ⟨_, rfl, r⟩
  | _, _, i + 1, a, .cons _ t, e => by
    obtain ⟨u, h1, h2⟩ := All2.get (i := i) (a := a) t (by simpa using e)
    exact ⟨u, by simpa using h1, h2⟩
theorem All2.get' {α β : Type} {R : α → β → Prop} : ∀ {as : List α} {bs : List β} {i : Nat} {b : β}, All2 R as bs → bs[i]? = some b → ∃ a, as[i]? = some a ∧ R a b
  | _, _, _, _, .nil, e => by simp at e
  | _, _, 0, _, .cons r _, e => by simp at e; subst e; exact ⟨_, rfl, r⟩
  | _, _, i + 1, a, .cons _ t, e => by
    obtain ⟨u, h1, h2⟩ := All2.get' (i := i) (b := a) t (by simpa using e)
    exact ⟨u, by simpa using h1, h2⟩
theorem All2.imp {α β : Type} {R S : α → β → Prop} (f : ∀ a b, R a b → S a b) : ∀ {as : List α} {bs : List β}, All2 R as bs → All2 S as bs
  | _, _, .nil => .nil
  | _, _, .cons r t => .cons (f _ _ r) (All2.imp f t)
theorem All2.app {α β : Type} {R : α → β → Prop} : ∀ {as : List α} {bs : List β} {cs : List α} {ds : List β}, All2 R as bs → All2 R cs ds → All2 R (as ++ cs) (bs ++ ds)
  | _, _, _, _, .nil, s => s
  | _, _, _, _, .cons r t, s => .cons r (All2.app t s)
theorem All2.take {α β : Type} {R : α → β → Prop} : ∀ {as : List α} {bs : List β} (n : Nat), All2 R as bs → All2 R (as.take n) (bs.take n)
  | _, _, 0, _ => by rw [List.take_zero, List.take_zero]; exact .nil
  | _, _, _ + 1, .nil => .nil
  | _, _, n + 1, .cons r t => .cons r (All2.take n t)
theorem All2.drop {α β : Type} {R : α → β → Prop} : ∀ {as : List α} {bs : List β} (n : Nat), All2 R as bs → All2 R (as.drop n) (bs.drop n)
  | _, _, 0, r => r
  | _, _, _ + 1, .nil => .nil
  | _, _, n + 1, .cons _ t => All2.drop n t
theorem All2.of_map {α β γ : Type} {R : β → γ → Prop} {f : α → β} : ∀ {as : List α} {bs : List γ}, All2 (fun a b => R (f a) b) as bs → All2 R (as.map f) bs
  | _, _, .nil => .nil
  | _, _, .cons r t => .cons r (All2.of_map t)
theorem All2.flip {α β : Type} {R : α → β → Prop} : ∀ {as : List α} {bs : List β}, All2 R as bs → All2 (fun b a => R a b) bs as
  | _, _, .nil => .nil
  | _, _, .cons r t => .cons r (All2.flip t)
/-- the i-th of the items are paired with those of the range -/
theorem All2.of_range {α : Type} {R : Nat → α → Prop} {us : List α} {n : Nat} (h : All2 R (List.range n) us) : us.length = n ∧ ∀ i u, us[i]? = some u → R i u := by
  have e := h.len
  rw [List.length_range] at e
  refine ⟨e.symm, fun i u hu => ?_⟩
  obtain ⟨a, ha, r⟩ := h.get' hu
  have hi : i < n := by
    have := (List.getElem?_eq_some_iff.mp hu).1
    omega
  rw [List.getElem?_range hi] at ha
  rw [← Option.some.inj ha] at r
  exact r
theorem All2.of_get {α β : Type} {R : α → β → Prop} : ∀ {as : List α} {bs : List β}, as.length = bs.length → (∀ (i : Nat) (a : α) (b : β), as[i]? = some a → bs[i]? = some b → R a b) → All2 R as bs
  | [], [], _, _ => .nil
  | [], _ :: _, h, _ => by cases h
  | _ :: _, [], h, _ => by cases h
  | a :: as, b :: bs, h, f => .cons (f 0 a b rfl rfl) (All2.of_get (Nat.succ.inj h) fun i x y hx hy => f (i + 1) x y hx hy)
/-! ### what stays -/
section
variable {K : PySem.W.Frag} {H H' H1 H2 : Hp}
def KeepT (K : PySem.W.Frag) (H H' : Hp) : Prop := ∀ a xs, SqT K H a xs → SqT K H' a xs
theorem KeepT.trans (a : KeepT K H H1) (b : KeepT K H1 H2) : KeepT K H H2 := fun c xs h => b c xs (a c xs h)
theorem KeepT.refl : KeepT K H H := fun _ _ h => h
/-- all but what lies in M stays -/
def Kq (M : Addr → Prop) (H H' : Hp) : Prop := ∀ b o, H b = some o → ¬ M b → H' b = some o
theorem Kq.refl {M : Addr → Prop} : Kq M H H := fun _ _ h _ => h
theorem Kq.trans {M : Addr → Prop} (a : Kq M H H1) (b : Kq M H1 H2) : Kq M H H2 := fun c o h n => b c o (a c o h n) n
theorem Same.kq {M : Addr → Prop} (s : Same H H') : Kq M H H' := fun b o h _ => s b o h
theorem Kq.same (s : Kq (fun _ => False) H H') : Same H H' := fun b o h => s b o h fun z => z
theorem Kq.keepT {M : Addr → Prop} (s : Kq M H H') (l : ∀ b, M b → ∃ zs, H b = some (.lst zs)) : KeepT K H H' := fun a xs h => by
  have nm : ∀ o, H a = some o → (∀ zs, o ≠ .lst zs) → ¬ M a := fun o e ne m => by
    obtain ⟨zs, q⟩ := l a m
    rw [e] at q
    exact ne zs (Option.some.inj q)
  rcases h with (h | ⟨o, h⟩) | h
  · exact .inl (.inl (s a _ h (nm _ h fun _ z => nomatch z)))
  · exact .inl (.inr ⟨o, s a _ h (nm _ h fun _ z => nomatch z)⟩)
  · exact .inr h
theorem Same.keepT (s : Same H H') : KeepT K H H' := fun a xs h => by
  rcases h with (h | ⟨o, h⟩) | h
  · exact .inl (.inl (s a _ h))
  · exact .inl (.inr ⟨o, s a _ h⟩)
  · exact .inr h
theorem same_new {p : Addr} (h : H p = none) (o : HO) : Same H (upd H p o) := fun b u q => by rw [upd_ne (ne_of_none q h)]; exact q
/-- a list that is changed -/
theorem keepT_lst {p : Addr} {xs : List V} (h : H p = some (.lst xs)) (o : HO) : KeepT K H (upd H p o) :=
  Kq.keepT (M := fun b => b = p) (fun b u q n => by rw [upd_ne n]; exact q) fun b e => by rw [e]; exact ⟨xs, h⟩
end
/-! ### fractions -/
section
variable {K : PySem.W.Frag} {H H' : Hp}
def FrAt (K : PySem.W.Frag) (H : Hp) (v : V) (f : Fr) : Prop := ∃ a, v = .ref a ∧ SqT K H a [.int f.1, .int f.2]
theorem FrAt.keep {v : V} {f : Fr} (h : FrAt K H v f) (k : KeepT K H H') : FrAt K H' v f := let ⟨a, e, q⟩ := h; ⟨a, e, k a _ q⟩
abbrev Frs (K : PySem.W.Frag) (H : Hp) (us : List V) (fs : List Fr) : Prop := All2 (FrAt K H) us fs
theorem Frs.keep {us : List V} {fs : List Fr} (h : Frs K H us fs) (k : KeepT K H H') : Frs K H' us fs := h.imp fun _ _ r => r.keep k
/-- a list, a tuple of fractions -/
def LsAt (K : PySem.W.Frag) (H : Hp) (v : V) (fs : List Fr) : Prop := ∃ a us, v = .ref a ∧ SqL K H a us ∧ Frs K H us fs
def TpAt (K : PySem.W.Frag) (H : Hp) (v : V) (fs : List Fr) : Prop := ∃ a us, v = .ref a ∧ SqT K H a us ∧ Frs K H us fs
theorem LsAt.same {v : V} {fs : List Fr} (h : LsAt K H v fs) (s : Same H H') : LsAt K H' v fs := let ⟨a, us, e, q, r⟩ := h; ⟨a, us, e, s.seq q, r.keep (Same.keepT s)⟩
theorem TpAt.keep {v : V} {fs : List Fr} (h : TpAt K H v fs) (k : KeepT K H H') : TpAt K H' v fs := let ⟨a, us, e, q, r⟩ := h; ⟨a, us, e, k a us q, r.keep k⟩
/-- what a def that changes nothing hands back -/
abbrev Ret (H : Hp) (Q : VK) (R : Hp → V → Prop) : Prop := ∀ (H' : Hp) (r : V), Same H H' → R H' r → Q r H'
end
/-! ### sorted, the tuples told by a list beside -/
def rSortL (K : PySem.W.Frag) : List V → Hp → VK → Prop := fun vs H Q => ∃ (a : Addr) (xs : List V) (L : List (List Int)), vs = [V.ref a] ∧ SqL K H a xs ∧ All2 (fun x (l : List Int) => ∃ t, x = V.ref t ∧ SqT K H t (l.map V.int)) xs L ∧ (2 ≤ L.length → ∀ l ∈ L, l ≠ []) ∧
  ∀ (ys : List V) (L' : List (List Int)) (p : Addr), All2 (fun x (l : List Int) => ∃ t, x = V.ref t ∧ SqT K H t (l.map V.int)) ys L' → L'.Perm L → L'.Pairwise (fun a b => HT.lexLt b a = false) → H p = none → Q (.ref p) (upd H p (.lst ys))
theorem ints_of_map : ∀ {a b : List Int}, a.map V.int = b.map V.int → a = b
  | [], [], _ => rfl
  | [], _ :: _, h => by cases h
  | _ :: _, [], h => by cases h
  | x :: a, y :: b, h => by
    have h' : V.int x :: a.map V.int = V.int y :: b.map V.int := h
    injection h' with h1 h2
    rw [ints_of_map h2, V.int.inj h1]
open Classical in
noncomputable def keyOf (K : PySem.W.Frag) (H : Hp) (v : V) : List Int := if h : ∃ l : List Int, ∃ t, v = V.ref t ∧ SqT K H t (l.map V.int) then choose h else []
theorem keyOf_spec {K : PySem.W.Frag} {H : Hp} {v : V} (h : ∃ l : List Int, ∃ t, v = V.ref t ∧ SqT K H t (l.map V.int)) : ∃ t, v = V.ref t ∧ SqT K H t ((keyOf K H v).map V.int) := by
  unfold keyOf
  rw [dif_pos h]
  exact Classical.choose_spec h
theorem srtL {X : Cx} (K : PySem.W.Frag) (hK : X.K = K := by rfl) : CallR X (.builtin "sorted") (rSortL K) := by
  subst hK
  intro pins s σ H vs us Q I r h
  obtain ⟨a, xs, L, rfl, hs, hL, h2, q⟩ := h
  have un : ∀ x (l : List Int), (∃ t, x = V.ref t ∧ SqT X.K H t (l.map V.int)) → keyOf X.K H x = l := fun x l ⟨t, e, ht⟩ => by
    obtain ⟨t', e', ht'⟩ := keyOf_spec (K := X.K) (H := H) (v := x) ⟨l, t, e, ht⟩
    rw [e] at e'
    cases e'
    exact ints_of_map (I.tuple_inj ht' ht)
  have eL : xs.map (keyOf X.K H) = L := by
    clear h2 q hs
    induction hL with
    | nil => rfl
    | cons r _ ih => rw [List.map_cons, un _ _ r, ih]
  have hx : ∀ x ∈ xs, ∃ t, x = V.ref t ∧ SqT X.K H t ((keyOf X.K H x).map V.int) := fun x hx => by
    obtain ⟨i, hi⟩ := List.mem_iff_getElem?.mp hx
    obtain ⟨l, _, t, e, ht⟩ := hL.get hi
    exact keyOf_spec ⟨l, t, e, ht⟩
  refine Rl.cr_sortedL pins s σ H _ us Q I r ⟨a, xs, keyOf X.K H, rfl, hs, hx, fun hl x hm => ?_, fun ys p hS hp hn => ?_⟩
  · refine h2 (by rw [← eL, List.length_map]; exact hl) _ ?_
    rw [← eL]
    exact List.mem_map.mpr ⟨x, hm, rfl⟩
  · refine q ys (ys.map (keyOf X.K H)) p ?_ ?_ ?_ hn
    · refine All2.of_get (by rw [List.length_map]) fun i y l hy hl => ?_
      rw [List.getElem?_map, hy] at hl
      rw [← Option.some.inj hl]
      exact hx y (hp.mem_iff.mp (List.mem_of_getElem? hy))
    · rw [← eL]
      exact hp.map _
    · exact List.pairwise_map.mpr hS
/-! ### comprehensions -/
theorem lc_gen {K : PySem.W.Frag} {J : It} {n : Nat} {G : Hp → Prop} {Y : Nat → Hp → V → Hp → Prop} (w : Walk J n G Y) {g : TG} {tt : TT} {te : TE} {vs : List Nat} {σ : L2.St} {H1 : Hp} {D : Addr} {Qd : Hp → Prop}
    (M : Addr → Prop) (Jv : Hp → Prop) (p : Nat → Bool) (R : Nat → Hp → V → Prop)
    (hD : H1 D = none) (hM : ¬ M D) (hn : n < sizeLine) (mT : ∀ H, Jv H → ∀ b, M b → ∃ zs, H b = some (.lst zs))
    (hG : ∀ H, Kq M H1 H → G H) (j0 : Jv H1) (jD : ∀ H o, Jv H → Jv (upd H D o)) (rS : ∀ i H H' y, KeepT K H H' → R i H y → R i H' y)
    (turn : ∀ i x H H', i < n → Kq M H1 H → Jv H → Y i H x H' → ∀ (Q' : V → Hp → Prop) (N : Hp → Prop), (∀ y H3, p i = true → Kq M H H3 → Jv H3 → R i H3 y → Q' y H3) → (∀ H3, p i = false → Kq M H H3 → Jv H3 → N H3) →
      g x (wipe σ vs) H' fun σ2 H2 => wipe σ2 vs = wipe σ vs ∧ tt σ2 H2 fun b H3 => if b = true then te σ2 H3 Q' else N H3)
    (done : ∀ H us, Kq M H1 H → Jv H → H D = some (.lst us) → All2 (fun i y => R i H y) ((List.range n).filter p) us → Qd H) :
    ∃ W : Nat → Nat → Hp → Prop, (∃ m, W 0 m (upd H1 D (.lst []))) ∧ ∀ i m H, W i m H →
      (J.stop i H ∧ Qd H) ∨ (J.go i H ∧ ∃ Nx : Hp → Prop, (∀ H', Nx H' → ∃ m', m' < m ∧ W (i + 1) m' H') ∧ ∀ x H', J.yld i H x H' → g x (wipe σ vs) H' fun σ2 H2 => wipe σ2 vs = wipe σ vs ∧ tt σ2 H2 fun b H3 =>
        if b = true then te σ2 H3 fun y H4 => ∃ acc, H4 D = some (.lst acc) ∧ acc.length < sizeLine ∧ Nx (upd H4 D (.lst (acc ++ [y]))) else Nx H3) := by
  have kD : ∀ {H : Hp} {o : HO}, Kq M H1 H → Kq M H1 (upd H D o) := fun {H o} k b u q nm => by
    rw [upd_ne (ne_of_none q hD)]
    exact k b u q nm
  refine lc_it w (fun i H => Kq M H1 H ∧ Jv H ∧ ∃ us, H D = some (.lst us) ∧ All2 (fun i y => R i H y) ((List.range i).filter p) us) ⟨kD Kq.refl, jD _ _ j0, [], upd_same, .nil⟩ (fun i H _ q => hG H q.1) ?_ ?_
  · rintro i x H H' hi ⟨k, j, us, hu, a⟩ y
    refine turn i x H H' hi k j y _ _ (fun z H3 hp k3 j3 r => ?_) (fun H3 hp k3 j3 => ?_)
    · have hu3 : H3 D = some (.lst us) := k3 D _ hu hM
      have e : us.length ≤ i := by
        have := a.len
        have l := List.length_filter_le p (List.range i)
        rw [List.length_range] at l
        omega
      refine ⟨us, hu3, by omega, kD (k.trans k3), jD _ _ j3, us ++ [z], upd_same, ?_⟩
      have kt3 : KeepT K H3 (upd H3 D (.lst (us ++ [z]))) := keepT_lst hu3 _
      have kt : KeepT K H H3 := k3.keepT (mT H j)
      rw [List.range_succ, List.filter_append, List.filter_cons_of_pos hp]
      exact (a.imp fun i y r => rS i _ _ y (kt.trans kt3) r).app (.cons (rS i _ _ z kt3 r) .nil)
    · have hu3 : H3 D = some (.lst us) := k3 D _ hu hM
      have kt : KeepT K H H3 := k3.keepT (mT H j)
      refine ⟨k.trans k3, j3, us, hu3, ?_⟩
      rw [List.range_succ, List.filter_append, List.filter_cons_of_neg (by rw [hp]; decide), List.filter_nil, List.append_nil]
      exact a.imp fun i y r => rS i _ _ y kt r
  · rintro H ⟨k, j, us, hu, a⟩
    exact done H us k j hu a
theorem filt_true (n : Nat) : (List.range n).filter (fun _ => true) = List.range n := List.filter_eq_self.mpr fun _ _ => rfl
/-- .. where nothing is changed and all are kept -/
theorem lc_map {K : PySem.W.Frag} {J : It} {n : Nat} {G : Hp → Prop} {Y : Nat → Hp → V → Hp → Prop} (w : Walk J n G Y) {g : TG} {te : TE} {vs : List Nat} {σ : L2.St} {H1 : Hp} {D : Addr} {Qd : Hp → Prop} (R : Nat → Hp → V → Prop)
    (hD : H1 D = none) (hn : n < sizeLine) (hG : ∀ H, Same H1 H → G H) (rS : ∀ i H H' y, KeepT K H H' → R i H y → R i H' y)
    (turn : ∀ i x H H', i < n → Same H1 H → Y i H x H' → ∀ (Q' : V → Hp → Prop) (N : Hp → Prop), (∀ y H3, Same H H3 → R i H3 y → Q' y H3) →
      g x (wipe σ vs) H' fun σ2 H2 => wipe σ2 vs = wipe σ vs ∧ tYes σ2 H2 fun b H3 => if b = true then te σ2 H3 Q' else N H3)
    (done : ∀ H us, Same H1 H → H D = some (.lst us) → us.length = n → (∀ i y, us[i]? = some y → R i H y) → Qd H) :
    ∃ W : Nat → Nat → Hp → Prop, (∃ m, W 0 m (upd H1 D (.lst []))) ∧ ∀ i m H, W i m H →
      (J.stop i H ∧ Qd H) ∨ (J.go i H ∧ ∃ Nx : Hp → Prop, (∀ H', Nx H' → ∃ m', m' < m ∧ W (i + 1) m' H') ∧ ∀ x H', J.yld i H x H' → g x (wipe σ vs) H' fun σ2 H2 => wipe σ2 vs = wipe σ vs ∧ tYes σ2 H2 fun b H3 =>
        if b = true then te σ2 H3 fun y H4 => ∃ acc, H4 D = some (.lst acc) ∧ acc.length < sizeLine ∧ Nx (upd H4 D (.lst (acc ++ [y]))) else Nx H3) :=
  lc_gen (K := K) w (fun _ => False) (fun _ => True) (fun _ => true) R hD (fun z => z) hn (fun _ _ _ z => z.elim) (fun H k => hG H k.same) trivial (fun _ _ _ => trivial) rS
    (fun i x H H' hi k _ y Q' N q _ => turn i x H H' hi k.same y Q' N fun y H3 s r => q y H3 rfl (Same.kq s) trivial r)
    (fun H us k _ hu a => by
      rw [filt_true] at a
      obtain ⟨e, f⟩ := a.of_range
      exact done H us k.same hu e f)
end Cb
namespace Cb
open PySem PySem.Spec PyProof.Rows L2
open C8 (Cal Mak pe_c pe_mk pe_gc)
section
variable {P : Program} {w : World} {K : PySem.W.Frag} {mg : Str → Option Value} {base : Heap}
theorem ifT {c A B : Prop} [Decidable c] (h : c) (x : A) : if decide c = true then A else B := by rw [decide_eq_true h, if_pos rfl]; exact x
theorem ifF {c A B : Prop} [Decidable c] (h : ¬ c) (x : B) : if decide c = true then A else B := by rw [decide_eq_false h, if_neg Bool.false_ne_true]; exact x
def spIsInt : Sp := fun vs H Q _ => ∃ i : Int, vs = [.int i] ∧ Q (.bl true) H
def spDiv : Sp := fun vs H Q _ => ∃ a b : Int, vs = [.int a, .int b] ∧ Q (.int (Int.gcd a b : Nat)) H
def spMade (K : PySem.W.Frag) : Sp := fun vs H Q _ => ∃ t b : Int, vs = [.int t, .int b] ∧ 0 < b ∧ b.natAbs < 2 ^ 8500 ∧ Ret H Q (fun H' r => FrAt K H' r (fMade t b))
def sp2 (K : PySem.W.Frag) (op : Fr → Fr → Fr) : Sp := fun vs H Q _ => ∃ u v f g, vs = [u, v] ∧ FrAt K H u f ∧ FrAt K H v g ∧ Pos f ∧ Pos g ∧ Bt 4000 f ∧ Bt 4000 g ∧ Ret H Q (fun H' r => FrAt K H' r (op f g))
abbrev spPlus (K : PySem.W.Frag) : Sp := sp2 K fPlus
abbrev spTimes (K : PySem.W.Frag) : Sp := sp2 K fTimes
def spLess (K : PySem.W.Frag) : Sp := fun vs H Q _ => ∃ u v f g, vs = [u, v] ∧ FrAt K H u f ∧ FrAt K H v g ∧ Bt 4000 f ∧ Bt 4000 g ∧ Q (.bl (fLess f g)) H
theorem mulOk {i j : Int} (h1 : i.natAbs < 2 ^ 4000) (h2 : j.natAbs < 2 ^ 4000) : CMulW i j := wide_mul h1 h2 (by decide) (by decide) (by decide)
theorem sc_is_integer : FnScope ["thing"] ["thing"] (defScope zis_integer) := ⟨rfl, rfl, rfl, by decide +kernel, rfl, by decide +kernel, by decide +kernel⟩
theorem ok_is_integer (T : Tx K mg)  : Cal P w K mg base 1 "is_integer" spIsInt [] := by
  refine mk_cal (k := 0) T 0 rfl rfl sc_is_integer (fun _ _ _ _ _ _ us hl => match us, hl with | [_], _ => rfl) (fun vs H Q E h => ?_) (fun f cdv A outer s H vs Q E hr h => ?_)
  · obtain ⟨i, rfl, _⟩ := h
    rfl
  · obtain ⟨i, rfl, q⟩ := h
    refine ⟨_, (pss_one (ps_ret (pe_and (pe_callB (isiK K) rfl T.b_isinstance (by decide +kernel) (pa_cons (pv 0) (pa_cons (pe_bltn (v := .ty "int") rfl T.b_int (by decide +kernel) rfl) pa_nil))) (pe_one (pe_not (pe_callB (isiK K) rfl T.b_isinstance (by decide +kernel) (pa_cons (pv 0) (pa_cons (pe_bltn (v := .ty "bool") rfl T.b_bool (by decide +kernel) rfl) pa_nil)))))))), ?_⟩
    refine ⟨_, rfl, _, _, _, _, true, rfl, .ty _, .base (.int _), kit_ty (by decide +kernel), true, rfl, ?_⟩
    refine iteT ⟨_, rfl, _, _, _, _, false, rfl, .ty _, .base (.int _), kit_ty (by decide +kernel), false, rfl, q⟩
theorem gcd_abs (a b : Int) : Int.gcd (if a < 0 then -a else a) (if b < 0 then -b else b) = Int.gcd a b := by
  have e : ∀ x : Int, (if x < 0 then -x else x).natAbs = x.natAbs := fun x => by split <;> omega
  unfold Int.gcd
  rw [e, e]
theorem gcd_step {x y : Int} (hx : 0 ≤ x) (hy : 0 < y) : Int.gcd y (x % y) = Int.gcd x y := by
  obtain ⟨m, rfl⟩ : ∃ m : Nat, x = (m : Int) := ⟨x.toNat, by omega⟩
  obtain ⟨n, rfl⟩ : ∃ n : Nat, y = (n : Int) := ⟨y.toNat, by omega⟩
  show Nat.gcd (n : Int).natAbs ((m : Int) % (n : Int)).natAbs = Nat.gcd (m : Int).natAbs (n : Int).natAbs
  have e : ((m : Int) % (n : Int)).natAbs = m % n := by
    rw [← Int.natCast_emod, Int.natAbs_natCast]
  rw [e, Int.natAbs_natCast, Int.natAbs_natCast, Nat.gcd_comm m n, Nat.gcd_rec n m, Nat.gcd_comm]
theorem sc_divisor : FnScope ["one", "other"] ["one", "other"] (defScope zdivisor) := ⟨rfl, rfl, rfl, by decide +kernel, rfl, by decide +kernel, by decide +kernel⟩
theorem ok_divisor (T : Tx K mg)  : Cal P w K mg base 1 "divisor" spDiv [] := by
  refine mk_cal (k := 0) T 1 rfl rfl sc_divisor (fun _ _ _ _ _ _ us hl => match us, hl with | [_, _], _ => rfl) (fun vs H Q E h => ?_) (fun f cdv A outer s H vs Q E hr h => ?_)
  · obtain ⟨a, b, rfl, _⟩ := h
    rfl
  · obtain ⟨a, b, rfl, q⟩ := h
    refine ⟨_, (pss_cons (ps_par (i := 0) (j := 1) rfl sc_divisor.nd rfl rfl (by decide) rfl rfl (pa_cons (pe_callB call_abs rfl T.b_abs (by decide +kernel) (pa_cons (pv 0) pa_nil)) (pa_cons (pe_callB call_abs rfl T.b_abs (by decide +kernel) (pa_cons (pv 1) pa_nil)) pa_nil)) rfl)
      (pss_cons (ps_while PassesOwn.never (pt_cmpR op_gt (pv 1) pe_int (nomark _)) (pss_one (ps_par (i := 0) (j := 1) rfl sc_divisor.nd rfl rfl (by decide) rfl rfl (pa_cons (pv 1) (pa_cons (pe_op op_mod (pv 0) (pv 1)) pa_nil)) rfl)))
      (pss_one (ps_ret (pv 0))))), ?_⟩
    refine ⟨_, rfl, a, rfl, _, rfl, b, rfl, _, _, rfl, ?_⟩
    refine while_by (fun σ H' => ∃ x y : Int, σ = [some (.int x), some (.int y)] ∧ 0 ≤ x ∧ 0 ≤ y ∧ Int.gcd x y = Int.gcd a b ∧ H' = H) (fun σ _ => match σ with | [_, some (.int y)] => y.toNat | _ => 0) ?_ ?_ ?_
    · exact ⟨_, _, rfl, by split <;> omega, by split <;> omega, gcd_abs a b, rfl⟩
    · rintro _ _ ⟨x, y, rfl, hx, hy, hg, rfl⟩
      refine ⟨_, rfl, _, _, rfl, rfl, _, rfl, ite2 (fun c => ?_) (fun c => ?_)⟩
      · have hp : 0 < y := of_decide_eq_true c
        have lt := Int.emod_lt_of_pos x hp
        refine ⟨_, rfl, _, rfl, _, rfl, _, _, rfl, rfl, hp, _, _, rfl, ⟨_, _, rfl, hy, Int.emod_nonneg x (by omega), ?_, rfl⟩, ?_⟩
        · rw [gcd_step hx hp]
          exact hg
        · show (x % y).toNat < y.toNat
          omega
      · have hp : ¬ 0 < y := fun z => c (decide_eq_true z)
        have h0 : y = 0 := by omega
        subst h0
        refine ⟨_, rfl, ?_⟩
        rw [Int.gcd_zero_right] at hg
        have e : x = (Int.gcd a b : Nat) := by omega
        rw [e]
        exact q
    · intro σ H Q Q' f h
      obtain ⟨v, e, i, j, e1, e2, k, e3, q⟩ := h
      exact ⟨v, e, i, j, e1, e2, k, e3, f _ _ q⟩
theorem sc_made : FnScope ["top", "bottom", "common"] ["top", "bottom"] (defScope zmade) := ⟨rfl, rfl, rfl, by decide +kernel, rfl, by decide +kernel, by decide +kernel⟩
theorem ok_made (T : Tx K mg) (c_divisor : Cal P w K mg base 1 "divisor" spDiv []) : Cal P w K mg base 2 "made" (spMade K) [] := by
  refine mk_cal (k := 1) T 2 rfl rfl sc_made (fun _ _ _ _ _ _ us hl => match us, hl with | [_, _], _ => rfl) (fun vs H Q E h => ?_) (fun f cdv A outer s H vs Q E hr h => ?_)
  · obtain ⟨t, b, rfl, _⟩ := h
    rfl
  · obtain ⟨t, b, rfl, hb, hz, q⟩ := h
    refine ⟨_, (pss_cons (ps_set (i := 2) sc_made.nd rfl (Or.inl rfl) (pe_c c_divisor hr (by first | decide | omega) rfl (pa_cons (pv 0) (pa_cons (pv 1) pa_nil))))
      (pss_cons (ps_if (pt_cmpR op_lt (pv 1) pe_int (nomark _)) (pss_one (ps_set (i := 2) sc_made.nd rfl (Or.inl rfl) (pe_un un_neg (pv 2)))) pss_nil)
      (pss_one (ps_ret (pe_tup (pa_cons (pe_op op_fdivW (pv 0) (pv 2)) (pa_cons (pe_op op_fdivW (pv 1) (pv 2)) pa_nil))))))), ?_⟩
    have hg : 0 < ((Int.gcd t b : Nat) : Int) := by have := gcd_pos_r (t := t) hb; omega
    have hw : ∀ i : Int, CDivW i ((Int.gcd t b : Nat) : Int) := fun i => wide_div hg (by
      have : Int.gcd t b ≤ b.natAbs := Nat.le_of_dvd (by omega) (Nat.gcd_dvd_right _ _)
      rw [Int.natAbs_natCast]
      exact Nat.lt_of_le_of_lt this hz) (by decide) (by decide)
    refine ⟨_, rfl, _, rfl, t, b, rfl, ?_⟩
    refine ⟨_, rfl, _, _, rfl, rfl, _, rfl, ifF (by omega) ?_⟩
    refine ⟨_, rfl, _, rfl, _, _, rfl, rfl, hw _, _, rfl, _, rfl, _, _, rfl, rfl, hw _, (by show 2 ≤ sizeLine; decide), fun p hp => ?_⟩
    exact q _ _ (same_new hp _) ⟨p, rfl, SqT.of upd_same⟩
theorem plus_top {f g : Fr} (h1 : Bt 4000 f) (h2 : Bt 4000 g) : (f.2 * g.2).natAbs < 2 ^ 8500 :=
  Nat.lt_of_lt_of_le (imul_lt h1.2 h2.2) (Nat.pow_le_pow_right (by decide) (by decide))
theorem sc_plus : FnScope ["one", "other"] ["one", "other"] (defScope zplus) := ⟨rfl, rfl, rfl, by decide +kernel, rfl, by decide +kernel, by decide +kernel⟩
theorem ok_plus (T : Tx K mg) (c_made : Cal P w K mg base 2 "made" (spMade K) []) : Cal P w K mg base 3 "plus" (spPlus K) [] := by
  refine mk_cal (k := 2) T 3 rfl rfl sc_plus (fun _ _ _ _ _ _ us hl => match us, hl with | [_, _], _ => rfl) (fun vs H Q E h => ?_) (fun f cdv A outer s H vs Q E hr h => ?_)
  · obtain ⟨u, v, f, g, rfl, _⟩ := h
    rfl
  · obtain ⟨u, v, f, g, rfl, ⟨a, rfl, ha⟩, ⟨b, rfl, hb⟩, pf, pg, bf, bg, q⟩ := h
    refine ⟨_, (pss_one (ps_ret (pe_c c_made hr (by first | decide | omega) rfl (pa_cons (pe_op op_add (pe_op op_mulW (pe_ix (ixT K) (pv 0) pe_int (fun _ _ => rfl)) (pe_ix (ixT K) (pv 1) pe_int (fun _ _ => rfl))) (pe_op op_mulW (pe_ix (ixT K) (pv 1) pe_int (fun _ _ => rfl)) (pe_ix (ixT K) (pv 0) pe_int (fun _ _ => rfl)))) (pa_cons (pe_op op_mulW (pe_ix (ixT K) (pv 0) pe_int (fun _ _ => rfl)) (pe_ix (ixT K) (pv 1) pe_int (fun _ _ => rfl))) pa_nil))))), ?_⟩
    refine ⟨_, rfl, a, _, 0, _, rfl, rfl, ha, rfl, _, rfl, b, _, 1, _, rfl, rfl, hb, rfl, _, _, rfl, rfl, mulOk bf.1 bg.2, ?_⟩
    refine ⟨_, rfl, b, _, 0, _, rfl, rfl, hb, rfl, _, rfl, a, _, 1, _, rfl, rfl, ha, rfl, _, _, rfl, rfl, mulOk bg.1 bf.2, _, _, rfl, rfl, ?_⟩
    refine ⟨_, rfl, a, _, 1, _, rfl, rfl, ha, rfl, _, rfl, b, _, 1, _, rfl, rfl, hb, rfl, _, _, rfl, rfl, mulOk bf.2 bg.2, ?_⟩
    exact ⟨_, _, rfl, Int.mul_pos pf pg, plus_top bf bg, q⟩
theorem sc_times : FnScope ["one", "other"] ["one", "other"] (defScope ztimes) := ⟨rfl, rfl, rfl, by decide +kernel, rfl, by decide +kernel, by decide +kernel⟩
theorem ok_times (T : Tx K mg) (c_made : Cal P w K mg base 2 "made" (spMade K) []) : Cal P w K mg base 3 "times" (spTimes K) [] := by
  refine mk_cal (k := 2) T 4 rfl rfl sc_times (fun _ _ _ _ _ _ us hl => match us, hl with | [_, _], _ => rfl) (fun vs H Q E h => ?_) (fun f cdv A outer s H vs Q E hr h => ?_)
  · obtain ⟨u, v, f, g, rfl, _⟩ := h
    rfl
  · obtain ⟨u, v, f, g, rfl, ⟨a, rfl, ha⟩, ⟨b, rfl, hb⟩, pf, pg, bf, bg, q⟩ := h
    refine ⟨_, (pss_one (ps_ret (pe_c c_made hr (by first | decide | omega) rfl (pa_cons (pe_op op_mulW (pe_ix (ixT K) (pv 0) pe_int (fun _ _ => rfl)) (pe_ix (ixT K) (pv 1) pe_int (fun _ _ => rfl))) (pa_cons (pe_op op_mulW (pe_ix (ixT K) (pv 0) pe_int (fun _ _ => rfl)) (pe_ix (ixT K) (pv 1) pe_int (fun _ _ => rfl))) pa_nil))))), ?_⟩
    refine ⟨_, rfl, a, _, 0, _, rfl, rfl, ha, rfl, _, rfl, b, _, 0, _, rfl, rfl, hb, rfl, _, _, rfl, rfl, mulOk bf.1 bg.1, ?_⟩
    refine ⟨_, rfl, a, _, 1, _, rfl, rfl, ha, rfl, _, rfl, b, _, 1, _, rfl, rfl, hb, rfl, _, _, rfl, rfl, mulOk bf.2 bg.2, ?_⟩
    exact ⟨_, _, rfl, Int.mul_pos pf pg, plus_top bf bg, q⟩
theorem sc_is_less : FnScope ["one", "other"] ["one", "other"] (defScope zis_less) := ⟨rfl, rfl, rfl, by decide +kernel, rfl, by decide +kernel, by decide +kernel⟩
theorem ok_is_less (T : Tx K mg)  : Cal P w K mg base 1 "is_less" (spLess K) [] := by
  refine mk_cal (k := 0) T 5 rfl rfl sc_is_less (fun _ _ _ _ _ _ us hl => match us, hl with | [_, _], _ => rfl) (fun vs H Q E h => ?_) (fun f cdv A outer s H vs Q E hr h => ?_)
  · obtain ⟨u, v, f, g, rfl, _⟩ := h
    rfl
  · obtain ⟨u, v, f, g, rfl, ⟨a, rfl, ha⟩, ⟨b, rfl, hb⟩, bf, bg, q⟩ := h
    refine ⟨_, (pss_one (ps_ret (pe_cmpR op_lt (pe_op op_mulW (pe_ix (ixT K) (pv 0) pe_int (fun _ _ => rfl)) (pe_ix (ixT K) (pv 1) pe_int (fun _ _ => rfl))) (pe_op op_mulW (pe_ix (ixT K) (pv 1) pe_int (fun _ _ => rfl)) (pe_ix (ixT K) (pv 0) pe_int (fun _ _ => rfl))) (nomark _)))), ?_⟩
    refine ⟨_, rfl, a, _, 0, _, rfl, rfl, ha, rfl, _, rfl, b, _, 1, _, rfl, rfl, hb, rfl, _, _, rfl, rfl, mulOk bf.1 bg.2, ?_⟩
    refine ⟨_, rfl, b, _, 0, _, rfl, rfl, hb, rfl, _, rfl, a, _, 1, _, rfl, rfl, ha, rfl, _, _, rfl, rfl, mulOk bg.1 bf.2, ?_⟩
    exact ⟨_, _, rfl, rfl, q⟩
end
end Cb
namespace Cb
open PySem PySem.Spec PyProof.Rows L2
open C8 (Cal Mak pe_c pe_mk pe_gc)
section
variable {P : Program} {w : World} {K : PySem.W.Frag} {mg : Str → Option Value} {base : Heap}
theorem min1_mem : ∀ (ys : List Fr) (x : Fr), fMin1 x ys ∈ x :: ys
  | [], x => List.mem_cons_self ..
  | z :: ys, x => by
    have e : fMin1 x (z :: ys) = fMin1 (if fLess z x = true then z else x) ys := rfl
    rw [e]
    by_cases c : fLess z x = true
    · rw [if_pos c]
      exact List.mem_cons_of_mem _ (min1_mem ys z)
    · rw [if_neg c]
      rcases List.mem_cons.mp (min1_mem ys x) with q | q
      · rw [q]; exact List.mem_cons_self ..
      · exact List.mem_cons_of_mem _ (List.mem_cons_of_mem _ q)
theorem max1_mem : ∀ (ys : List Fr) (x : Fr), fMax1 x ys ∈ x :: ys
  | [], x => List.mem_cons_self ..
  | z :: ys, x => by
    have e : fMax1 x (z :: ys) = fMax1 (if fLess x z = true then z else x) ys := rfl
    rw [e]
    by_cases c : fLess x z = true
    · rw [if_pos c]
      exact List.mem_cons_of_mem _ (max1_mem ys z)
    · rw [if_neg c]
      rcases List.mem_cons.mp (max1_mem ys x) with q | q
      · rw [q]; exact List.mem_cons_self ..
      · exact List.mem_cons_of_mem _ (List.mem_cons_of_mem _ q)
theorem take_snoc {α : Type} {l : List α} {i : Nat} {x : α} (h : l[i]? = some x) : l.take (i + 1) = l.take i ++ [x] := by
  obtain ⟨hi, e⟩ := List.getElem?_eq_some_iff.mp h
  rw [List.take_succ, List.getElem?_eq_getElem hi, e]
  rfl
theorem cut1 (u : V) (us : List V) : cutV (u :: us) (some 1) none = us := by
  unfold cutV
  have e := HT.sIx_nat (u :: us).length 0 1
  have e1 : HT.sIx (u :: us).length 0 (some 1) = 1 := by
    have : HT.sIx (u :: us).length 0 (some ((1 : Nat) : Int)) = min 1 (u :: us).length := e
    rw [show (some (1 : Int)) = some ((1 : Nat) : Int) from rfl, this, List.length_cons]
    omega
  rw [e1, HT.sIx_none, List.length_cons]
  show us.take (us.length + 1 - 1) = us
  exact List.take_of_length_le (by omega)
/-- the numbers are small enough -/
def Bs4 (fs : List Fr) : Prop := ∀ f ∈ fs, Bt 4000 f
def spLeast (K : PySem.W.Frag) : Sp := fun vs H Q _ => ∃ v fs, vs = [v] ∧ LsAt K H v fs ∧ fs ≠ [] ∧ Bs4 fs ∧ Ret H Q (fun H' r => FrAt K H' r (fMinL fs))
def spGreatest (K : PySem.W.Frag) : Sp := fun vs H Q _ => ∃ v fs, vs = [v] ∧ LsAt K H v fs ∧ fs ≠ [] ∧ Bs4 fs ∧ Ret H Q (fun H' r => FrAt K H' r (fMaxL fs))
theorem sc_least_of : FnScope ["fractions", "found", "fraction"] ["fractions"] (defScope zleast_of) := ⟨rfl, rfl, rfl, by decide +kernel, rfl, by decide +kernel, by decide +kernel⟩
theorem ok_least_of (T : Tx K mg) (c_is_less : Cal P w K mg base 1 "is_less" (spLess K) []) : Cal P w K mg base 2 "least_of" (spLeast K) [] := by
  refine mk_cal (k := 1) T 6 rfl rfl sc_least_of (fun _ _ _ _ _ _ us hl => match us, hl with | [_], _ => rfl) (fun vs H Q E h => ?_) (fun f cdv A outer s H vs Q E hr h => ?_)
  · obtain ⟨v, fs, rfl, _⟩ := h
    rfl
  · obtain ⟨v, fs, rfl, ⟨a, us, rfl, hS, hF⟩, hne, hB, q⟩ := h
    refine ⟨_, (pss_cons (ps_set (i := 1) sc_least_of.nd rfl (Or.inl rfl) (pe_ix (ixL K) (pv 0) pe_int (fun _ _ => rfl)))
      (pss_cons (ps_for PassesOwn.never rfl (pi_list (pe_slice (slL K) (pv 0) (po_some pe_int) po_none)) (pg_name (i := 2) sc_least_of.nd rfl (Or.inl rfl)) (pss_one (ps_if (pt_val (pe_c c_is_less hr (by first | decide | omega) rfl (pa_cons (pv 2) (pa_cons (pv 1) pa_nil)))) (pss_one (ps_set (i := 1) sc_least_of.nd rfl (Or.inl rfl) (pv 2))) pss_nil)))
      (pss_one (ps_ret (pv 1))))), ?_⟩
    cases hF with
    | nil => exact absurd rfl hne
    | @cons u0 f0 us fs r0 hF =>
      refine ⟨_, rfl, a, _, 0, u0, rfl, rfl, hS, atI_nat (j := 0) rfl, ?_⟩
      refine ⟨_, rfl, 1, rfl, a, _, rfl, hS, fun p hp => ⟨p, rfl, ⟨_, SqL.of upd_same⟩, ?_⟩⟩
      have s1 := same_new hp (.lst (cutV (u0 :: us) (some 1) none))
      have eL : upd H p (.lst (cutV (u0 :: us) (some 1) none)) p = some (.lst us) := by rw [upd_same, cut1]
      refine for_list (K := K) (a := p) (xs := us) (fun i σ H2 => ∃ v x, σ = [some (.ref a), some v, x] ∧ Same (upd H p (.lst (cutV (u0 :: us) (some 1) none))) H2 ∧ FrAt K H2 v (fMin1 f0 (fs.take i)))
        ⟨u0, none, rfl, Same.refl _, r0.keep (Same.keepT s1)⟩ (fun i σ H2 _ ⟨_, _, _, s, _⟩ => s.seq (SqL.of eL)) ?_ ?_
      · rintro i x σ H2 hi ⟨v, x0, rfl, s, hv⟩
        obtain ⟨f, hf, r⟩ := hF.get hi
        have r2 := r.keep ((Same.keepT (s1.trans s)) : KeepT K H H2)
        have b1 : Bt 4000 f := hB f (List.mem_cons_of_mem _ (List.mem_of_getElem? hf))
        have b2 : Bt 4000 (fMin1 f0 (fs.take i)) := hB _ (by
          rcases List.mem_cons.mp (min1_mem (fs.take i) f0) with q | q
          · rw [q]; exact List.mem_cons_self ..
          · exact List.mem_cons_of_mem _ (List.mem_of_mem_take q))
        have e1 : fMin1 f0 (fs.take (i + 1)) = if fLess f (fMin1 f0 (fs.take i)) = true then f else fMin1 f0 (fs.take i) := by
          rw [take_snoc hf]
          unfold fMin1
          rw [List.foldl_append]
          rfl
        refine ⟨_, rfl, _, rfl, _, _, f, _, rfl, r2, hv, b1, b2, _, rfl, ite2 (fun c => ?_) (fun c => ?_)⟩
        · refine ⟨_, rfl, x, _, rfl, s, ?_⟩
          rw [e1, if_pos c]
          exact r2
        · refine ⟨v, _, rfl, s, ?_⟩
          rw [e1, if_neg c]
          exact hv
      · rintro σ H2 ⟨v, x0, rfl, s, hv⟩
        refine ⟨_, rfl, q _ _ (s1.trans s) ?_⟩
        rw [hF.len, List.take_length] at hv
        exact hv
theorem sc_greatest_of : FnScope ["fractions", "found", "fraction"] ["fractions"] (defScope zgreatest_of) := ⟨rfl, rfl, rfl, by decide +kernel, rfl, by decide +kernel, by decide +kernel⟩
theorem ok_greatest_of (T : Tx K mg) (c_is_less : Cal P w K mg base 1 "is_less" (spLess K) []) : Cal P w K mg base 2 "greatest_of" (spGreatest K) [] := by
  refine mk_cal (k := 1) T 7 rfl rfl sc_greatest_of (fun _ _ _ _ _ _ us hl => match us, hl with | [_], _ => rfl) (fun vs H Q E h => ?_) (fun f cdv A outer s H vs Q E hr h => ?_)
  · obtain ⟨v, fs, rfl, _⟩ := h
    rfl
  · obtain ⟨v, fs, rfl, ⟨a, us, rfl, hS, hF⟩, hne, hB, q⟩ := h
    refine ⟨_, (pss_cons (ps_set (i := 1) sc_greatest_of.nd rfl (Or.inl rfl) (pe_ix (ixL K) (pv 0) pe_int (fun _ _ => rfl)))
      (pss_cons (ps_for PassesOwn.never rfl (pi_list (pe_slice (slL K) (pv 0) (po_some pe_int) po_none)) (pg_name (i := 2) sc_greatest_of.nd rfl (Or.inl rfl)) (pss_one (ps_if (pt_val (pe_c c_is_less hr (by first | decide | omega) rfl (pa_cons (pv 1) (pa_cons (pv 2) pa_nil)))) (pss_one (ps_set (i := 1) sc_greatest_of.nd rfl (Or.inl rfl) (pv 2))) pss_nil)))
      (pss_one (ps_ret (pv 1))))), ?_⟩
    cases hF with
    | nil => exact absurd rfl hne
    | @cons u0 f0 us fs r0 hF =>
      refine ⟨_, rfl, a, _, 0, u0, rfl, rfl, hS, atI_nat (j := 0) rfl, ?_⟩
      refine ⟨_, rfl, 1, rfl, a, _, rfl, hS, fun p hp => ⟨p, rfl, ⟨_, SqL.of upd_same⟩, ?_⟩⟩
      have s1 := same_new hp (.lst (cutV (u0 :: us) (some 1) none))
      have eL : upd H p (.lst (cutV (u0 :: us) (some 1) none)) p = some (.lst us) := by rw [upd_same, cut1]
      refine for_list (K := K) (a := p) (xs := us) (fun i σ H2 => ∃ v x, σ = [some (.ref a), some v, x] ∧ Same (upd H p (.lst (cutV (u0 :: us) (some 1) none))) H2 ∧ FrAt K H2 v (fMax1 f0 (fs.take i)))
        ⟨u0, none, rfl, Same.refl _, r0.keep (Same.keepT s1)⟩ (fun i σ H2 _ ⟨_, _, _, s, _⟩ => s.seq (SqL.of eL)) ?_ ?_
      · rintro i x σ H2 hi ⟨v, x0, rfl, s, hv⟩
        obtain ⟨f, hf, r⟩ := hF.get hi
        have r2 := r.keep ((Same.keepT (s1.trans s)) : KeepT K H H2)
        have b1 : Bt 4000 f := hB f (List.mem_cons_of_mem _ (List.mem_of_getElem? hf))
        have b2 : Bt 4000 (fMax1 f0 (fs.take i)) := hB _ (by
          rcases List.mem_cons.mp (max1_mem (fs.take i) f0) with q | q
          · rw [q]; exact List.mem_cons_self ..
          · exact List.mem_cons_of_mem _ (List.mem_of_mem_take q))
        have e1 : fMax1 f0 (fs.take (i + 1)) = if fLess (fMax1 f0 (fs.take i)) f = true then f else fMax1 f0 (fs.take i) := by
          rw [take_snoc hf]
          unfold fMax1
          rw [List.foldl_append]
          rfl
        refine ⟨_, rfl, _, rfl, _, _, _, f, rfl, hv, r2, b2, b1, _, rfl, ite2 (fun c => ?_) (fun c => ?_)⟩
        · refine ⟨_, rfl, x, _, rfl, s, ?_⟩
          rw [e1, if_pos c]
          exact r2
        · refine ⟨v, _, rfl, s, ?_⟩
          rw [e1, if_neg c]
          exact hv
      · rintro σ H2 ⟨v, x0, rfl, s, hv⟩
        refine ⟨_, rfl, q _ _ (s1.trans s) ?_⟩
        rw [hF.len, List.take_length] at hv
        exact hv
/-! ### sorting -/
def Ok4 (fs : List Fr) : Prop := ∀ f ∈ fs, Pos f ∧ Bt 4000 f
def spAsc (K : PySem.W.Frag) : Sp := fun vs H Q _ => ∃ v fs, vs = [v] ∧ LsAt K H v fs ∧ fs.length ≤ 1000 ∧ Ok4 fs ∧ Ret H Q (fun H' r => LsAt K H' r (asc fs))
theorem sc_ascending : FnScope ["fractions", "found", "fraction", "at"] ["fractions"] (defScope zascending) := ⟨rfl, rfl, rfl, by decide +kernel, rfl, by decide +kernel, by decide +kernel⟩
theorem ok_ascending (T : Tx K mg) (c_is_less : Cal P w K mg base 1 "is_less" (spLess K) []) : Cal P w K mg base 2 "ascending" (spAsc K) [] := by
  refine mk_cal (k := 1) T 8 rfl rfl sc_ascending (fun _ _ _ _ _ _ us hl => match us, hl with | [_], _ => rfl) (fun vs H Q E h => ?_) (fun f cdv A outer s H vs Q E hr h => ?_)
  · obtain ⟨v, fs, rfl, _⟩ := h
    rfl
  · obtain ⟨v, fs, rfl, ⟨a, us, rfl, hS, hF⟩, hlen, hB, q⟩ := h
    refine ⟨_, (pss_cons (ps_set (i := 1) sc_ascending.nd rfl (Or.inl rfl) (pe_lst pa_nil))
      (pss_cons (ps_for PassesOwn.never rfl (pi_list (pv 0)) (pg_name (i := 2) sc_ascending.nd rfl (Or.inl rfl)) (pss_cons (ps_set (i := 3) sc_ascending.nd rfl (Or.inl rfl) (pe_callB (lenS K) rfl T.b_len (by decide +kernel) (pa_cons (pv 1) pa_nil)))
      (pss_cons (ps_while PassesOwn.never (PW.pt (pw_and (pt_cmpR op_gt (pv 3) pe_int (nomark _)) (pw_and1 (pt_val (pe_c c_is_less hr (by first | decide | omega) rfl (pa_cons (pv 2) (pa_cons (pe_ix (ixL K) (pv 1) (pe_op op_sub (pv 3) pe_int) (fun _ _ => rfl)) pa_nil))))))) (pss_one (ps_aug (i := 3) sc_ascending.nd rfl (Or.inl rfl) pe_int ip_sub)))
      (pss_one (ps_expr (pe_bm PySem.F.plainAttrs_list PySem.F.slot_list_insert PySem.F.type_list_insert mt_insert (pv 1) (pa_cons (pv 3) (pa_cons (pv 2) pa_nil))))))))
      (pss_one (ps_ret (pv 1))))), ?_⟩
    refine ⟨(by show 0 ≤ sizeLine; decide), fun l hl => ?_⟩
    have s1 := same_new hl (.lst [])
    refine ⟨_, rfl, a, rfl, ⟨_, s1.seq hS⟩, for_list (K := K) (a := a) (xs := us) (fun i σ H2 => ∃ x y ws, σ = [some (.ref a), some (.ref l), x, y] ∧ Same H H2 ∧ H2 l = some (.lst ws) ∧ Frs K H2 ws (asc (fs.take i)))
      ⟨none, none, [], rfl, s1, upd_same, .nil⟩ (fun i σ H2 _ ⟨_, _, _, _, s, _⟩ => s.seq hS) ?_ ?_⟩
    · rintro i u σ H2 hi ⟨x0, y0, ws, rfl, s, hw, hA⟩
      obtain ⟨f, hf, r⟩ := hF.get hi
      have hfm := List.mem_of_getElem? hf
      have okA : Ok4 (asc (fs.take i)) := fun y hy => hB y (List.mem_of_mem_take (asc_mem.mp hy))
      have pA : ∀ y ∈ asc (fs.take i), Pos y := fun y hy => (okA y hy).1
      have sA := asc_srt (l := fs.take i) fun y hy => (hB y (List.mem_of_mem_take hy)).1
      have lA := hA.len
      have l2 : (asc (fs.take i)).length ≤ 1000 := by
        rw [asc_len, List.length_take]
        omega
      have r2 := r.keep (Same.keepT s : KeepT K H H2)
      refine ⟨_, rfl, l, ws, rfl, .inl (SqL.of hw), ?_⟩
      -- behind the while
      have fin : ∀ k : Nat, k ≤ (asc (fs.take i)).length → (∀ j y, k ≤ j → (asc (fs.take i))[j]? = some y → fLess f y = true) → (k = 0 ∨ ∃ y, (asc (fs.take i))[k - 1]? = some y ∧ fLess f y = false) →
          ∃ x y ws', (([some (.ref a), some (.ref l), some u, some (.int (k : Int))] : L2.St) = [some (.ref a), some (.ref l), x, y]) ∧ Same H (upd H2 l (.lst (ws.take k ++ [u] ++ ws.drop k))) ∧ upd H2 l (.lst (ws.take k ++ [u] ++ ws.drop k)) l = some (.lst ws') ∧ Frs K (upd H2 l (.lst (ws.take k ++ [u] ++ ws.drop k))) ws' (asc (fs.take (i + 1))) := fun k hk h1 h2 => by
        refine ⟨_, _, _, rfl, fun b o e => ?_, upd_same, ?_⟩
        · rw [upd_ne (ne_of_none e hl)]
          exact s b o e
        · rw [take_snoc hf, asc_snoc, ins_from_end k (hB f hfm).1 pA sA hk h1 h2]
          have kt : KeepT K H2 (upd H2 l (.lst (ws.take k ++ [u] ++ ws.drop k))) := keepT_lst hw _
          exact (((hA.keep kt).take k).app (.cons (r2.keep kt) .nil)).app ((hA.keep kt).drop k)
      refine while_by (fun σ H3 => ∃ k : Nat, σ = [some (.ref a), some (.ref l), some u, some (.int (k : Int))] ∧ k ≤ (asc (fs.take i)).length ∧ (∀ j y, k ≤ j → (asc (fs.take i))[j]? = some y → fLess f y = true) ∧ H3 = H2)
        (fun σ _ => match σ with | [_, _, _, some (.int k)] => k.toNat | _ => 0) ?_ ?_ ?_
      · exact ⟨ws.length, rfl, by omega, fun j y hj hy => absurd (List.getElem?_eq_some_iff.mp hy).1 (by omega), rfl⟩
      · rintro _ _ ⟨k, rfl, hk, hb, rfl⟩
        refine ⟨_, rfl, _, _, rfl, rfl, _, rfl, ite2 (fun c => ?_) (fun c => ?_)⟩
        · have hp : 0 < k := by
            have := of_decide_eq_true c
            omega
          have hk1 : k - 1 < (asc (fs.take i)).length := by omega
          have hy : (asc (fs.take i))[k - 1]? = some (asc (fs.take i))[k - 1] := List.getElem?_eq_getElem hk1
          obtain ⟨z, hz, rz⟩ := hA.get' hy
          have ek : (k : Int) - 1 = ((k - 1 : Nat) : Int) := by omega
          refine ⟨_, rfl, _, rfl, _, rfl, _, _, rfl, rfl, l, ws, _, z, rfl, rfl, SqL.of hw, at_of ek hz, ?_⟩
          refine ⟨_, _, f, _, rfl, r2, rz, (hB f hfm).2, (okA _ (List.getElem_mem hk1)).2, _, rfl, ite2 (fun c2 => ?_) (fun c2 => ?_)⟩
          · refine ⟨_, rfl, _, _, rfl, rfl, ⟨k - 1, ?_, by omega, fun j y hj hy' => ?_, rfl⟩, ?_⟩
            · rw [← ek]
              rfl
            · by_cases ej : j = k - 1
              · subst ej
                rw [hy] at hy'
                rw [← Option.some.inj hy']
                exact c2
              · exact hb j y (by omega) hy'
            · show ((k : Int) - 1).toNat < (k : Int).toNat
              omega
          · -- no less: the place is found
            refine ⟨_, rfl, .inl ⟨rfl, _, SqL.of hw⟩, _, rfl, _, rfl, l, ws, k, u, rfl, rfl, hw, ?_, by omega, ?_, ?_⟩
            · exact small1000 (by omega)
            · have : (1000 : Int) < 2 ^ 63 := by decide
              omega
            · exact fin k hk hb (.inr ⟨_, hy, Bool.eq_false_iff.mpr c2⟩)
        · have h0 : k = 0 := by
            have : ¬ (0 : Int) < (k : Int) := fun z => c (decide_eq_true z)
            omega
          subst h0
          refine iteF ⟨_, rfl, .inl ⟨rfl, _, SqL.of hw⟩, _, rfl, _, rfl, l, ws, 0, u, rfl, rfl, hw, ?_, by omega, by decide, ?_⟩
          · exact small1000 (by omega)
          · exact fin 0 hk hb (.inl rfl)
      · intro σ H Q Q' f h
        obtain ⟨v, e, i, j, e1, e2, k, e3, h⟩ := h
        refine ⟨v, e, i, j, e1, e2, k, e3, ?_⟩
        cases k with
        | false => exact iteF (f _ _ (by simpa using h))
        | true =>
          rw [if_pos rfl] at h
          obtain ⟨v1, g1, v2, g2, v3, g3, i1, j1, g4, g5, p1, xs1, i2, w1, g6, g7, g8, g9, u1, u2, f1, f2, g10, g11, g12, g13, g14, c1, g15, h⟩ := h
          exact iteT ⟨v1, g1, v2, g2, v3, g3, i1, j1, g4, g5, p1, xs1, i2, w1, g6, g7, g8, g9, u1, u2, f1, f2, g10, g11, g12, g13, g14, c1, g15, f _ _ h⟩
    · rintro σ H2 ⟨x0, y0, ws, rfl, s, hw, hA⟩
      refine ⟨_, rfl, q _ _ s ⟨l, ws, rfl, SqL.of hw, ?_⟩⟩
      rw [hF.len, List.take_length] at hA
      exact hA
def spMid (K : PySem.W.Frag) : Sp := fun vs H Q _ => ∃ u v x f g k, vs = [u, v, x] ∧ FrAt K H u f ∧ FrAt K H v g ∧ FrAt K H x k ∧ Ok4 [f, g, k] ∧ Ret H Q (fun H' r => FrAt K H' r (mid3 f g k))
theorem sc_middle : FnScope ["one", "two", "three"] ["one", "two", "three"] (defScope zmiddle) := ⟨rfl, rfl, rfl, by decide +kernel, rfl, by decide +kernel, by decide +kernel⟩
theorem ok_middle (T : Tx K mg) (c_ascending : Cal P w K mg base 2 "ascending" (spAsc K) []) : Cal P w K mg base 3 "middle" (spMid K) [] := by
  refine mk_cal (k := 2) T 9 rfl rfl sc_middle (fun _ _ _ _ _ _ us hl => match us, hl with | [_, _, _], _ => rfl) (fun vs H Q E h => ?_) (fun f cdv A outer s H vs Q E hr h => ?_)
  · obtain ⟨u, v, x, f, g, k, rfl, _⟩ := h
    rfl
  · obtain ⟨u, v, x, f, g, k, rfl, hf, hg, hk, hB, q⟩ := h
    refine ⟨_, (pss_one (ps_ret (pe_ix (ixL K) (pe_c c_ascending hr (by first | decide | omega) rfl (pa_cons (pe_lst (pa_cons (pv 0) (pa_cons (pv 1) (pa_cons (pv 2) pa_nil)))) pa_nil)) pe_int (fun _ _ => rfl)))), ?_⟩
    refine ⟨_, rfl, _, rfl, _, rfl, (by show 3 ≤ sizeLine; decide), fun p hp => ?_⟩
    have s1 := same_new hp (.lst [u, v, x])
    have kt : KeepT K H _ := Same.keepT s1
    refine ⟨_, [f, g, k], rfl, ⟨p, _, rfl, SqL.of upd_same, .cons (hf.keep kt) (.cons (hg.keep kt) (.cons (hk.keep kt) .nil))⟩, by simp, hB, fun H' r s2 hr => ?_⟩
    obtain ⟨b, ws, rfl, hb, hw⟩ := hr
    obtain ⟨y, ey, e, _⟩ := asc_getD (l := [f, g, k]) (i := 1) (by simp)
    obtain ⟨z, hz, rz⟩ := hw.get' ey
    refine ⟨b, ws, 1, z, rfl, rfl, hb, atI_nat (j := 1) hz, q _ _ (s1.trans s2) ?_⟩
    unfold mid3
    rw [e]
    exact rz
def spRanked (K : PySem.W.Frag) : Sp := fun vs H Q _ => ∃ (k : Nat) (v : V) (fs : List Fr), vs = [.int k, v] ∧ LsAt K H v fs ∧ fs.length ≤ 1000 ∧ Ok4 fs ∧ 1 ≤ k ∧ k ≤ fs.length ∧ Ret H Q (fun H' r => FrAt K H' r ((asc fs).getD (fs.length - k) (0, 1)))
theorem sc_ranked_of : FnScope ["k", "numbers"] ["k", "numbers"] (defScope zranked_of) := ⟨rfl, rfl, rfl, by decide +kernel, rfl, by decide +kernel, by decide +kernel⟩
theorem ok_ranked_of (T : Tx K mg) (c_ascending : Cal P w K mg base 2 "ascending" (spAsc K) []) : Cal P w K mg base 3 "ranked_of" (spRanked K) [] := by
  refine mk_cal (k := 2) T 16 rfl rfl sc_ranked_of (fun _ _ _ _ _ _ us hl => match us, hl with | [_, _], _ => rfl) (fun vs H Q E h => ?_) (fun f cdv A outer s H vs Q E hr h => ?_)
  · obtain ⟨k, v, fs, rfl, _⟩ := h
    rfl
  · obtain ⟨k, v, fs, rfl, hL, hlen, hB, h1, h2, q⟩ := h
    refine ⟨_, (pss_one (ps_ret (pe_ix (ixL K) (pe_c c_ascending hr (by first | decide | omega) rfl (pa_cons (pv 1) pa_nil)) (pe_op op_sub (pe_callB (lenS K) rfl T.b_len (by decide +kernel) (pa_cons (pv 1) pa_nil)) (pv 0)) (fun _ _ => rfl)))), ?_⟩
    refine ⟨_, rfl, v, fs, rfl, hL, hlen, hB, fun H' r s hr => ?_⟩
    obtain ⟨a, us, rfl, hS, hF⟩ := hL
    refine ⟨_, rfl, a, us, rfl, .inl (s.seq hS), _, rfl, _, _, rfl, rfl, ?_⟩
    obtain ⟨b, ws, rfl, hb, hw⟩ := hr
    obtain ⟨y, ey, e, _⟩ := asc_getD (l := fs) (i := fs.length - k) (by omega)
    obtain ⟨z, hz, rz⟩ := hw.get' ey
    have ek : ((us.length : Nat) : Int) - (k : Int) = ((fs.length - k : Nat) : Int) := by
      rw [hF.len]
      omega
    refine ⟨b, ws, _, z, rfl, rfl, hb, at_of ek hz, q _ _ s ?_⟩
    rw [e]
    exact rz
end
end Cb
namespace Cb
open PySem PySem.Spec PyProof.Rows L2
open C8 (Cal Mak pe_c pe_mk pe_gc)
section
variable {P : Program} {w : World} {K : PySem.W.Frag} {mg : Str → Option Value} {base : Heap}
def spWithin : Sp := fun vs H Q _ => ∃ i l m : Int, vs = [.int i, .int l, .int m] ∧ Q (.bl (decide (l ≤ i) && decide (i ≤ m))) H
theorem sc_is_within : FnScope ["thing", "least", "most"] ["thing", "least", "most"] (defScope zis_within) := ⟨rfl, rfl, rfl, by decide +kernel, rfl, by decide +kernel, by decide +kernel⟩
theorem ok_is_within (T : Tx K mg) (c_is_integer : Cal P w K mg base 1 "is_integer" spIsInt []) : Cal P w K mg base 2 "is_within" spWithin [] := by
  refine mk_cal (k := 1) T 11 rfl rfl sc_is_within (fun _ _ _ _ _ _ us hl => match us, hl with | [_, _, _], _ => rfl) (fun vs H Q E h => ?_) (fun f cdv A outer s H vs Q E hr h => ?_)
  · obtain ⟨i, l, m, rfl, _⟩ := h
    rfl
  · obtain ⟨i, l, m, rfl, q⟩ := h
    refine ⟨_, (pss_one (ps_ret (pe_and (pe_c c_is_integer hr (by first | decide | omega) rfl (pa_cons (pv 0) pa_nil)) (pe_one (pe_chain op_le op_le (pv 1) (pv 0) (pv 2)))))), ?_⟩
    refine ⟨_, rfl, i, rfl, true, rfl, iteT ⟨_, rfl, _, rfl, _, _, rfl, rfl, _, rfl, ite2 (fun c => ?_) (fun c => ?_)⟩⟩
    · rw [c, Bool.true_and] at q
      exact ⟨_, rfl, _, _, rfl, rfl, q⟩
    · rw [Bool.eq_false_iff.mpr c, Bool.false_and] at q
      exact q
theorem tyTup {H : Hp} {a : Addr} {xs : List V} (h : SqT K H a xs) : TyX K H (.ref a) (.type "tuple") := by
  rcases h with (h | ⟨o, h⟩) | ⟨o, its, n, h1, h2, _⟩
  · exact .base (.tup h)
  · exact .fTuple h
  · exact .kTuple h1 h2
/-- a list of flags as told -/
theorem flags {us : List V} {n : Nat} {b : Nat → Bool} (e : us.length = n) (h : ∀ i y, us[i]? = some y → y = V.bl (b i)) : us = ((List.range n).map b).map V.bl := by
  refine List.ext_getElem? fun i => ?_
  by_cases hi : i < n
  · have hu : us[i]? = some us[i] := List.getElem?_eq_getElem (by omega)
    rw [hu, h i _ hu]
    simp [hi]
  · rw [List.getElem?_eq_none (by omega), List.getElem?_eq_none (by simp; omega)]
theorem all_true {n : Nat} : ((List.range n).map fun _ => true).all id = true := by
  rw [List.all_eq_true]
  intro x hx
  obtain ⟨_, _, rfl⟩ := List.mem_map.mp hx
  rfl
def spIsFr (K : PySem.W.Frag) : Sp := fun vs H Q _ => ∃ v f, vs = [v] ∧ FrAt K H v f ∧ Lo f ∧ Ret H Q (fun _ r => r = .bl true)
theorem sc_is_fraction : FnScope ["thing", "part"] ["thing"] (defScope zis_fraction) := ⟨rfl, rfl, rfl, by decide +kernel, rfl, by decide +kernel, by decide +kernel⟩
theorem ok_is_fraction (T : Tx K mg) (c_divisor : Cal P w K mg base 1 "divisor" spDiv []) (c_is_integer : Cal P w K mg base 1 "is_integer" spIsInt []) : Cal P w K mg base 2 "is_fraction" (spIsFr K) [] := by
  refine mk_cal (k := 1) T 10 rfl rfl sc_is_fraction (fun _ _ _ _ _ _ us hl => match us, hl with | [_], _ => rfl) (fun vs H Q E h => ?_) (fun f cdv A outer s H vs Q E hr h => ?_)
  · obtain ⟨v, f, rfl, _⟩ := h
    rfl
  · obtain ⟨v, f, rfl, ⟨a, rfl, hS⟩, hlo, q⟩ := h
    refine ⟨_, (pss_cons (ps_if (PW.pt (pw_or (pt_not (pt_val (pe_callB (isiK K) rfl T.b_isinstance (by decide +kernel) (pa_cons (pv 0) (pa_cons (pe_bltn (v := .ty "tuple") rfl T.b_tuple (by decide +kernel) rfl) pa_nil))))) (pw_or (pt_cmpR op_ne (pe_callB (lenS K) rfl T.b_len (by decide +kernel) (pa_cons (pv 0) pa_nil)) pe_int (nomark _)) (pw_or1 (pt_not (pt_val (pe_callB (allK K rfl) rfl T.b_all (by decide +kernel) (pa_cons (pe_lc (own := [("part", 1)]) (g := (gName 1)) rfl sc_is_fraction.nd (pi_tup (pv 0)) (blkOk_by (own := [("part", 1)]) (N := ["thing", "part"]) (sc := defScope zis_fraction) (by decide +kernel)) (fun _ _ _ _ _ => (pg_name (i := 1) sc_is_fraction.nd rfl (Or.inl rfl))) (fun _ _ _ _ _ => pts_nil) (fun _ _ _ _ _ => (pe_c c_is_integer hr (by first | decide | omega) rfl (pa_cons (pv 1) pa_nil)))) pa_nil)))))))) (pss_one (ps_ret pe_bl)) pss_nil)
      (pss_one (ps_ret (pe_and (pe_cmpR op_ge (pe_ix (ixT K) (pv 0) pe_int (fun _ _ => rfl)) pe_int (nomark _)) (pe_one (pe_cmpR op_eq (pe_c c_divisor hr (by first | decide | omega) rfl (pa_cons (pe_ix (ixT K) (pv 0) pe_int (fun _ _ => rfl)) (pa_cons (pe_ix (ixT K) (pv 0) pe_int (fun _ _ => rfl)) pa_nil))) pe_int (nomark _))))))), ?_⟩
    refine ⟨_, rfl, _, _, _, _, true, rfl, .ty _, tyTup hS, kit_ty (by decide +kernel), true, rfl, iteF ?_⟩
    refine ⟨_, rfl, a, _, rfl, .inr hS, rfl, _, rfl, iteNS rfl ?_⟩
    refine ⟨_, rfl, a, rfl, ⟨_, hS⟩, fun D hD => ?_⟩
    refine lc_map (K := K) (walk_tup (K := K) (a := a) (xs := [.int f.1, .int f.2])) (fun _ _ y => y = .bl true) hD (by show 2 < sizeLine; decide) (fun H1 s => Same.keepT s a _ hS) (fun _ _ _ _ _ r => r) ?_ ?_
    · rintro i x H1 H2 hi s ⟨rfl, hx⟩ Q' N qq
      refine ⟨rfl, _, rfl, ?_⟩
      match i, hi, hx with
      | 0, _, hx =>
        have e : V.int f.1 = x := Option.some.inj hx
        subst e
        exact ⟨f.1, rfl, qq _ _ (Same.refl _) rfl⟩
      | 1, _, hx =>
        have e : V.int f.2 = x := Option.some.inj hx
        subst e
        exact ⟨f.2, rfl, qq _ _ (Same.refl _) rfl⟩
    · intro H1 us s hus hl hv
      have eu := flags (b := fun _ => true) hl hv
      refine ⟨D, _, rfl, SqL.of (eu ▸ hus), _, rfl, ?_⟩
      rw [all_true]
      refine iteF ?_
      have hS1 : SqT K H1 a _ := Same.keepT s a _ hS
      have hp : decide ((1 : Int) ≤ f.2) = true := decide_eq_true hlo.1
      refine ⟨_, rfl, a, _, 1, _, rfl, rfl, hS1, rfl, _, _, rfl, rfl, _, rfl, ?_⟩
      rw [hp]
      refine iteT ⟨_, rfl, a, _, 0, _, rfl, rfl, hS1, rfl, _, rfl, a, _, 1, _, rfl, rfl, hS1, rfl, _, _, rfl, rfl, ?_⟩
      refine q _ _ s ?_
      rw [hlo.2]
      rfl
def spIsNum (K : PySem.W.Frag) : Sp := fun vs H Q _ => ∃ v f, vs = [v] ∧ FrAt K H v f ∧ Num f ∧ Ret H Q (fun _ r => r = .bl true)
theorem sc_is_number : FnScope ["thing"] ["thing"] (defScope zis_number) := ⟨rfl, rfl, rfl, by decide +kernel, rfl, by decide +kernel, by decide +kernel⟩
theorem ok_is_number (T : Tx K mg) (c_is_fraction : Cal P w K mg base 2 "is_fraction" (spIsFr K) []) : Cal P w K mg base 3 "is_number" (spIsNum K) [] := by
  refine mk_cal (k := 2) T 12 rfl rfl sc_is_number (fun _ _ _ _ _ _ us hl => match us, hl with | [_], _ => rfl) (fun vs H Q E h => ?_) (fun f cdv A outer s H vs Q E hr h => ?_)
  · obtain ⟨v, f, rfl, _⟩ := h
    rfl
  · obtain ⟨v, f, rfl, hF, ⟨hlo, h0, h1⟩, q⟩ := h
    refine ⟨_, (pss_one (ps_ret (pe_and (pe_c c_is_fraction hr (by first | decide | omega) rfl (pa_cons (pv 0) pa_nil)) (pe_one (pe_chain op_le op_le pe_int (pe_ix (ixT K) (pv 0) pe_int (fun _ _ => rfl)) (pe_ix (ixT K) (pv 0) pe_int (fun _ _ => rfl))))))), ?_⟩
    refine ⟨_, rfl, v, f, rfl, hF, hlo, fun H1 r s e => ?_⟩
    subst e
    obtain ⟨a, rfl, hS⟩ := hF
    have hS1 : SqT K H1 a _ := Same.keepT s a _ hS
    refine ⟨true, rfl, iteT ⟨_, rfl, a, _, 0, _, rfl, rfl, hS1, rfl, _, _, rfl, rfl, _, rfl, ifT h0 ?_⟩⟩
    refine ⟨_, rfl, a, _, 1, _, rfl, rfl, hS1, rfl, _, _, rfl, rfl, q _ _ s ?_⟩
    exact congrArg V.bl (decide_eq_true h1)
def spAreNums (K : PySem.W.Frag) : Sp := fun vs H Q _ => ∃ (v : V) (n : Nat) (fs : List Fr), vs = [v, .int n] ∧ TpAt K H v fs ∧ fs.length = n ∧ n ≤ 1000 ∧ (∀ f ∈ fs, Num f) ∧ Ret H Q (fun _ r => r = .bl true)
theorem sc_are_numbers : FnScope ["thing", "many", "part"] ["thing", "many"] (defScope zare_numbers) := ⟨rfl, rfl, rfl, by decide +kernel, rfl, by decide +kernel, by decide +kernel⟩
theorem ok_are_numbers (T : Tx K mg) (c_is_number : Cal P w K mg base 3 "is_number" (spIsNum K) []) : Cal P w K mg base 4 "are_numbers" (spAreNums K) [] := by
  refine mk_cal (k := 3) T 13 rfl rfl sc_are_numbers (fun _ _ _ _ _ _ us hl => match us, hl with | [_, _], _ => rfl) (fun vs H Q E h => ?_) (fun f cdv A outer s H vs Q E hr h => ?_)
  · obtain ⟨v, n, fs, rfl, _⟩ := h
    rfl
  · obtain ⟨v, n, fs, rfl, ⟨a, us, rfl, hS, hF⟩, hn, h1000, hN, q⟩ := h
    refine ⟨_, (pss_one (ps_ret (pe_and (pe_callB (isiK K) rfl T.b_isinstance (by decide +kernel) (pa_cons (pv 0) (pa_cons (pe_bltn (v := .ty "tuple") rfl T.b_tuple (by decide +kernel) rfl) pa_nil))) (pe_and (pe_cmpR op_eq (pe_callB (lenS K) rfl T.b_len (by decide +kernel) (pa_cons (pv 0) pa_nil)) (pv 1) (nomark _)) (pe_one (pe_callB (allK K rfl) rfl T.b_all (by decide +kernel) (pa_cons (pe_lc (own := [("part", 2)]) (g := (gName 2)) rfl sc_are_numbers.nd (pi_tup (pv 0)) (blkOk_by (own := [("part", 2)]) (N := ["thing", "many", "part"]) (sc := defScope zare_numbers) (by decide +kernel)) (fun _ _ _ _ _ => (pg_name (i := 2) sc_are_numbers.nd rfl (Or.inl rfl))) (fun _ _ _ _ _ => pts_nil) (fun _ _ _ _ _ => (pe_c c_is_number hr (by first | decide | omega) rfl (pa_cons (pv 2) pa_nil)))) pa_nil))))))), ?_⟩
    have el : us.length = n := hF.len.trans hn
    refine ⟨_, rfl, _, _, _, _, true, rfl, .ty _, tyTup hS, kit_ty (by decide +kernel), true, rfl, iteT ?_⟩
    refine ⟨_, rfl, a, _, rfl, .inr hS, _, rfl, rfl, _, rfl, ?_⟩
    rw [el]
    refine ifT rfl ⟨_, rfl, a, rfl, ⟨_, hS⟩, fun D hD => ?_⟩
    refine lc_map (K := K) (walk_tup (K := K) (a := a) (xs := us)) (fun _ _ y => y = .bl true) hD (small1000 (by omega)) (fun H1 s => Same.keepT s a _ hS) (fun _ _ _ _ _ r => r) ?_ ?_
    · rintro i x H1 H2 hi s ⟨rfl, hx⟩ Q' N qq
      obtain ⟨f, hf, r⟩ := hF.get hx
      exact ⟨rfl, _, rfl, x, f, rfl, r.keep (Same.keepT s), hN f (List.mem_of_getElem? hf), fun H3 r s3 e => qq _ _ s3 e⟩
    · intro H1 ws s hus hl hv
      have eu := flags (b := fun _ => true) hl hv
      refine ⟨D, _, rfl, SqL.of (eu ▸ hus), q _ _ s ?_⟩
      rw [all_true]
/-! ### rules -/
def rf (n : Nat) (u : V) : List (Str × V) := putF "term" u (putF "people" (.int (n : Int)) [])
theorem rf_n1 : ¬ (("people" : Str) = "term") := by decide +kernel
theorem rf_people (n : Nat) (u : V) : (rf n u).lookup ("people" : Str) = some (.int n) := by
  unfold rf
  rw [lookup_putF, if_neg rf_n1, lookup_putF, if_pos rfl]
theorem rf_term (n : Nat) (u : V) : (rf n u).lookup ("term" : Str) = some u := by
  unfold rf
  rw [lookup_putF, if_pos rfl]
/-- a Rule stands at v -/
def RuAt (K : PySem.W.Frag) (H : Hp) (v : V) (n : Nat) (u : V) : Prop := ∃ a dx, v = .ref a ∧ H a = some (.ins (He.ga K "Rule") dx (rf n u))
theorem RuAt.same {H H' : Hp} {v u : V} {n : Nat} (h : RuAt K H v n u) (s : Same H H') : RuAt K H' v n u := let ⟨a, dx, e, q⟩ := h; ⟨a, dx, e, s _ _ q⟩
def spCheck (K : PySem.W.Frag) : Sp := fun vs H Q _ => ∃ (v x : V) (n : Nat) (u : V) (fs : List Fr), vs = [v, x] ∧ RuAt K H v n u ∧ TpAt K H x fs ∧ fs.length = n ∧ n ≤ 1000 ∧ (∀ f ∈ fs, Num f) ∧ Ret H Q (fun _ r => r = .non)
theorem sc_check_wishes : FnScope ["rule", "thing"] ["rule", "thing"] (defScope zcheck_wishes) := ⟨rfl, rfl, rfl, by decide +kernel, rfl, by decide +kernel, by decide +kernel⟩
theorem ok_check_wishes (T : Tx K mg) (c_are_numbers : Cal P w K mg base 4 "are_numbers" (spAreNums K) []) : Cal P w K mg base 5 "check_wishes" (spCheck K) [] := by
  refine mk_cal (k := 4) T 14 rfl rfl sc_check_wishes (fun _ _ _ _ _ _ us hl => match us, hl with | [_, _], _ => rfl) (fun vs H Q E h => ?_) (fun f cdv A outer s H vs Q E hr h => ?_)
  · obtain ⟨v, x, n, u, fs, rfl, _⟩ := h
    rfl
  · obtain ⟨v, x, n, u, fs, rfl, ⟨a, dx, rfl, hR⟩, hT, hn, h1, hN, q⟩ := h
    refine ⟨_, (pss_one (ps_if (pt_not (pt_val (pe_c c_are_numbers hr (by first | decide | omega) rfl (pa_cons (pv 1) (pa_cons (pe_fld (pv 0) rfl) pa_nil))))) (pss_one ps_never) pss_nil)), ?_⟩
    refine ⟨_, rfl, _, rfl, a, _, dx, _, _, rfl, hR, T.clR, T.nPe, rf_people n u, x, n, fs, rfl, hT, hn, h1, hN, fun H1 r s e => ?_⟩
    subst e
    refine ⟨true, rfl, iteF ?_⟩
    exact q _ _ s rfl
def spMean (K : PySem.W.Frag) : Sp := fun vs H Q _ => ∃ (a : Addr) (v : V) (ws : List Int) (fs : List Fr) (cs : List Nat), vs = [.ref a, v] ∧ SqL K H a (ws.map V.int) ∧ LsAt K H v fs ∧ ws ≠ [] ∧ ws.length = fs.length ∧ ws.length ≤ 6 ∧ List.sum cs ≤ 59 ∧
  All2 (fun (p : Int × Fr) c => 1 ≤ p.1 ∧ p.1 ≤ 99 ∧ Lo p.2 ∧ Bt (64 * c) p.2) (ws.zip fs) cs ∧ Ret H Q (fun H' r => FrAt K H' r (fMean (ws.zip fs)))
theorem gcd_one (w : Int) (h : 0 < w) : fMade 1 w = (1, w) := by
  have e : Int.gcd 1 w = 1 := Int.one_gcd
  unfold fMade
  rw [e]
  show ((1 : Int) / 1, w / 1) = (1, w)
  rw [Int.ediv_one, Int.ediv_one]
theorem zip_get {ws : List Int} {fs : List Fr} {i : Nat} {w : Int} {f : Fr} (h1 : ws[i]? = some w) (h2 : fs[i]? = some f) : (ws.zip fs)[i]? = some (w, f) := by
  rw [List.getElem?_zip_eq_some]
  exact ⟨h1, h2⟩
theorem all2_take_cs {α β : Type} {R : α → β → Prop} {l : List α} {cs : List β} (h : All2 R l cs) (i : Nat) : All2 R (l.take i) (cs.take i) := h.take i
theorem sum_take_le : ∀ (cs : List Nat) (i : Nat), (cs.take i).sum ≤ cs.sum
  | [], i => by simp
  | c :: cs, 0 => by simp
  | c :: cs, i + 1 => by
    have := sum_take_le cs i
    simp only [List.take_succ_cons, List.sum_cons]
    omega
theorem sc_mean_of : FnScope ["weights", "numbers", "total", "weight", "number"] ["weights", "numbers"] (defScope zmean_of) := ⟨rfl, rfl, rfl, by decide +kernel, rfl, by decide +kernel, by decide +kernel⟩
theorem ok_mean_of (T : Tx K mg) (c_times : Cal P w K mg base 3 "times" (spTimes K) []) (c_plus : Cal P w K mg base 3 "plus" (spPlus K) []) (c_made : Cal P w K mg base 2 "made" (spMade K) []) : Cal P w K mg base 4 "mean_of" (spMean K) [] := by
  refine mk_cal (k := 3) T 15 rfl rfl sc_mean_of (fun _ _ _ _ _ _ us hl => match us, hl with | [_, _], _ => rfl) (fun vs H Q E h => ?_) (fun f cdv A outer s H vs Q E hr h => ?_)
  · obtain ⟨a, v, ws, fs, cs, rfl, _⟩ := h
    rfl
  · obtain ⟨a, v, ws, fs, cs, rfl, hW, hL, hne, hlen, h6, hcs, hok, q⟩ := h
    refine ⟨_, (pss_cons (ps_set (i := 2) sc_mean_of.nd rfl (Or.inl rfl) (pe_gc rfl T.ZERO))
      (pss_cons (ps_for PassesOwn.never rfl (pi_zip rfl T.b_zip (pa_cons (pv 0) (pa_cons (pv 1) pa_nil))) (pg_tup rfl (pgs_cons (pg_name (i := 3) sc_mean_of.nd rfl (Or.inl rfl)) (pgs_cons (pg_name (i := 4) sc_mean_of.nd rfl (Or.inl rfl)) pgs_nil))) (pss_one (ps_set (i := 2) sc_mean_of.nd rfl (Or.inl rfl) (pe_c c_plus hr (by first | decide | omega) rfl (pa_cons (pv 2) (pa_cons (pe_c c_times hr (by first | decide | omega) rfl (pa_cons (pe_tup (pa_cons (pv 3) (pa_cons pe_int pa_nil))) (pa_cons (pv 4) pa_nil))) pa_nil))))))
      (pss_one (ps_ret (pe_c c_times hr (by first | decide | omega) rfl (pa_cons (pv 2) (pa_cons (pe_c c_made hr (by first | decide | omega) rfl (pa_cons pe_int (pa_cons (pe_callB (sumK K rfl) rfl T.b_sum (by decide +kernel) (pa_cons (pv 0) pa_nil)) pa_nil))) pa_nil))))))), ?_⟩
    obtain ⟨b, us, rfl, hS, hF⟩ := hL
    have hl3 := hF.len
    have hzl : (ws.zip fs).length = ws.length := by rw [List.length_zip]; omega
    -- what is told of each of the pairs
    have hall : ∀ p ∈ ws.zip fs, 1 ≤ p.1 ∧ p.1 ≤ 99 ∧ Lo p.2 := fun p hp => by
      obtain ⟨i, hi⟩ := List.mem_iff_getElem?.mp hp
      obtain ⟨c, _, r⟩ := hok.get hi
      exact ⟨r.1, r.2.1, r.2.2.1⟩
    have wt : Wt (ws.zip fs) := fun p hp => ⟨(hall p hp).1, (hall p hp).2.2.1⟩
    have hzne : ws.zip fs ≠ [] := fun e => by
      rw [e] at hzl
      exact hne (List.eq_nil_of_length_eq_zero hzl.symm)
    -- the sums so far
    have part : ∀ i, Lo (fSum ((ws.zip fs).take i)) ∧ Bt 4000 (fSum ((ws.zip fs).take i)) := fun i => by
      refine ⟨fSum_lo fun p hp => wt p (List.mem_of_mem_take hp), ?_⟩
      have b := sum_bt _ _ (0, 1) 1 lo_zero ⟨by decide, by decide⟩ (hok.take i)
      refine b.mono ?_
      have e1 := szW_le (cs.take i)
      have e2 := sum_take_le cs i
      have e3 := hok.len
      have e4 : (cs.take i).length ≤ cs.length := by rw [List.length_take]; omega
      omega
    refine ⟨_, rfl, _, rfl, a, b, _, _, rfl, hW, hS, for_it (walk_zip (K := K) (a := a) (b := b) (xs := ws.map V.int) (ys := us) (n := ws.length) (by rw [List.length_map]; omega))
      (fun i σ H2 => ∃ v x y, σ = [some (.ref a), some (.ref b), some v, x, y] ∧ Same H H2 ∧ FrAt K H2 v (fSum ((ws.zip fs).take i)))
      ⟨_, none, none, rfl, Same.refl _, ⟨_, rfl, T.zero_at _⟩⟩ (fun i σ H2 _ ⟨_, _, _, _, s, _⟩ => ⟨s.seq hW, s.seq hS⟩) ?_ ?_⟩
    · rintro i v0 σ H2 H3 hi ⟨v, x0, y0, rfl, s, hv⟩ ⟨D, x, y, rfl, hD, rfl, hx, hy⟩
      have s2 := same_new hD (.tup [x, y])
      replace hx : (ws.map V.int)[i]? = some x := hx
      replace hy : us[i]? = some y := hy
      obtain ⟨w, hw, rfl⟩ : ∃ w, ws[i]? = some w ∧ x = V.int w := by
        rw [List.getElem?_map] at hx
        cases e : ws[i]? with
        | none => rw [e] at hx; cases hx
        | some w => rw [e] at hx; exact ⟨w, rfl, (Option.some.inj hx).symm⟩
      obtain ⟨f, hf, r⟩ := hF.get hy
      have hz := zip_get hw hf
      obtain ⟨c, hc, o1, o2, o3, o4⟩ := hok.get hz
      have hcl : c ≤ cs.sum := by
        have := List.mem_of_getElem? hc
        clear part hok hcs q hc hz
        induction cs with
        | nil => cases this
        | cons d l ih =>
          rw [List.sum_cons]
          rcases List.mem_cons.mp this with rfl | z
          · omega
          · have := ih z
            omega
      obtain ⟨p1, p2⟩ := part i
      have k2 : KeepT K H _ := Same.keepT (s.trans s2)
      refine ⟨D, [.int w, y], rfl, SqT.of upd_same, rfl, _, _, rfl, _, _, rfl, rfl, ?_⟩
      refine ⟨_, rfl, _, rfl, (by show 2 ≤ sizeLine; decide), fun p hp => ?_⟩
      have s3 := same_new hp (.tup [.int w, .int 1])
      have k3 : KeepT K _ _ := Same.keepT s3
      have bw : Bt 7 (w, 1) := ⟨by show w.natAbs < 128; have := o1; have := o2; omega, by show (1 : Int).natAbs < 2 ^ 7; decide⟩
      refine ⟨_, rfl, _, _, (w, 1), f, rfl, ⟨p, rfl, SqT.of upd_same⟩, (r.keep k2).keep k3, by show (0 : Int) < 1; decide, o3.1, bw.mono (by decide), o4.mono (by omega), fun H4 r4 s4 h4 => ?_⟩
      have bt2 := times_bt (a := (w, 1)) (by show (0 : Int) < 1; decide) o3.1 bw o4
      refine ⟨v, r4, _, _, rfl, (hv.keep (Same.keepT s2)).keep ((k3).trans (Same.keepT s4)), h4, p1.1, (times_lo (a := (w, 1)) (by show (0 : Int) < 1; decide) o3.1).1, p2, bt2.mono (by omega), fun H5 r5 s5 h5 => ?_⟩
      refine ⟨r5, _, _, rfl, (((s.trans s2).trans s3).trans s4).trans s5, ?_⟩
      rw [take_snoc hz]
      unfold fSum
      rw [List.foldl_append]
      exact h5
    · rintro σ H2 ⟨v, x0, y0, rfl, s, hv⟩
      rw [← hzl, List.take_length] at hv
      obtain ⟨p1, p2⟩ := part (ws.zip fs).length
      rw [List.take_length] at p1 p2
      have ew : wSum (ws.zip fs) = ws.sum := by
        unfold wSum
        rw [List.map_fst_zip (by omega)]
      have wp := wSum_pos hzne wt
      have wl := (wSum_le (ws.zip fs) fun p hp => ⟨(hall p hp).1, (hall p hp).2.1⟩).1
      rw [ew] at wp wl
      have b10 : ws.sum.natAbs < 2 ^ 10 := by show ws.sum.natAbs < 1024; omega
      refine ⟨_, rfl, _, rfl, a, ws, rfl, s.seq hW, 1, _, rfl, wp, ?_, fun H3 r3 s3 h3 => ?_⟩
      · exact Nat.lt_of_lt_of_le b10 (Nat.pow_le_pow_right (by decide) (by decide))
      · rw [gcd_one _ wp] at h3
        have b1 : Bt 10 (1, ws.sum) := ⟨by show (1 : Int).natAbs < 2 ^ 10; decide, b10⟩
        refine ⟨v, r3, _, _, rfl, hv.keep (Same.keepT s3), h3, p1.1, wp, p2, b1.mono (by decide), fun H4 r4 s4 h4 => q _ _ ((s.trans s3).trans s4) ?_⟩
        unfold fMean
        rw [ew]
        exact h4
end
end Cb
namespace Cb
open PySem PySem.Spec PyProof.Rows L2
open C8 (Cal Mak pe_c pe_mk pe_gc)
section
variable {P : Program} {w : World} {K : PySem.W.Frag} {mg : Str → Option Value} {base : Heap}
/-- a term stands at v -/
def TmAt (K : PySem.W.Frag) (H : Hp) : Nat → V → Tm → Prop
  | 0, _, _ => False
  | _ + 1, v, .bid p => ∃ a, v = .ref a ∧ SqT K H a [.str "bid", .int (p : Nat)]
  | _ + 1, v, .fixed f => ∃ a u, v = .ref a ∧ SqT K H a [.str "fixed", u] ∧ FrAt K H u f
  | n + 1, v, .mean ps => ∃ a b us, v = .ref a ∧ SqT K H a [.str "mean", .ref b] ∧ SqT K H b us ∧ All2 (fun u (p : Int × Tm) => ∃ c x, u = .ref c ∧ SqT K H c [.int p.1, x] ∧ TmAt K H n x p.2) us ps
  | n + 1, v, .least ts => ∃ a b us, v = .ref a ∧ SqT K H a [.str "least", .ref b] ∧ SqT K H b us ∧ All2 (fun u t => TmAt K H n u t) us ts
  | n + 1, v, .greatest ts => ∃ a b us, v = .ref a ∧ SqT K H a [.str "greatest", .ref b] ∧ SqT K H b us ∧ All2 (fun u t => TmAt K H n u t) us ts
  | n + 1, v, .ranked k ts => ∃ a b us, v = .ref a ∧ SqT K H a [.str "ranked", .int (k : Nat), .ref b] ∧ SqT K H b us ∧ All2 (fun u t => TmAt K H n u t) us ts
  | n + 1, v, .between lo hi t => ∃ a x y z, v = .ref a ∧ SqT K H a [.str "between", x, y, z] ∧ FrAt K H x lo ∧ FrAt K H y hi ∧ TmAt K H n z t
theorem TmAt.keep {H H' : Hp} (k : KeepT K H H') : ∀ (n : Nat) {v : V} {t : Tm}, TmAt K H n v t → TmAt K H' n v t
  | 0, _, _, h => h.elim
  | n + 1, v, .bid p, h => let ⟨a, e, q⟩ := h; ⟨a, e, k _ _ q⟩
  | n + 1, v, .fixed f, h => let ⟨a, u, e, q, r⟩ := h; ⟨a, u, e, k _ _ q, r.keep k⟩
  | n + 1, v, .mean ps, h => let ⟨a, b, us, e, q, r, s⟩ := h; ⟨a, b, us, e, k _ _ q, k _ _ r, s.imp fun _ _ ⟨c, x, e, q, r⟩ => ⟨c, x, e, k _ _ q, TmAt.keep k n r⟩⟩
  | n + 1, v, .least ts, h => let ⟨a, b, us, e, q, r, s⟩ := h; ⟨a, b, us, e, k _ _ q, k _ _ r, s.imp fun _ _ r => TmAt.keep k n r⟩
  | n + 1, v, .greatest ts, h => let ⟨a, b, us, e, q, r, s⟩ := h; ⟨a, b, us, e, k _ _ q, k _ _ r, s.imp fun _ _ r => TmAt.keep k n r⟩
  | n + 1, v, .ranked _ ts, h => let ⟨a, b, us, e, q, r, s⟩ := h; ⟨a, b, us, e, k _ _ q, k _ _ r, s.imp fun _ _ r => TmAt.keep k n r⟩
  | n + 1, v, .between lo hi t, h => let ⟨a, x, y, z, e, q, r1, r2, r⟩ := h; ⟨a, x, y, z, e, k _ _ q, r1.keep k, r2.keep k, TmAt.keep k n r⟩
def spVal (K : PySem.W.Frag) (n : Nat) : Sp := fun vs H Q _ => ∃ (people : Nat) (v : V) (b : Addr) (us : List V) (t : Tm) (bids : List Fr), vs = [v, .ref b] ∧ TmAt K H n v t ∧ Wf people n t ∧ cnt n t ≤ 60 ∧ SqT K H b us ∧ Frs K H us bids ∧ BOk people bids ∧
  Ret H Q (fun H' r => FrAt K H' r (val bids n t))
theorem frs_of {H : Hp} {ys : List V} {ts : List Tm} {f : Tm → Fr} (e : ys.length = ts.length) (h : ∀ (i : Nat) (y : V), ys[i]? = some y → ∃ t, ts[i]? = some t ∧ FrAt K H y (f t)) : Frs K H ys (ts.map f) :=
  All2.of_get (by rw [List.length_map]; exact e) fun i y g hy hg => by
    obtain ⟨t, ht, r⟩ := h i y hy
    rw [List.getElem?_map, ht] at hg
    rw [← Option.some.inj hg]
    exact r
theorem len60 {m : Nat} (h : m ≤ 6) : m < sizeLine := small1000 (by omega)
theorem parts_ok {people n : Nat} {bids : List Fr} (hb : BOk people bids) {ts : List Tm} (hw : ∀ t ∈ ts, Wf people n t) (hc : (ts.map (cnt n)).sum ≤ 59) : Ok4 (ts.map (val bids n)) := fun f hf => by
  obtain ⟨t, ht, rfl⟩ := List.mem_map.mp hf
  obtain ⟨a, b⟩ := val_ok hb n t (hw t ht)
  have := cnt_part (n := n) ht
  exact ⟨a.1, b.mono (by omega)⟩
theorem no_m_b : ¬ (V.str "mean" = V.str "bid") := by decide +kernel
theorem no_m_f : ¬ (V.str "mean" = V.str "fixed") := by decide +kernel
theorem no_f_b : ¬ (V.str "fixed" = V.str "bid") := by decide +kernel
theorem no_w_b : ¬ (V.str "between" = V.str "bid") := by decide +kernel
theorem no_w_f : ¬ (V.str "between" = V.str "fixed") := by decide +kernel
theorem no_w_m : ¬ (V.str "between" = V.str "mean") := by decide +kernel
theorem no_l_b : ¬ (V.str "least" = V.str "bid") := by decide +kernel
theorem no_l_f : ¬ (V.str "least" = V.str "fixed") := by decide +kernel
theorem no_l_m : ¬ (V.str "least" = V.str "mean") := by decide +kernel
theorem no_l_w : ¬ (V.str "least" = V.str "between") := by decide +kernel
theorem no_l_r : ¬ (V.str "least" = V.str "ranked") := by decide +kernel
theorem no_g_b : ¬ (V.str "greatest" = V.str "bid") := by decide +kernel
theorem no_g_f : ¬ (V.str "greatest" = V.str "fixed") := by decide +kernel
theorem no_g_m : ¬ (V.str "greatest" = V.str "mean") := by decide +kernel
theorem no_g_w : ¬ (V.str "greatest" = V.str "between") := by decide +kernel
theorem no_g_r : ¬ (V.str "greatest" = V.str "ranked") := by decide +kernel
theorem no_g_l : ¬ (V.str "greatest" = V.str "least") := by decide +kernel
theorem no_r_b : ¬ (V.str "ranked" = V.str "bid") := by decide +kernel
theorem no_r_f : ¬ (V.str "ranked" = V.str "fixed") := by decide +kernel
theorem no_r_m : ¬ (V.str "ranked" = V.str "mean") := by decide +kernel
theorem no_r_w : ¬ (V.str "ranked" = V.str "between") := by decide +kernel
theorem no_r_l : ¬ (V.str "ranked" = V.str "least") := by decide +kernel
theorem no_r_g : ¬ (V.str "ranked" = V.str "greatest") := by decide +kernel
theorem sc_value_of : FnScope ["term", "bids", "word", "numbers", "weight", "part"] ["term", "bids"] (defScope zvalue_of) := ⟨rfl, rfl, rfl, by decide +kernel, rfl, by decide +kernel, by decide +kernel⟩
theorem ok_value_of {n : Nat} (T : Tx K mg) (c_value_of : Cal P w K mg base (4 + n) "value_of" (spVal K n) []) (c_mean_of : Cal P w K mg base 4 "mean_of" (spMean K) []) (c_middle : Cal P w K mg base 3 "middle" (spMid K) []) (c_ranked_of : Cal P w K mg base 3 "ranked_of" (spRanked K) []) (c_least_of : Cal P w K mg base 2 "least_of" (spLeast K) []) (c_greatest_of : Cal P w K mg base 2 "greatest_of" (spGreatest K) []) : Cal P w K mg base (4 + (n + 1)) "value_of" (spVal K (n + 1)) [] := by
  refine mk_cal (k := (4 + n)) T 17 rfl rfl sc_value_of (fun _ _ _ _ _ _ us hl => match us, hl with | [_, _], _ => rfl) (fun vs H Q E h => ?_) (fun f cdv A outer s H vs Q E hr h => ?_)
  · obtain ⟨people, v, b, us, t, bids, rfl, _⟩ := h
    rfl
  · obtain ⟨people, v, b, us, t, bids, rfl, hT, hW, hc, hS, hF, hB, q⟩ := h
    refine ⟨_, (pss_cons (ps_set (i := 2) sc_value_of.nd rfl (Or.inl rfl) (pe_ix (ixT K) (pv 0) pe_int (fun _ _ => rfl)))
      (pss_cons (ps_if (pt_cmpR op_eq (pv 2) pe_str (nomark _)) (pss_one (ps_ret (pe_ix (ixT K) (pv 1) (pe_ix (ixT K) (pv 0) pe_int (fun _ _ => rfl)) (fun _ _ => rfl)))) pss_nil)
      (pss_cons (ps_if (pt_cmpR op_eq (pv 2) pe_str (nomark _)) (pss_one (ps_ret (pe_ix (ixT K) (pv 0) pe_int (fun _ _ => rfl)))) pss_nil)
      (pss_cons (ps_if (pt_cmpR op_eq (pv 2) pe_str (nomark _)) (pss_one (ps_ret (pe_c c_mean_of hr (by first | decide | omega) rfl (pa_cons (pe_lc (own := [("weight", 4), ("part", 5)]) (g := (gTup K 2 (gCons (gName 4) (gCons (gName 5) gNil)))) rfl sc_value_of.nd (pi_tup (pe_ix (ixT K) (pv 0) pe_int (fun _ _ => rfl))) (blkOk_by (own := [("weight", 4), ("part", 5)]) (N := ["term", "bids", "word", "numbers", "weight", "part"]) (sc := defScope zvalue_of) (by decide +kernel)) (fun _ _ _ _ _ => (pg_tup rfl (pgs_cons (pg_name (i := 4) sc_value_of.nd rfl (Or.inl rfl)) (pgs_cons (pg_name (i := 5) sc_value_of.nd rfl (Or.inl rfl)) pgs_nil)))) (fun _ _ _ _ _ => pts_nil) (fun _ _ _ _ _ => (pv 4))) (pa_cons (pe_lc (own := [("weight", 4), ("part", 5)]) (g := (gTup K 2 (gCons (gName 4) (gCons (gName 5) gNil)))) rfl sc_value_of.nd (pi_tup (pe_ix (ixT K) (pv 0) pe_int (fun _ _ => rfl))) (blkOk_by (own := [("weight", 4), ("part", 5)]) (N := ["term", "bids", "word", "numbers", "weight", "part"]) (sc := defScope zvalue_of) (by decide +kernel)) (fun _ _ _ _ _ => (pg_tup rfl (pgs_cons (pg_name (i := 4) sc_value_of.nd rfl (Or.inl rfl)) (pgs_cons (pg_name (i := 5) sc_value_of.nd rfl (Or.inl rfl)) pgs_nil)))) (fun _ _ _ _ _ => pts_nil) (fun _ _ _ _ _ => (pe_c c_value_of hr (by first | decide | omega) rfl (pa_cons (pv 5) (pa_cons (pv 1) pa_nil))))) pa_nil))))) pss_nil)
      (pss_cons (ps_if (pt_cmpR op_eq (pv 2) pe_str (nomark _)) (pss_one (ps_ret (pe_c c_middle hr (by first | decide | omega) rfl (pa_cons (pe_ix (ixT K) (pv 0) pe_int (fun _ _ => rfl)) (pa_cons (pe_ix (ixT K) (pv 0) pe_int (fun _ _ => rfl)) (pa_cons (pe_c c_value_of hr (by first | decide | omega) rfl (pa_cons (pe_ix (ixT K) (pv 0) pe_int (fun _ _ => rfl)) (pa_cons (pv 1) pa_nil))) pa_nil)))))) pss_nil)
      (pss_cons (ps_setLc (i := 3) (own := [("part", 5)]) (g := (gName 5)) rfl sc_value_of.nd rfl rfl (sw_true rfl rfl rfl (by decide +kernel)) (pi_tup (pe_ix (ixT K) (pv 0) (pe_un un_neg pe_int) (fun _ _ => rfl))) (blkOk_by (own := [("part", 5)]) (N := ["term", "bids", "word", "numbers", "weight", "part"]) (sc := defScope zvalue_of) (by decide +kernel)) (fun _ _ _ _ _ => (pg_name (i := 5) sc_value_of.nd rfl (Or.inl rfl))) (fun _ _ _ _ _ => pts_nil) (fun _ _ _ _ _ => (pe_c c_value_of hr (by first | decide | omega) rfl (pa_cons (pv 5) (pa_cons (pv 1) pa_nil)))))
      (pss_cons (ps_if (pt_cmpR op_eq (pv 2) pe_str (nomark _)) (pss_one (ps_ret (pe_c c_ranked_of hr (by first | decide | omega) rfl (pa_cons (pe_ix (ixT K) (pv 0) pe_int (fun _ _ => rfl)) (pa_cons (pv 3) pa_nil))))) pss_nil)
      (pss_one (ps_ret (pe_ifExp (pt_cmpR op_eq (pv 2) pe_str (nomark _)) (pe_c c_least_of hr (by first | decide | omega) rfl (pa_cons (pv 3) pa_nil)) (pe_c c_greatest_of hr (by first | decide | omega) rfl (pa_cons (pv 3) pa_nil)))))))))))), ?_⟩
    -- the numbers of the parts
    have parts : ∀ (b' : Addr) (vs' : List V) (ts : List Tm), SqT K H b' vs' → All2 (fun u t => TmAt K H n u t) vs' ts → ts.length ≤ 6 → (∀ t ∈ ts, Wf people n t) → (ts.map (cnt n)).sum ≤ 59 → ∀ (i : Nat) (x : V) (H2 : Hp), vs'[i]? = some x → Same H H2 →
        ∃ t, ts[i]? = some t ∧ TmAt K H2 n x t ∧ Wf people n t ∧ cnt n t ≤ 60 := fun b' vs' ts h1 h2 h6 hw hs i x H2 hx s => by
      obtain ⟨t, ht, r⟩ := h2.get hx
      have hm := List.mem_of_getElem? ht
      have := cnt_part (n := n) hm
      exact ⟨t, ht, TmAt.keep (Same.keepT s) n r, hw t hm, by omega⟩
    cases t with
    | bid p =>
      obtain ⟨a, rfl, hA⟩ := hT
      have hp : p < bids.length := by rw [hB.1]; exact hW
      obtain ⟨f, ef, e, _⟩ := getD_of (d := ((0, 1) : Fr)) hp
      obtain ⟨u, hu, r⟩ := hF.get' ef
      refine ⟨_, rfl, a, _, 0, _, rfl, rfl, hA, rfl, ?_⟩
      refine ⟨_, rfl, rfl, _, rfl, ifT rfl ?_⟩
      refine ⟨_, rfl, _, rfl, a, _, 1, _, rfl, rfl, hA, rfl, b, us, _, u, rfl, rfl, hS, atI_nat hu, q _ _ (Same.refl _) ?_⟩
      show FrAt K H u (bids.getD p (0, 1))
      rw [e]
      exact r
    | fixed f =>
      obtain ⟨a, u, rfl, hA, hu⟩ := hT
      refine ⟨_, rfl, a, _, 0, _, rfl, rfl, hA, rfl, ?_⟩
      refine ⟨_, rfl, rfl, _, rfl, ifF no_f_b ?_⟩
      refine ⟨_, rfl, rfl, _, rfl, ifT rfl ?_⟩
      exact ⟨_, rfl, a, _, 1, _, rfl, rfl, hA, rfl, q _ _ (Same.refl _) hu⟩
    | mean ps =>
      obtain ⟨a, b', vs', rfl, hA, hP, hl⟩ := hT
      obtain ⟨w1, w2, w3⟩ := hW
      have hle := hl.len
      have hc' : (ps.map fun p => cnt n p.2).sum ≤ 59 := by
        have : 1 + (ps.map fun p => cnt n p.2).sum ≤ 60 := hc
        omega
      refine ⟨_, rfl, a, _, 0, _, rfl, rfl, hA, rfl, ?_⟩
      refine ⟨_, rfl, rfl, _, rfl, ifF no_m_b ?_⟩
      refine ⟨_, rfl, rfl, _, rfl, ifF no_m_f ?_⟩
      refine ⟨_, rfl, rfl, _, rfl, ifT rfl ?_⟩
      refine ⟨_, rfl, a, _, 1, _, rfl, rfl, hA, rfl, b', rfl, ⟨_, hP⟩, fun D hD => ?_⟩
      refine lc_map (K := K) (walk_tup (K := K) (a := b') (xs := vs')) (fun i _ y => ∃ p, ps[i]? = some p ∧ y = .int p.1) hD (len60 (by omega)) (fun H1 s => Same.keepT s b' _ hP) (fun _ _ _ _ _ r => r) ?_ ?_
      · rintro i x H1 H2 hi s ⟨rfl, hx⟩ Q' N qq
        obtain ⟨p, hp, c, y, rfl, h1, h2⟩ := hl.get hx
        exact ⟨c, [.int p.1, y], rfl, Same.keepT s c _ h1, rfl, _, _, rfl, _, _, rfl, rfl, rfl, _, rfl, qq _ _ (Same.refl _) ⟨p, hp, rfl⟩⟩
      · intro H1 ws s1 hws lws fws
        have ew : ws = (ps.map (·.1)).map V.int := by
          refine List.ext_getElem? fun i => ?_
          by_cases hi : i < ws.length
          · obtain ⟨p, hp, e⟩ := fws i _ (List.getElem?_eq_getElem hi)
            rw [List.getElem?_eq_getElem hi, e, List.getElem?_map, List.getElem?_map, hp]
            rfl
          · rw [List.getElem?_eq_none (by omega), List.getElem?_eq_none (by rw [List.length_map, List.length_map]; omega)]
        have k1 : KeepT K H H1 := Same.keepT s1
        refine ⟨_, rfl, a, _, 1, _, rfl, rfl, k1 _ _ hA, rfl, b', rfl, ⟨_, k1 _ _ hP⟩, fun D2 hD2 => ?_⟩
        refine lc_map (K := K) (walk_tup (K := K) (a := b') (xs := vs')) (fun i H y => ∃ p, ps[i]? = some p ∧ FrAt K H y (val bids n p.2)) hD2 (len60 (by omega)) (fun H2 s => Same.keepT s b' _ (k1 _ _ hP)) (fun _ _ _ _ k ⟨p, hp, r⟩ => ⟨p, hp, r.keep k⟩) ?_ ?_
        · rintro i x H2 H3 hi s ⟨rfl, hx⟩ Q' N qq
          obtain ⟨p, hp, c, y, rfl, h1, h2⟩ := hl.get hx
          have k2 : KeepT K H _ := Same.keepT (s1.trans s)
          have hm := List.mem_of_getElem? hp
          have hcp := cnt_partM (n := n) hm
          refine ⟨c, [.int p.1, y], rfl, k2 c _ h1, rfl, _, _, rfl, _, _, rfl, rfl, rfl, ?_⟩
          exact ⟨_, rfl, _, rfl, people, y, b, us, p.2, bids, rfl, TmAt.keep k2 n h2, (w3 p hm).2.2, by omega, k2 _ _ hS, hF.keep k2, hB, fun H4 r s4 h4 => qq _ _ s4 ⟨p, hp, h4⟩⟩
        · intro H2 ns s2 hns lns fns
          have hf2 : Frs K H2 ns (ps.map fun p => val bids n p.2) := All2.of_get (by rw [List.length_map]; omega) fun i y g hy hg => by
            obtain ⟨p, hp, r⟩ := fns i y hy
            rw [List.getElem?_map, hp] at hg
            rw [← Option.some.inj hg]
            exact r
          have ez : (ps.map (·.1)).zip (ps.map fun p => val bids n p.2) = ps.map fun p => (p.1, val bids n p.2) := by
            rw [List.zip_map']
          refine ⟨D, .ref D2, ps.map (·.1), ps.map fun p => val bids n p.2, ps.map fun p => cnt n p.2, rfl, s2.seq (SqL.of (ew ▸ hws)), ⟨D2, ns, rfl, SqL.of hns, hf2⟩, by simpa using w1, by simp, by simpa using w2, hc', ?_, fun H3 r s3 h3 => q _ _ ((s1.trans s2).trans s3) ?_⟩
          · rw [ez]
            refine All2.map (R := fun (p : Int × Fr) c => 1 ≤ p.1 ∧ p.1 ≤ 99 ∧ Lo p.2 ∧ Bt (64 * c) p.2) (f := fun p : Int × Tm => (p.1, val bids n p.2)) (g := fun p : Int × Tm => cnt n p.2) (All2.same fun p hp => ?_)
            obtain ⟨x1, x2, wf⟩ := w3 p hp
            obtain ⟨v1, v2⟩ := val_ok hB n p.2 wf
            exact ⟨x1, x2, v1, v2⟩
          · rw [ez] at h3
            exact h3
    | between lo hi t =>
      obtain ⟨a, x, y, z, rfl, hA, hx, hy, hz⟩ := hT
      obtain ⟨w1, w2, w3, w4, w5, w6⟩ := hW
      have hc' : cnt n t ≤ 59 := by
        have : 1 + cnt n t ≤ 60 := hc
        omega
      refine ⟨_, rfl, a, _, 0, _, rfl, rfl, hA, rfl, ?_⟩
      refine ⟨_, rfl, rfl, _, rfl, ifF no_w_b ?_⟩
      refine ⟨_, rfl, rfl, _, rfl, ifF no_w_f ?_⟩
      refine ⟨_, rfl, rfl, _, rfl, ifF no_w_m ?_⟩
      refine ⟨_, rfl, rfl, _, rfl, ifT rfl ?_⟩
      refine ⟨_, rfl, a, _, 1, _, rfl, rfl, hA, rfl, _, rfl, a, _, 2, _, rfl, rfl, hA, rfl, _, rfl, a, _, 3, _, rfl, rfl, hA, rfl, _, rfl, ?_⟩
      refine ⟨people, z, b, us, t, bids, rfl, hz, w6, by omega, hS, hF, hB, fun H1 r s h1 => ?_⟩
      have k : KeepT K H H1 := Same.keepT s
      obtain ⟨o1, o2⟩ := val_ok hB n t w6
      refine ⟨x, y, r, lo, hi, _, rfl, hx.keep k, hy.keep k, h1, fun f hf => ?_, fun H2 r2 s2 h2 => q _ _ (s.trans s2) h2⟩
      simp only [List.mem_cons, List.mem_nil_iff, or_false] at hf
      rcases hf with rfl | rfl | rfl
      · exact ⟨w1.1.1, w2.mono (by decide)⟩
      · exact ⟨w3.1.1, w4.mono (by decide)⟩
      · exact ⟨o1.1, o2.mono (by omega)⟩
    | ranked k ts =>
      obtain ⟨a, b', vs', rfl, hA, hP, hl⟩ := hT
      obtain ⟨w0, w1, w2, w3⟩ := hW
      have hle := hl.len
      have hc' : (ts.map (cnt n)).sum ≤ 59 := by
        have : 1 + (ts.map (cnt n)).sum ≤ 60 := hc
        omega
      refine ⟨_, rfl, a, _, 0, _, rfl, rfl, hA, rfl, ?_⟩
      refine ⟨_, rfl, rfl, _, rfl, ifF no_r_b ?_⟩
      refine ⟨_, rfl, rfl, _, rfl, ifF no_r_f ?_⟩
      refine ⟨_, rfl, rfl, _, rfl, ifF no_r_m ?_⟩
      refine ⟨_, rfl, rfl, _, rfl, ifF no_r_w ?_⟩
      refine ⟨_, rfl, 1, rfl, a, _, -1, _, rfl, rfl, hA, rfl, b', rfl, ⟨_, hP⟩, fun D hD => ?_⟩
      refine lc_map (K := K) (walk_tup (K := K) (a := b') (xs := vs')) (fun i H y => ∃ t, ts[i]? = some t ∧ FrAt K H y (val bids n t)) hD (len60 (by omega)) (fun H1 s => Same.keepT s b' _ hP) (fun _ _ _ _ k ⟨p, hp, r⟩ => ⟨p, hp, r.keep k⟩) ?_ ?_
      · rintro i x H2 H3 hi s ⟨rfl, hx⟩ Q' N qq
        obtain ⟨t, ht, r1, r2, r3⟩ := parts b' vs' ts hP hl w2 w3 hc' i x _ hx s
        have k2 : KeepT K H _ := Same.keepT s
        exact ⟨rfl, _, rfl, _, rfl, people, x, b, us, t, bids, rfl, r1, r2, r3, k2 _ _ hS, hF.keep k2, hB, fun H4 r s4 h4 => qq _ _ s4 ⟨t, ht, h4⟩⟩
      · intro H2 ns s2 hns lns fns
        have hf2 := frs_of (ts := ts) (f := val bids n) (by omega) fns
        refine ⟨_, rfl, rfl, _, rfl, ifT rfl ?_⟩
        refine ⟨_, rfl, a, _, 1, _, rfl, rfl, Same.keepT s2 a _ hA, rfl, _, rfl, k, .ref D, ts.map (val bids n), rfl, ⟨D, ns, rfl, SqL.of hns, hf2⟩, by rw [List.length_map]; omega, parts_ok hB w3 hc', w0, by rw [List.length_map]; exact w1, fun H3 r s3 h3 => q _ _ (s2.trans s3) ?_⟩
        rw [List.length_map] at h3
        exact h3
    | least ts =>
      obtain ⟨a, b', vs', rfl, hA, hP, hl⟩ := hT
      obtain ⟨w1, w2, w3⟩ := hW
      have hle := hl.len
      have hc' : (ts.map (cnt n)).sum ≤ 59 := by
        have : 1 + (ts.map (cnt n)).sum ≤ 60 := hc
        omega
      refine ⟨_, rfl, a, _, 0, _, rfl, rfl, hA, rfl, ?_⟩
      refine ⟨_, rfl, rfl, _, rfl, ifF no_l_b ?_⟩
      refine ⟨_, rfl, rfl, _, rfl, ifF no_l_f ?_⟩
      refine ⟨_, rfl, rfl, _, rfl, ifF no_l_m ?_⟩
      refine ⟨_, rfl, rfl, _, rfl, ifF no_l_w ?_⟩
      refine ⟨_, rfl, 1, rfl, a, _, -1, _, rfl, rfl, hA, rfl, b', rfl, ⟨_, hP⟩, fun D hD => ?_⟩
      refine lc_map (K := K) (walk_tup (K := K) (a := b') (xs := vs')) (fun i H y => ∃ t, ts[i]? = some t ∧ FrAt K H y (val bids n t)) hD (len60 (by omega)) (fun H1 s => Same.keepT s b' _ hP) (fun _ _ _ _ k ⟨p, hp, r⟩ => ⟨p, hp, r.keep k⟩) ?_ ?_
      · rintro i x H2 H3 hi s ⟨rfl, hx⟩ Q' N qq
        obtain ⟨t, ht, r1, r2, r3⟩ := parts b' vs' ts hP hl w2 w3 hc' i x _ hx s
        have k2 : KeepT K H _ := Same.keepT s
        exact ⟨rfl, _, rfl, _, rfl, people, x, b, us, t, bids, rfl, r1, r2, r3, k2 _ _ hS, hF.keep k2, hB, fun H4 r s4 h4 => qq _ _ s4 ⟨t, ht, h4⟩⟩
      · intro H2 ns s2 hns lns fns
        have hf2 := frs_of (ts := ts) (f := val bids n) (by omega) fns
        refine ⟨_, rfl, rfl, _, rfl, ifF no_l_r ?_⟩
        refine ⟨_, rfl, rfl, _, rfl, ifT rfl ?_⟩
        exact ⟨_, rfl, .ref D, ts.map (val bids n), rfl, ⟨D, ns, rfl, SqL.of hns, hf2⟩, by simpa using w1, fun f hf => (parts_ok hB w3 hc' f hf).2, fun H3 r s3 h3 => q _ _ (s2.trans s3) h3⟩
    | greatest ts =>
      obtain ⟨a, b', vs', rfl, hA, hP, hl⟩ := hT
      obtain ⟨w1, w2, w3⟩ := hW
      have hle := hl.len
      have hc' : (ts.map (cnt n)).sum ≤ 59 := by
        have : 1 + (ts.map (cnt n)).sum ≤ 60 := hc
        omega
      refine ⟨_, rfl, a, _, 0, _, rfl, rfl, hA, rfl, ?_⟩
      refine ⟨_, rfl, rfl, _, rfl, ifF no_g_b ?_⟩
      refine ⟨_, rfl, rfl, _, rfl, ifF no_g_f ?_⟩
      refine ⟨_, rfl, rfl, _, rfl, ifF no_g_m ?_⟩
      refine ⟨_, rfl, rfl, _, rfl, ifF no_g_w ?_⟩
      refine ⟨_, rfl, 1, rfl, a, _, -1, _, rfl, rfl, hA, rfl, b', rfl, ⟨_, hP⟩, fun D hD => ?_⟩
      refine lc_map (K := K) (walk_tup (K := K) (a := b') (xs := vs')) (fun i H y => ∃ t, ts[i]? = some t ∧ FrAt K H y (val bids n t)) hD (len60 (by omega)) (fun H1 s => Same.keepT s b' _ hP) (fun _ _ _ _ k ⟨p, hp, r⟩ => ⟨p, hp, r.keep k⟩) ?_ ?_
      · rintro i x H2 H3 hi s ⟨rfl, hx⟩ Q' N qq
        obtain ⟨t, ht, r1, r2, r3⟩ := parts b' vs' ts hP hl w2 w3 hc' i x _ hx s
        have k2 : KeepT K H _ := Same.keepT s
        exact ⟨rfl, _, rfl, _, rfl, people, x, b, us, t, bids, rfl, r1, r2, r3, k2 _ _ hS, hF.keep k2, hB, fun H4 r s4 h4 => qq _ _ s4 ⟨t, ht, h4⟩⟩
      · intro H2 ns s2 hns lns fns
        have hf2 := frs_of (ts := ts) (f := val bids n) (by omega) fns
        refine ⟨_, rfl, rfl, _, rfl, ifF no_g_r ?_⟩
        refine ⟨_, rfl, rfl, _, rfl, ifF no_g_l ?_⟩
        exact ⟨_, rfl, .ref D, ts.map (val bids n), rfl, ⟨D, ns, rfl, SqL.of hns, hf2⟩, by simpa using w1, fun f hf => (parts_ok hB w3 hc' f hf).2, fun H3 r s3 h3 => q _ _ (s2.trans s3) h3⟩
end
end Cb
namespace Cb
open PySem PySem.Spec PyProof.Rows L2
open C8 (Cal Mak pe_c pe_mk pe_gc)
section
variable {P : Program} {w : World} {K : PySem.W.Frag} {mg : Str → Option Value} {base : Heap}
/-! ### lots -/
def lotV (l : Lot) : List V := (iLot l).map V.int
def LtAt (K : PySem.W.Frag) (H : Hp) (v : V) (l : Lot) : Prop := ∃ a, v = .ref a ∧ SqT K H a (lotV l)
theorem LtAt.keep {H H' : Hp} {v : V} {l : Lot} (h : LtAt K H v l) (k : KeepT K H H') : LtAt K H' v l := let ⟨a, e, q⟩ := h; ⟨a, e, k _ _ q⟩
abbrev Lts (K : PySem.W.Frag) (H : Hp) (us : List V) (L : List Lot) : Prop := All2 (LtAt K H) us L
theorem Lts.keep {H H' : Hp} {us : List V} {L : List Lot} (h : Lts K H us L) (k : KeepT K H H') : Lts K H' us L := h.imp fun _ _ r => r.keep k
def LLsAt (K : PySem.W.Frag) (H : Hp) (v : V) (L : List Lot) : Prop := ∃ a us, v = .ref a ∧ SqL K H a us ∧ Lts K H us L
theorem lotV_len (l : Lot) : (lotV l).length = l.length := by simp [lotV, iLot]
theorem lotV_get {l : Lot} {i : Nat} {p : Nat} (h : l[i]? = some p) : (lotV l)[i]? = some (V.int (p : Nat)) := by
  unfold lotV iLot
  rw [List.getElem?_map, List.getElem?_map, h]
  rfl
theorem lotV_of {l : Lot} {i : Nat} {x : V} (h : (lotV l)[i]? = some x) : ∃ p, l[i]? = some p ∧ x = V.int (p : Nat) := by
  unfold lotV iLot at h
  rw [List.getElem?_map, List.getElem?_map] at h
  cases e : l[i]? with
  | none => rw [e] at h; cases h
  | some p =>
    rw [e] at h
    exact ⟨p, rfl, (Option.some.inj h).symm⟩
theorem lotV_snoc (l : Lot) (p : Nat) : lotV (l ++ [p]) = lotV l ++ [V.int (p : Nat)] := by
  unfold lotV iLot
  rw [List.map_append, List.map_append]
  rfl
theorem lotV_last {l : Lot} (h : l ≠ []) : atI (lotV l) (-1) = some (V.int (l.getLastD 0 : Nat)) := by
  obtain ⟨m, p, rfl⟩ : ∃ m p, l = m ++ [p] := ⟨l.dropLast, l.getLast h, (List.dropLast_concat_getLast h).symm⟩
  rw [lotV_snoc, atI_last]
  simp
theorem lotV_flat (l : Lot) : (lotV l).all flatV = true := by
  rw [List.all_eq_true]
  intro x hx
  obtain ⟨i, _, rfl⟩ := List.mem_map.mp hx
  rfl
theorem lotV_in (l : Lot) (p : Nat) : inV (V.int (p : Nat)) (lotV l) = l.contains p := by
  induction l with
  | nil => rfl
  | cons q l ih =>
    have e1 : inV (V.int (p : Nat)) (lotV (q :: l)) = (eqV (V.int (q : Nat)) (V.int (p : Nat)) || inV (V.int (p : Nat)) (lotV l)) := rfl
    rw [e1, ih, List.contains_cons]
    congr 1
    show ((q : Int) == (p : Int)) = (p == q)
    cases c : (p == q) with
    | true =>
      have : p = q := by simpa using c
      subst this
      exact beq_self_eq_true _
    | false =>
      refine beq_eq_false_iff_ne.mpr fun z => ?_
      have : ¬ p = q := by simpa using c
      omega
theorem lotV_filter {n : Nat} {p : Nat → Bool} {us : List V} (h : All2 (fun i y => y = V.int (i : Nat)) ((List.range n).filter p) us) : us = lotV ((List.range n).filter p) := by
  generalize (List.range n).filter p = l at h ⊢
  induction h with
  | nil => rfl
  | cons r _ ih => rw [r, ih] <;> rfl
theorem lots_small : ∀ n, 1 ≤ n → n ≤ 6 → ∀ i, i ≤ n → (found n i).length ≤ 64 ∧ (lev n i).length ≤ 64 := by
  intro n h1 h6 i hi
  match n, h1, h6, i, hi with
  | 1, _, _, i, hi => have : i = 0 ∨ i = 1 := by omega
                      rcases this with rfl | rfl <;> decide +kernel
  | 2, _, _, i, hi => have : i = 0 ∨ i = 1 ∨ i = 2 := by omega
                      rcases this with rfl | rfl | rfl <;> decide +kernel
  | 3, _, _, i, hi => have : i = 0 ∨ i = 1 ∨ i = 2 ∨ i = 3 := by omega
                      rcases this with rfl | rfl | rfl | rfl <;> decide +kernel
  | 4, _, _, i, hi => have : i = 0 ∨ i = 1 ∨ i = 2 ∨ i = 3 ∨ i = 4 := by omega
                      rcases this with rfl | rfl | rfl | rfl | rfl <;> decide +kernel
  | 5, _, _, i, hi => have : i = 0 ∨ i = 1 ∨ i = 2 ∨ i = 3 ∨ i = 4 ∨ i = 5 := by omega
                      rcases this with rfl | rfl | rfl | rfl | rfl | rfl <;> decide +kernel
  | 6, _, _, i, hi => have : i = 0 ∨ i = 1 ∨ i = 2 ∨ i = 3 ∨ i = 4 ∨ i = 5 ∨ i = 6 := by omega
                      rcases this with rfl | rfl | rfl | rfl | rfl | rfl | rfl <;> decide +kernel
theorem lev_len : ∀ n, 1 ≤ n → n ≤ 6 → ∀ i, i ≤ n → ∀ l ∈ lev n i, l.length ≤ 64 := by
  intro n h1 h6 i hi l hl
  have key : ((lev n i).all fun l => decide (l.length ≤ 64)) = true := by
    match n, h1, h6, i, hi with
    | 1, _, _, i, hi => have : i = 0 ∨ i = 1 := by omega
                        rcases this with rfl | rfl <;> decide +kernel
    | 2, _, _, i, hi => have : i = 0 ∨ i = 1 ∨ i = 2 := by omega
                        rcases this with rfl | rfl | rfl <;> decide +kernel
    | 3, _, _, i, hi => have : i = 0 ∨ i = 1 ∨ i = 2 ∨ i = 3 := by omega
                        rcases this with rfl | rfl | rfl | rfl <;> decide +kernel
    | 4, _, _, i, hi => have : i = 0 ∨ i = 1 ∨ i = 2 ∨ i = 3 ∨ i = 4 := by omega
                        rcases this with rfl | rfl | rfl | rfl | rfl <;> decide +kernel
    | 5, _, _, i, hi => have : i = 0 ∨ i = 1 ∨ i = 2 ∨ i = 3 ∨ i = 4 ∨ i = 5 := by omega
                        rcases this with rfl | rfl | rfl | rfl | rfl | rfl <;> decide +kernel
    | 6, _, _, i, hi => have : i = 0 ∨ i = 1 ∨ i = 2 ∨ i = 3 ∨ i = 4 ∨ i = 5 ∨ i = 6 := by omega
                        rcases this with rfl | rfl | rfl | rfl | rfl | rfl | rfl <;> decide +kernel
  exact of_decide_eq_true (List.all_eq_true.mp key l hl)
theorem longer_len (n : Nat) (l : Lot) : (longer n l).length ≤ n := by
  unfold longer
  rw [List.length_map]
  have := List.length_filter_le (fun p => l.isEmpty || decide (l.getLastD 0 < p)) (List.range n)
  rw [List.length_range] at this
  exact this
theorem longers_len (n : Nat) : ∀ L : List Lot, (L.flatMap (longer n)).length ≤ n * L.length
  | [] => by simp
  | l :: L => by
    have h1 := longer_len n l
    have h2 := longers_len n L
    rw [List.flatMap_cons, List.length_append, List.length_cons, Nat.mul_add]
    omega
/-- a sorted list of lots -/
theorem lots_back {H : Hp} {ys : List V} {L' : List (List Int)} {L : List Lot} (h : All2 (fun x (l : List Int) => ∃ t, x = V.ref t ∧ SqT K H t (l.map V.int)) ys L') (p : L'.Perm (L.map iLot)) (s : L'.Pairwise (fun a b => HT.lexLt b a = false)) : Lts K H ys (sortL L) := by
  obtain ⟨M, pm, em⟩ : ∃ M : List Lot, M.Perm L ∧ M.map iLot = L' := perm_lift iLot p L rfl
  have sM : LSrt M := by
    rw [← em] at s
    exact List.pairwise_map.mp s
  rw [← sortL_uniq pm sM]
  rw [← em] at h
  clear p s em pm sM
  generalize e : M.map iLot = L' at h
  induction h generalizing M with
  | nil =>
    cases M with
    | nil => exact .nil
    | cons _ _ => cases e
  | cons r _ ih =>
    cases M with
    | nil => cases e
    | cons m M =>
      injection e with e1 e2
      subst e1
      exact .cons r (ih M e2)
theorem lots_fwd {H : Hp} {us : List V} {L : List Lot} (h : Lts K H us L) : All2 (fun x (l : List Int) => ∃ t, x = V.ref t ∧ SqT K H t (l.map V.int)) us (L.map iLot) := by
  induction h with
  | nil => exact .nil
  | cons r _ ih => exact .cons r ih
def spLots (K : PySem.W.Frag) : Sp := fun vs H Q _ => ∃ n : Nat, vs = [.int n] ∧ 1 ≤ n ∧ n ≤ 6 ∧ Ret H Q (fun H' r => LLsAt K H' r (AL n))
theorem kq_lst {H H' : Hp} {G : Addr} {M : Addr → Prop} (k : Kq M H H') (h : ∀ b, M b → ∃ zs, H b = some (.lst zs)) : KeepT K H H' := k.keepT h
theorem sc_all_lots : FnScope ["many", "found", "level", "size", "longer", "lot", "person"] ["many"] (defScope zall_lots) := ⟨rfl, rfl, rfl, by decide +kernel, rfl, by decide +kernel, by decide +kernel⟩
theorem ok_all_lots (T : Tx K mg)  : Cal P w K mg base 1 "all_lots" (spLots K) [] := by
  refine mk_cal (k := 0) T 18 rfl rfl sc_all_lots (fun _ _ _ _ _ _ us hl => match us, hl with | [_], _ => rfl) (fun vs H Q E h => ?_) (fun f cdv A outer s H vs Q E hr h => ?_)
  · obtain ⟨n, rfl, _⟩ := h
    rfl
  · obtain ⟨n, rfl, h1, h6, q⟩ := h
    refine ⟨_, (pss_cons (ps_set (i := 1) sc_all_lots.nd rfl (Or.inl rfl) (pe_lst (pa_cons (pe_tup pa_nil) pa_nil)))
      (pss_cons (ps_set (i := 2) sc_all_lots.nd rfl (Or.inl rfl) (pe_lst (pa_cons (pe_tup pa_nil) pa_nil)))
      (pss_cons (ps_for PassesOwn.never rfl (pi_range1 rfl T.b_range (pa_cons (pv 0) pa_nil)) (pg_name (i := 3) sc_all_lots.nd rfl (Or.inl rfl)) (pss_cons (ps_set (i := 4) sc_all_lots.nd rfl (Or.inl rfl) (pe_lst pa_nil))
      (pss_cons (ps_for PassesOwn.never rfl (pi_list (pv 2)) (pg_name (i := 5) sc_all_lots.nd rfl (Or.inr rfl)) (pss_one (ps_expr (pe_bm PySem.F.plainAttrs_list PySem.F.slot_list_extend PySem.F.type_list_extend mt_extend (pv 4) (pa_cons (pe_lc (own := [("person", 6)]) (g := (gName 6)) rfl sc_all_lots.nd (pi_range1 rfl T.b_range (pa_cons (pv 0) pa_nil)) (blkOk_by (own := [("person", 6)]) (N := ["many", "found", "level", "size", "longer", "lot", "person"]) (sc := defScope zall_lots) (by decide +kernel)) (fun _ _ _ _ _ => (pg_name (i := 6) sc_all_lots.nd rfl (Or.inl rfl))) (fun _ _ _ _ _ => (pts_one (PW.pt (pw_or (pt_cmpR op_eq (pe_callB (lenS K) rfl T.b_len (by decide +kernel) (pa_cons (pv 5) pa_nil)) pe_int (nomark _)) (pw_or1 (pt_cmpR op_gt (pv 6) (pe_ix (ixT K) (pv 5) (pe_un un_neg pe_int) (fun _ _ => rfl)) (nomark _))))))) (fun _ _ _ _ _ => (pe_op (catA K) (pv 5) (pe_tup (pa_cons (pv 6) pa_nil))))) pa_nil)))))
      (pss_cons (ps_set (i := 2) sc_all_lots.nd rfl (Or.inl rfl) (pe_callB (srtL K) rfl T.b_sorted (by decide +kernel) (pa_cons (pv 4) pa_nil)))
      (pss_one (ps_expr (pe_bm PySem.F.plainAttrs_list PySem.F.slot_list_extend PySem.F.type_list_extend mt_extend (pv 1) (pa_cons (pv 2) pa_nil))))))))
      (pss_one (ps_ret (pv 1)))))), ?_⟩
    refine ⟨(by show 0 ≤ sizeLine; decide), fun t0 ht0 => ⟨(by show 1 ≤ sizeLine; decide), fun F hF => ?_⟩⟩
    have s0 := (same_new ht0 (.tup [])).trans (same_new hF (.lst [.ref t0]))
    refine ⟨(by show 0 ≤ sizeLine; decide), fun t1 ht1 => ⟨(by show 1 ≤ sizeLine; decide), fun L0 hL0 => ?_⟩⟩
    have s1 := (same_new ht1 (.tup [])).trans (same_new hL0 (.lst [.ref t1]))
    have e0 : upd (upd H t0 (.tup [])) F (.lst [.ref t0]) t0 = some (.tup []) := by
      rw [upd_ne (ne_of_none upd_same hF)]
      exact upd_same
    have e1 := s1 _ _ e0
    have eF := s1 F _ upd_same
    have e2 : upd (upd (upd (upd H t0 (.tup [])) F (.lst [.ref t0])) t1 (.tup [])) L0 (.lst [.ref t1]) t1 = some (.tup []) := by
      rw [upd_ne (ne_of_none upd_same hL0)]
      exact upd_same
    have neF : F ≠ L0 := fun z => by
      rw [z] at eF
      rw [upd_same] at eF
      have : ([.ref t1] : List V) = [.ref t0] := by injection eF with eF; injection eF
      injection this with this
      injection this with this
      subst this
      rw [e0] at ht1
      cases ht1
    have hn62 : (n : Int) < 2 ^ 62 := by
      have : (6 : Int) < 2 ^ 62 := by decide
      omega
    have hn62' : -(2 ^ 62) ≤ (n : Int) := by
      have : -(2 ^ 62) ≤ (0 : Int) := by decide
      omega
    refine ⟨_, rfl, n, rfl, hn62', hn62, for_range (lo := 0) (n := n) (fun i σ H' => ∃ x y z Lv fs ls, σ = [some (.int n), some (.ref F), some (.ref Lv), x, y, z, none] ∧ Same H H' ∧ F ≠ Lv ∧ H' F = some (.lst fs) ∧ H' Lv = some (.lst ls) ∧ Lts K H' fs (found n i) ∧ Lts K H' ls (lev n i))
      ⟨none, none, none, L0, [.ref t0], [.ref t1], rfl, s0.trans s1, neF, eF, upd_same, .cons ⟨t0, rfl, SqT.of e1⟩ .nil, .cons ⟨t1, rfl, SqT.of e2⟩ .nil⟩ ?_ ?_⟩
    · rintro i σ H2 hi ⟨x, y, z, Lv, fs, ls, rfl, s, hne, hFs, hLs, rF, rL⟩
      have small := lots_small n h1 h6 i (by omega)
      have small2 := lots_small n h1 h6 (i + 1) (by omega)
      have lF := rF.len
      have lL := rL.len
      refine ⟨(by show 0 ≤ sizeLine; decide), fun G hG => ?_⟩
      have sG := same_new hG (.lst [])
      have nG1 : F ≠ G := ne_of_none hFs hG
      have nG2 : Lv ≠ G := ne_of_none hLs hG
      refine ⟨_, rfl, Lv, rfl, ⟨_, SqL.of (sG _ _ hLs)⟩, for_list (K := K) (a := Lv) (xs := ls) (fun j σ H3 => ∃ z gs, σ = [some (.int n), some (.ref F), some (.ref Lv), some (.int (0 + (i : Nat))), some (.ref G), z, none] ∧ Same H2 H3 ∧ H3 G = some (.lst gs) ∧ Lts K H3 gs (((lev n i).take j).flatMap (longer n)))
        ⟨z, [], rfl, sG, upd_same, by rw [List.take_zero]; exact .nil⟩ (fun j σ H3 _ ⟨_, _, _, s3, _⟩ => SqL.of (s3 _ _ hLs)) ?_ ?_⟩
      · rintro j x σ H3 hx ⟨z, gs, rfl, s3, hgs, rG⟩
        obtain ⟨lot, hlot, c, rfl, hc⟩ := rL.get hx
        have hc3 : SqT K H3 c (lotV lot) := Same.keepT s3 c _ hc
        have hll := lev_len n h1 h6 i (by omega) lot (List.mem_of_getElem? hlot)
        refine ⟨_, rfl, .inl ⟨rfl, _, SqL.of hgs⟩, _, rfl, n, rfl, hn62', hn62, fun D hD => ?_⟩
        refine lc_gen (K := K) (walk_range (lo := 0) (n := n)) (fun _ => False) (fun _ => True) (fun p => lot.isEmpty || decide (lot.getLastD 0 < p)) (fun p H y => LtAt K H y (lot ++ [p])) hD (fun z => z) (len60 (by omega)) (fun _ _ _ z => z.elim) (fun _ _ => trivial) trivial (fun _ _ _ => trivial) (fun _ _ _ _ k r => r.keep k) ?_ ?_
        · rintro p x H0 H4 hp k4 _ ⟨rfl, rfl⟩ Q' N qq nn
          have hc4 : SqT K H4 c (lotV lot) := Same.keepT k4.same c _ hc3
          refine ⟨rfl, _, rfl, c, _, rfl, .inr hc4, rfl, _, rfl, ?_⟩
          -- the element
          have elt : ∀ (P : V → Hp → Prop), (∀ y H5, Same H4 H5 → LtAt K H5 y (lot ++ [p]) → P y H5) → ∀ t2, H4 t2 = none → rCatA K (.ref c) (.ref t2) (upd H4 t2 (.tup [.int (0 + (p : Nat))])) P := fun P hP t2 ht2 => by
            have st := same_new ht2 (.tup [.int (0 + (p : Nat))])
            have ep : V.int (0 + (p : Int)) = V.int (p : Nat) := by rw [Int.zero_add]
            refine ⟨c, t2, lotV lot, [.int (0 + (p : Nat))], rfl, rfl, Same.keepT st c _ hc4, SqT.of upd_same, ?_, fun e => ?_, fun _ e => ?_, fun _ _ t3 ht3 => ?_⟩
            · rw [lotV_len]
              exact Nat.le_of_lt (small1000 (by
                have := hll
                show lot.length + 1 ≤ 1000
                omega))
            · refine hP _ _ st ⟨t2, rfl, ?_⟩
              rw [lotV_snoc, e, ← ep]
              exact SqT.of upd_same
            · cases e
            · refine hP _ _ (st.trans (same_new ht3 _)) ⟨t3, rfl, ?_⟩
              rw [lotV_snoc, ← ep]
              exact SqT.of upd_same
          by_cases hl : lot = []
          · have e : V.int ((lotV lot).length : Nat) = V.int 0 := by rw [hl] <;> rfl
            have pp : (lot.isEmpty || decide (lot.getLastD 0 < p)) = true := by rw [hl] <;> rfl
            refine ifT e (iteT ⟨_, rfl, _, rfl, (by show 1 ≤ sizeLine; decide), fun t2 ht2 => elt Q' (fun y H5 s5 r => qq y H5 pp (Same.kq s5) trivial r) t2 ht2⟩)
          · have e : ¬ V.int ((lotV lot).length : Nat) = V.int 0 := fun z => by
              injection z with z
              rw [lotV_len] at z
              exact hl (List.eq_nil_of_length_eq_zero (by omega))
            have ee : lot.isEmpty = false := by
              cases lot with
              | nil => exact absurd rfl hl
              | cons _ _ => rfl
            refine ifF e ⟨_, rfl, _, rfl, 1, rfl, c, _, -1, _, rfl, rfl, hc4, lotV_last hl, _, _, rfl, rfl, _, rfl, ite2 (fun cc => ?_) (fun cc => ?_)⟩
            · have lt : lot.getLastD 0 < p := by
                have := of_decide_eq_true cc
                omega
              have pp : (lot.isEmpty || decide (lot.getLastD 0 < p)) = true := by rw [decide_eq_true lt, Bool.or_true]
              exact ⟨_, rfl, _, rfl, (by show 1 ≤ sizeLine; decide), fun t2 ht2 => elt Q' (fun y H5 s5 r => qq y H5 pp (Same.kq s5) trivial r) t2 ht2⟩
            · have lt : ¬ lot.getLastD 0 < p := fun z => cc (decide_eq_true (by omega))
              have pp : (lot.isEmpty || decide (lot.getLastD 0 < p)) = false := by rw [decide_eq_false lt, ee] <;> rfl
              exact nn _ pp Kq.refl trivial
        · intro H5 us k5 _ hus ha
          have s5 := k5.same
          have r5 : Lts K H5 us (longer n lot) := by
            unfold longer
            have := ha.flip
            exact (All2.of_map (R := fun (l : Lot) y => LtAt K H5 y l) (f := fun p => lot ++ [p]) (ha.imp fun _ _ r => r)).flip
          have lr := r5.len
          have ll := longer_len n lot
          have lg := rG.len
          have lg2 := longers_len n ((lev n i).take j)
          have lt2 : ((lev n i).take j).length ≤ 64 := by
            rw [List.length_take]
            omega
          have m1 : n * ((lev n i).take j).length ≤ 6 * 64 := Nat.mul_le_mul h6 lt2
          have hgs5 := s5 _ _ hgs
          refine ⟨G, D, gs, us, rfl, rfl, hgs5, hus, Nat.le_of_lt (small1000 (by omega)), some (.ref c), gs ++ us, rfl, fun b o e => ?_, upd_same, ?_⟩
          · rw [upd_ne (ne_of_none e hG)]
            exact s5 _ _ (s3 _ _ e)
          · have k6 : KeepT K H5 (upd H5 G (.lst (gs ++ us))) := keepT_lst hgs5 _
            have k5' : KeepT K H3 H5 := Same.keepT s5
            rw [take_snoc hlot, List.flatMap_append]
            refine ((rG.keep k5').keep k6).app ?_
            rw [List.flatMap_cons, List.flatMap_nil, List.append_nil]
            exact r5.keep k6
      · rintro σ H3 ⟨z, gs, rfl, s3, hgs, rG⟩
        rw [lL, List.take_length] at rG
        refine ⟨_, rfl, G, gs, ((lev n i).flatMap (longer n)).map iLot, rfl, SqL.of hgs, lots_fwd rG, fun _ l hl => ?_, fun ys L' p ha hp hs hn => ?_⟩
        · obtain ⟨m, hm, rfl⟩ := List.mem_map.mp hl
          obtain ⟨k, _, hk⟩ := List.mem_flatMap.mp hm
          unfold longer at hk
          obtain ⟨p, _, rfl⟩ := List.mem_map.mp hk
          simp [iLot]
        · have sy := same_new hn (.lst ys)
          have ry0 := lots_back ha hp hs
          have hF3 := s3 _ _ hFs
          have ky : KeepT K H3 (upd H3 p (.lst ys)) := Same.keepT sy
          have ry : Lts K (upd H3 p (.lst ys)) ys (lev n (i + 1)) := ry0.keep ky
          have ly := ry.len
          have hFp := sy _ _ hF3
          refine ⟨_, rfl, .inl ⟨rfl, _, SqL.of hFp⟩, _, rfl, F, p, fs, ys, rfl, rfl, hFp, upd_same, Nat.le_of_lt (small1000 (by omega)), ?_⟩
          have kF : KeepT K (upd H3 p (.lst ys)) (upd (upd H3 p (.lst ys)) F (.lst (fs ++ ys))) := keepT_lst hFp _
          have hHF : H F = none := (same_new ht0 (.tup [])).free hF
          refine ⟨_, _, _, p, fs ++ ys, ys, rfl, fun b o e => ?_, ?_, upd_same, ?_, ?_, ry.keep kF⟩
          · rw [upd_ne (ne_of_none e hHF)]
            exact sy _ _ (s3 _ _ (s _ _ e))
          · exact ne_of_none hF3 hn
          · rw [upd_ne (fun z => (ne_of_none hF3 hn) z.symm)]
            exact upd_same
          · have k3 : KeepT K H2 H3 := Same.keepT s3
            exact ((rF.keep k3).keep (ky.trans kF)).app (ry.keep kF)
    · rintro σ H2 ⟨x, y, z, Lv, fs, ls, rfl, s, hne, hFs, hLs, rF, rL⟩
      exact ⟨_, rfl, q _ _ s ⟨F, fs, rfl, SqL.of hFs, rF⟩⟩
end
end Cb
namespace Cb
open PySem PySem.Spec PyProof.Rows L2
open C8 (Cal Mak pe_c pe_mk pe_gc)
section
variable {P : Program} {w : World} {K : PySem.W.Frag} {mg : Str → Option Value} {base : Heap}
def zeros (n : Nat) : List Fr := List.replicate n (0, 1)
def ones (n : Nat) : List Fr := List.replicate n (1, 1)
theorem ends_nil (n : Nat) : ends n [] = zeros n := by
  unfold ends zeros
  refine List.eq_replicate_iff.mpr ⟨by simp, fun f hf => ?_⟩
  obtain ⟨p, _, rfl⟩ := List.mem_map.mp hf
  rfl
theorem rep_frs {H : Hp} {u : V} {f : Fr} (h : FrAt K H u f) : ∀ n, Frs K H (List.replicate n u) (List.replicate n f)
  | 0 => .nil
  | n + 1 => .cons h (rep_frs h n)
theorem rep_ok {H : Hp} {p : Addr} {u : V} {f : Fr} {n : Nat} {Q : VK} (hp : H p = some (.tup [u])) (hu : FrAt K H u f) (h1 : 1 ≤ n) (h6 : n ≤ 6) (q : ∀ (H' : Hp) (r : V), Same H H' → TpAt K H' r (List.replicate n f) → Q r H') : Rl.rRepA K (.ref p) (.int (n : Nat)) H Q := by
  refine ⟨p, n, [u], rfl, rfl, SqT.of hp, by simp, by omega, by omega, by simp, fun e => ?_, fun _ t ht => ?_⟩
  · have e' : n = 1 := by omega
    subst e'
    exact q _ _ (Same.refl _) ⟨p, [u], rfl, SqT.of hp, .cons hu .nil⟩
  · have s := same_new ht (.tup (List.replicate (n : Int).toNat [u]).flatten)
    have e : (List.replicate (n : Int).toNat [u]).flatten = List.replicate n u := by
      rw [Int.toNat_natCast]
      simp [List.flatten_replicate_singleton]
    refine q _ _ s ⟨t, List.replicate n u, rfl, ?_, rep_frs (hu.keep (Same.keepT s)) n⟩
    rw [← e]
    exact SqT.of upd_same
def spEnds (K : PySem.W.Frag) : Sp := fun vs H Q _ => ∃ (n : Nat) (x y z : V) (lot : Lot), vs = [x, y, z] ∧ n ≤ 6 ∧ TpAt K H x (zeros n) ∧ TpAt K H y (ones n) ∧ LtAt K H z lot ∧ Ret H Q (fun H' r => TpAt K H' r (ends n lot))
theorem sc_ends_for : FnScope ["lows", "highs", "lot", "person", "low"] ["lows", "highs", "lot"] (defScope zends_for) := ⟨rfl, rfl, rfl, by decide +kernel, rfl, by decide +kernel, by decide +kernel⟩
theorem ok_ends_for (T : Tx K mg)  : Cal P w K mg base 1 "ends_for" (spEnds K) [] := by
  refine mk_cal (k := 0) T 19 rfl rfl sc_ends_for (fun _ _ _ _ _ _ us hl => match us, hl with | [_, _, _], _ => rfl) (fun vs H Q E h => ?_) (fun f cdv A outer s H vs Q E hr h => ?_)
  · obtain ⟨n, x, y, z, lot, rfl, _⟩ := h
    rfl
  · obtain ⟨n, x, y, z, lot, rfl, h6, ⟨a, us, rfl, hA, rA⟩, ⟨b, ws, rfl, hB, rB⟩, ⟨c, rfl, hC⟩, q⟩ := h
    refine ⟨_, (pss_one (ps_ret (pe_callTy (tupO K) rfl T.b_tuple (by decide +kernel) (pa_cons (pe_lc (own := [("person", 3), ("low", 4)]) (g := (gTup K 2 (gCons (gName 3) (gCons (gName 4) gNil)))) rfl sc_ends_for.nd (Rl.pi_enumT rfl T.b_enumerate (pa_cons (pv 0) pa_nil)) (blkOk_by (own := [("person", 3), ("low", 4)]) (N := ["lows", "highs", "lot", "person", "low"]) (sc := defScope zends_for) (by decide +kernel)) (fun _ _ _ _ _ => (pg_tup rfl (pgs_cons (pg_name (i := 3) sc_ends_for.nd rfl (Or.inl rfl)) (pgs_cons (pg_name (i := 4) sc_ends_for.nd rfl (Or.inl rfl)) pgs_nil)))) (fun _ _ _ _ _ => pts_nil) (fun _ _ _ _ _ => (pe_ifExp (pt_cmpR (inS K) (pv 3) (pv 2) rfl) (pe_ix (ixT K) (pv 1) (pv 3) (fun _ _ => rfl)) (pv 4)))) pa_nil)))), ?_⟩
    have la : us.length = n := by
      rw [rA.len]
      exact List.length_replicate
    refine ⟨_, rfl, a, us, rfl, hA, fun D hD => ?_⟩
    refine lc_map (K := K) (Rl.walk_enumT (K := K) (a := a) (xs := us)) (fun i H y => FrAt K H y (if lot.contains i = true then (1, 1) else (0, 1))) hD (len60 (by omega)) (fun H1 s => Same.keepT s a _ hA) (fun _ _ _ _ k r => r.keep k) ?_ ?_
    · rintro i x H1 H2 hi s ⟨T', x1, y1, rfl, hT, rfl, hx, hy⟩ Q' N qq
      have hx' : V.int (i : Nat) = x1 := Option.some.inj hx
      subst hx'
      replace hy : us[i]? = some y1 := hy
      have s2 := same_new hT (.tup [.int (i : Nat), y1])
      have k : KeepT K H _ := Same.keepT (s.trans s2)
      refine ⟨T', [.int (i : Nat), y1], rfl, SqT.of upd_same, rfl, _, _, rfl, _, _, rfl, rfl, rfl, ?_⟩
      refine ⟨_, rfl, _, rfl, c, _, rfl, .inr (k c _ hC), rfl, lotV_flat lot, _, rfl, ?_⟩
      show if inV (V.int (i : Nat)) (lotV lot) = true then _ else _
      rw [lotV_in]
      refine ite2 (fun cc => ?_) (fun cc => ?_)
      · have e : (ones n)[i]? = some (1, 1) := by
          unfold ones
          rw [List.getElem?_replicate, if_pos (by omega)]
        obtain ⟨w1, hw, r⟩ := rB.get' e
        refine ⟨_, rfl, _, rfl, b, ws, _, w1, rfl, rfl, k b _ hB, atI_nat hw, qq _ _ s2 ?_⟩
        rw [if_pos cc]
        exact r.keep k
      · obtain ⟨f, hf, r⟩ := rA.get hy
        have e : f = (0, 1) := by
          unfold zeros at hf
          rw [List.getElem?_replicate, if_pos (by omega)] at hf
          exact (Option.some.inj hf).symm
        subst e
        refine ⟨_, rfl, qq _ _ s2 ?_⟩
        rw [if_neg cc]
        exact r.keep k
    · intro H1 ys s hys lys fys
      refine ⟨D, ys, rfl, .inl ⟨SqL.of hys, fun t ht => ?_⟩⟩
      have s2 := same_new ht (.tup ys)
      refine q _ _ (s.trans s2) ⟨t, ys, rfl, SqT.of upd_same, All2.of_get (by rw [lys, la]; simp [ends]) fun i y f hy hf => ?_⟩
      unfold ends at hf
      rw [List.getElem?_map] at hf
      have hi : i < n := by
        have := (List.getElem?_eq_some_iff.mp hy).1
        omega
      rw [List.getElem?_range hi] at hf
      rw [← Option.some.inj hf]
      exact (fys i y hy).keep (Same.keepT s2)
/-- a Rule of a right term -/
structure RuOk (K : PySem.W.Frag) (H : Hp) (v : V) (n : Nat) (t : Tm) : Prop where
  ex : ∃ u, RuAt K H v n u ∧ TmAt K H 6 u t
  wf : Wf n 6 t
  ct : cnt 6 t ≤ 60
  p1 : 1 ≤ n
  p6 : n ≤ 6
theorem RuOk.same {H H' : Hp} {v : V} {n : Nat} {t : Tm} (h : RuOk K H v n t) (s : Same H H') : RuOk K H' v n t :=
  let ⟨u, a, b⟩ := h.ex; ⟨⟨u, a.same s, TmAt.keep (Same.keepT s) 6 b⟩, h.wf, h.ct, h.p1, h.p6⟩
theorem corn_bt {n : Nat} {t : Tm} (hw : Wf n 6 t) (hc : cnt 6 t ≤ 60) (lot : Lot) : Bt 4000 (corn n 6 t lot) := (val_ok (ends_ok n lot) 6 t hw).2.mono (by omega)
def spCorner (K : PySem.W.Frag) : Sp := fun vs H Q _ => ∃ (n : Nat) (v z : V) (t : Tm) (lot : Lot), vs = [v, z] ∧ RuOk K H v n t ∧ LtAt K H z lot ∧ Ret H Q (fun H' r => FrAt K H' r (corn n 6 t lot))
theorem sc_corner_of : FnScope ["rule", "lot"] ["rule", "lot"] (defScope zcorner_of) := ⟨rfl, rfl, rfl, by decide +kernel, rfl, by decide +kernel, by decide +kernel⟩
theorem ok_corner_of (T : Tx K mg) (c_value_of : Cal P w K mg base 10 "value_of" (spVal K 6) []) (c_ends_for : Cal P w K mg base 1 "ends_for" (spEnds K) []) : Cal P w K mg base 11 "corner_of" (spCorner K) [] := by
  refine mk_cal (k := 10) T 20 rfl rfl sc_corner_of (fun _ _ _ _ _ _ us hl => match us, hl with | [_, _], _ => rfl) (fun vs H Q E h => ?_) (fun f cdv A outer s H vs Q E hr h => ?_)
  · obtain ⟨n, v, z, t, lot, rfl, _⟩ := h
    rfl
  · obtain ⟨n, v, z, t, lot, rfl, hR, hL, q⟩ := h
    refine ⟨_, (pss_one (ps_ret (pe_c c_value_of hr (by first | decide | omega) rfl (pa_cons (pe_fld (pv 0) rfl) (pa_cons (pe_c c_ends_for hr (by first | decide | omega) rfl (pa_cons (pe_op (repA K) (pe_tup (pa_cons (pe_gc rfl T.ZERO) pa_nil)) (pe_fld (pv 0) rfl)) (pa_cons (pe_op (repA K) (pe_tup (pa_cons (pe_gc rfl T.ONE) pa_nil)) (pe_fld (pv 0) rfl)) (pa_cons (pv 1) pa_nil)))) pa_nil))))), ?_⟩
    obtain ⟨u, ⟨a, dx, rfl, hA⟩, hT⟩ := hR.ex
    refine ⟨_, rfl, a, _, dx, _, _, rfl, hA, T.clR, T.nTe, rf_term n u, ?_⟩
    refine ⟨(by show 1 ≤ sizeLine; decide), fun p hp => ?_⟩
    have s1 := same_new hp (.tup [.ref (He.ga K "ZERO")])
    refine ⟨_, rfl, a, _, dx, _, _, rfl, s1 _ _ hA, T.clR, T.nPe, rf_people n u, rep_ok (f := (0, 1)) upd_same ⟨_, rfl, T.zero_at _⟩ hR.p1 hR.p6 fun H2 r2 s2 h2 => ?_⟩
    have s12 := s1.trans s2
    refine ⟨(by show 1 ≤ sizeLine; decide), fun p3 hp3 => ?_⟩
    have s3 := same_new hp3 (.tup [.ref (He.ga K "ONE")])
    refine ⟨_, rfl, a, _, dx, _, _, rfl, s3 _ _ (s12 _ _ hA), T.clR, T.nPe, rf_people n u, rep_ok (f := (1, 1)) upd_same ⟨_, rfl, T.one_at _⟩ hR.p1 hR.p6 fun H4 r4 s4 h4 => ?_⟩
    have s34 := s3.trans s4
    have k : KeepT K H H4 := Same.keepT (s12.trans s34)
    refine ⟨_, rfl, n, r2, r4, z, lot, rfl, hR.p6, h2.keep (Same.keepT s34), h4, hL.keep k, fun H5 r5 s5 h5 => ?_⟩
    obtain ⟨b, ws, rfl, hB, rB⟩ := h5
    have s15 := (s12.trans s34).trans s5
    exact ⟨n, u, b, ws, t, ends n lot, rfl, TmAt.keep (Same.keepT s15) 6 hT, hR.wf, hR.ct, hB, rB, ends_ok n lot, fun H6 r6 s6 h6 => q _ _ (s15.trans s6) h6⟩
/-! ### who wishes -/
def WsOk (ws : List Fr) : Prop := ws.length ≤ 6 ∧ ∀ f ∈ ws, Num f ∧ Bt 64 f
def spWish (K : PySem.W.Frag) : Sp := fun vs H Q _ => ∃ (x y : V) (ws : List Fr) (f : Fr), vs = [x, y] ∧ TpAt K H x ws ∧ WsOk ws ∧ FrAt K H y f ∧ Bt 4000 f ∧ Ret H Q (fun H' r => LtAt K H' r (wsh ws.length ws f))
def spWishM (K : PySem.W.Frag) : Sp := fun vs H Q _ => ∃ (x y : V) (ws : List Fr) (f : Fr), vs = [x, y] ∧ TpAt K H x ws ∧ WsOk ws ∧ FrAt K H y f ∧ Bt 4000 f ∧ Ret H Q (fun H' r => LtAt K H' r (wmo ws.length ws f))
theorem wi_at {ws : List Fr} {i : Nat} {f : Fr} (h : ws[i]? = some f) : wi ws i = f := by
  unfold wi
  rw [List.getD_eq_getElem?_getD, h]
  rfl
theorem sc_wishing : FnScope ["wishes", "number", "person", "wish"] ["wishes", "number"] (defScope zwishing) := ⟨rfl, rfl, rfl, by decide +kernel, rfl, by decide +kernel, by decide +kernel⟩
theorem ok_wishing (T : Tx K mg) (c_is_less : Cal P w K mg base 1 "is_less" (spLess K) []) : Cal P w K mg base 2 "wishing" (spWish K) [] := by
  refine mk_cal (k := 1) T 21 rfl rfl sc_wishing (fun _ _ _ _ _ _ us hl => match us, hl with | [_, _], _ => rfl) (fun vs H Q E h => ?_) (fun f cdv A outer s H vs Q E hr h => ?_)
  · obtain ⟨x, y, ws, f, rfl, _⟩ := h
    rfl
  · obtain ⟨x, y, ws, f, rfl, ⟨a, us, rfl, hA, rA⟩, hW, hF, bF, q⟩ := h
    refine ⟨_, (pss_one (ps_ret (pe_callTy (tupO K) rfl T.b_tuple (by decide +kernel) (pa_cons (pe_lc (own := [("person", 2), ("wish", 3)]) (g := (gTup K 2 (gCons (gName 2) (gCons (gName 3) gNil)))) rfl sc_wishing.nd (Rl.pi_enumT rfl T.b_enumerate (pa_cons (pv 0) pa_nil)) (blkOk_by (own := [("person", 2), ("wish", 3)]) (N := ["wishes", "number", "person", "wish"]) (sc := defScope zwishing) (by decide +kernel)) (fun _ _ _ _ _ => (pg_tup rfl (pgs_cons (pg_name (i := 2) sc_wishing.nd rfl (Or.inl rfl)) (pgs_cons (pg_name (i := 3) sc_wishing.nd rfl (Or.inl rfl)) pgs_nil)))) (fun _ _ _ _ _ => (pts_one (pt_not (pt_val (pe_c c_is_less hr (by first | decide | omega) rfl (pa_cons (pv 3) (pa_cons (pv 1) pa_nil))))))) (fun _ _ _ _ _ => (pv 2))) pa_nil)))), ?_⟩
    have la := rA.len
    have l6 := hW.1
    refine ⟨_, rfl, a, us, rfl, hA, fun D hD => ?_⟩
    refine lc_gen (K := K) (Rl.walk_enumT (K := K) (a := a) (xs := us)) (fun _ => False) (fun _ => True) (fun i => !fLess (wi ws i) f) (fun i _ y => y = V.int (i : Nat)) hD (fun z => z) (len60 (by omega)) (fun _ _ _ z => z.elim) (fun H1 s => Same.keepT s.same a _ hA) trivial (fun _ _ _ => trivial) (fun _ _ _ _ _ r => r) ?_ ?_
    · rintro i x H1 H2 hi s _ ⟨T', x1, y1, rfl, hT, rfl, hx, hy⟩ Q' N qq nn
      have hx' : V.int (i : Nat) = x1 := Option.some.inj hx
      subst hx'
      replace hy : us[i]? = some y1 := hy
      have s2 := same_new hT (.tup [.int (i : Nat), y1])
      have k : KeepT K H _ := Same.keepT (s.same.trans s2)
      obtain ⟨g, hg, r⟩ := rA.get hy
      have bg := (hW.2 g (List.mem_of_getElem? hg)).2.mono (show 64 ≤ 4000 by decide)
      refine ⟨T', [.int (i : Nat), y1], rfl, SqT.of upd_same, rfl, _, _, rfl, _, _, rfl, rfl, rfl, ?_⟩
      refine ⟨_, rfl, _, rfl, y1, y, g, f, rfl, r.keep k, hF.keep k, bg, bF, _, rfl, ?_⟩
      have e : wi ws i = g := wi_at hg
      cases c : fLess g f with
      | true => exact iteF (nn _ (by rw [e, c]; rfl) (Same.kq s2) trivial)
      | false => exact iteT ⟨_, rfl, qq _ _ (by rw [e, c]; rfl) (Same.kq s2) trivial rfl⟩
    · intro H1 ys s _ hys ha
      have ey := lotV_filter ha
      refine ⟨D, ys, rfl, .inl ⟨SqL.of hys, fun t ht => q _ _ (s.same.trans (same_new ht _)) ⟨t, rfl, ?_⟩⟩⟩
      unfold wsh
      rw [← la, ← ey]
      exact SqT.of upd_same
theorem sc_wishing_more : FnScope ["wishes", "number", "person", "wish"] ["wishes", "number"] (defScope zwishing_more) := ⟨rfl, rfl, rfl, by decide +kernel, rfl, by decide +kernel, by decide +kernel⟩
theorem ok_wishing_more (T : Tx K mg) (c_is_less : Cal P w K mg base 1 "is_less" (spLess K) []) : Cal P w K mg base 2 "wishing_more" (spWishM K) [] := by
  refine mk_cal (k := 1) T 22 rfl rfl sc_wishing_more (fun _ _ _ _ _ _ us hl => match us, hl with | [_, _], _ => rfl) (fun vs H Q E h => ?_) (fun f cdv A outer s H vs Q E hr h => ?_)
  · obtain ⟨x, y, ws, f, rfl, _⟩ := h
    rfl
  · obtain ⟨x, y, ws, f, rfl, ⟨a, us, rfl, hA, rA⟩, hW, hF, bF, q⟩ := h
    refine ⟨_, (pss_one (ps_ret (pe_callTy (tupO K) rfl T.b_tuple (by decide +kernel) (pa_cons (pe_lc (own := [("person", 2), ("wish", 3)]) (g := (gTup K 2 (gCons (gName 2) (gCons (gName 3) gNil)))) rfl sc_wishing_more.nd (Rl.pi_enumT rfl T.b_enumerate (pa_cons (pv 0) pa_nil)) (blkOk_by (own := [("person", 2), ("wish", 3)]) (N := ["wishes", "number", "person", "wish"]) (sc := defScope zwishing_more) (by decide +kernel)) (fun _ _ _ _ _ => (pg_tup rfl (pgs_cons (pg_name (i := 2) sc_wishing_more.nd rfl (Or.inl rfl)) (pgs_cons (pg_name (i := 3) sc_wishing_more.nd rfl (Or.inl rfl)) pgs_nil)))) (fun _ _ _ _ _ => (pts_one (pt_val (pe_c c_is_less hr (by first | decide | omega) rfl (pa_cons (pv 1) (pa_cons (pv 3) pa_nil)))))) (fun _ _ _ _ _ => (pv 2))) pa_nil)))), ?_⟩
    have la := rA.len
    have l6 := hW.1
    refine ⟨_, rfl, a, us, rfl, hA, fun D hD => ?_⟩
    refine lc_gen (K := K) (Rl.walk_enumT (K := K) (a := a) (xs := us)) (fun _ => False) (fun _ => True) (fun i => fLess f (wi ws i)) (fun i _ y => y = V.int (i : Nat)) hD (fun z => z) (len60 (by omega)) (fun _ _ _ z => z.elim) (fun H1 s => Same.keepT s.same a _ hA) trivial (fun _ _ _ => trivial) (fun _ _ _ _ _ r => r) ?_ ?_
    · rintro i x H1 H2 hi s _ ⟨T', x1, y1, rfl, hT, rfl, hx, hy⟩ Q' N qq nn
      have hx' : V.int (i : Nat) = x1 := Option.some.inj hx
      subst hx'
      replace hy : us[i]? = some y1 := hy
      have s2 := same_new hT (.tup [.int (i : Nat), y1])
      have k : KeepT K H _ := Same.keepT (s.same.trans s2)
      obtain ⟨g, hg, r⟩ := rA.get hy
      have bg := (hW.2 g (List.mem_of_getElem? hg)).2.mono (show 64 ≤ 4000 by decide)
      refine ⟨T', [.int (i : Nat), y1], rfl, SqT.of upd_same, rfl, _, _, rfl, _, _, rfl, rfl, rfl, ?_⟩
      refine ⟨_, rfl, _, rfl, y, y1, f, g, rfl, hF.keep k, r.keep k, bF, bg, _, rfl, ?_⟩
      have e : wi ws i = g := wi_at hg
      cases c : fLess f g with
      | false => exact iteF (nn _ (by rw [e, c]) (Same.kq s2) trivial)
      | true => exact iteT ⟨_, rfl, qq _ _ (by rw [e, c]) (Same.kq s2) trivial rfl⟩
    · intro H1 ys s _ hys ha
      have ey := lotV_filter ha
      refine ⟨D, ys, rfl, .inl ⟨SqL.of hys, fun t ht => q _ _ (s.same.trans (same_new ht _)) ⟨t, rfl, ?_⟩⟩⟩
      unfold wmo
      rw [← la, ← ey]
      exact SqT.of upd_same
/-! ### the outcome -/
def pItems (n : Nat) (t : Tm) (ws : List Fr) : List Fr := ws.map fun w => fMinL [corn n 6 t (wsh n ws w), w]
def spAmong (K : PySem.W.Frag) : Sp := fun vs H Q _ => ∃ (n : Nat) (v x y z : V) (t : Tm) (ws : List Fr), vs = [v, x, y, z] ∧ RuOk K H v n t ∧ TpAt K H x ws ∧ ws.length = n ∧ WsOk ws ∧ TpAt K H y (zeros n) ∧ TpAt K H z (ones n) ∧ Ret H Q (fun H' r => FrAt K H' r (pOut n 6 t ws))
theorem bt_min {a b : Fr} (ha : Bt 4000 a) (hb : Bt 4000 b) : Bt 4000 (fMinL [a, b]) := by
  show Bt 4000 (if fLess b a = true then b else a)
  split
  · exact hb
  · exact ha
theorem sc_outcome_among : FnScope ["rule", "wishes", "lows", "highs", "found", "wish", "held"] ["rule", "wishes", "lows", "highs"] (defScope zoutcome_among) := ⟨rfl, rfl, rfl, by decide +kernel, rfl, by decide +kernel, by decide +kernel⟩
theorem ok_outcome_among (T : Tx K mg) (c_greatest_of : Cal P w K mg base 2 "greatest_of" (spGreatest K) []) (c_value_of : Cal P w K mg base 10 "value_of" (spVal K 6) []) (c_ends_for : Cal P w K mg base 1 "ends_for" (spEnds K) []) (c_least_of : Cal P w K mg base 2 "least_of" (spLeast K) []) (c_wishing : Cal P w K mg base 2 "wishing" (spWish K) []) : Cal P w K mg base 11 "outcome_among" (spAmong K) [] := by
  refine mk_cal (k := 10) T 23 rfl rfl sc_outcome_among (fun _ _ _ _ _ _ us hl => match us, hl with | [_, _, _, _], _ => rfl) (fun vs H Q E h => ?_) (fun f cdv A outer s H vs Q E hr h => ?_)
  · obtain ⟨n, v, x, y, z, t, ws, rfl, _⟩ := h
    rfl
  · obtain ⟨n, v, x, y, z, t, ws, rfl, hR, hX, hn, hW, hY, hZ, q⟩ := h
    refine ⟨_, (pss_cons (ps_set (i := 4) sc_outcome_among.nd rfl (Or.inl rfl) (pe_lst (pa_cons (pe_c c_value_of hr (by first | decide | omega) rfl (pa_cons (pe_fld (pv 0) rfl) (pa_cons (pv 2) pa_nil))) pa_nil)))
      (pss_cons (ps_for PassesOwn.never rfl (pi_tup (pv 1)) (pg_name (i := 5) sc_outcome_among.nd rfl (Or.inl rfl)) (pss_cons (ps_set (i := 6) sc_outcome_among.nd rfl (Or.inl rfl) (pe_c c_value_of hr (by first | decide | omega) rfl (pa_cons (pe_fld (pv 0) rfl) (pa_cons (pe_c c_ends_for hr (by first | decide | omega) rfl (pa_cons (pv 2) (pa_cons (pv 3) (pa_cons (pe_c c_wishing hr (by first | decide | omega) rfl (pa_cons (pv 1) (pa_cons (pv 5) pa_nil))) pa_nil)))) pa_nil))))
      (pss_one (ps_expr (pe_bm PySem.F.plainAttrs_list PySem.F.slot_list_append PySem.F.type_list_append mt_append (pv 4) (pa_cons (pe_c c_least_of hr (by first | decide | omega) rfl (pa_cons (pe_lst (pa_cons (pv 6) (pa_cons (pv 5) pa_nil))) pa_nil)) pa_nil))))))
      (pss_one (ps_ret (pe_c c_greatest_of hr (by first | decide | omega) rfl (pa_cons (pv 4) pa_nil)))))), ?_⟩
    obtain ⟨u, ⟨a, dx, rfl, hA⟩, hT⟩ := hR.ex
    obtain ⟨c, us, rfl, hC, rC⟩ := hX
    obtain ⟨b, zs, rfl, hB, rB⟩ := hY
    have bw : ∀ w ∈ ws, Bt 4000 w := fun w hw => (hW.2 w hw).2.mono (by decide)
    refine ⟨_, rfl, a, _, dx, _, _, rfl, hA, T.clR, T.nTe, rf_term n u, ?_⟩
    refine ⟨_, rfl, n, u, b, zs, t, zeros n, rfl, hT, hR.wf, hR.ct, hB, rB, ends_nil n ▸ ends_ok n [], fun H1 r1 s1 h1 => ?_⟩
    refine ⟨(by show 1 ≤ sizeLine; decide), fun F hF => ?_⟩
    have s2 := same_new hF (.lst [r1])
    have lw := hW.1
    have lc := rC.len
    refine ⟨_, rfl, c, rfl, ⟨_, Same.keepT (s1.trans s2) c _ hC⟩, for_tup (K := K) (a := c) (xs := us) (fun i σ H' => ∃ x1 x2 fs, σ = [some (.ref a), some (.ref c), some (.ref b), some z, some (.ref F), x1, x2] ∧ Same H H' ∧ H' F = some (.lst fs) ∧ Frs K H' fs (corn n 6 t [] :: (pItems n t ws).take i))
      ⟨none, none, [r1], rfl, s1.trans s2, upd_same, ?_⟩ (fun i σ H' _ ⟨_, _, _, _, s, _⟩ => Same.keepT s c _ hC) ?_ ?_⟩
    · refine .cons ?_ .nil
      have e : corn n 6 t [] = val (zeros n) 6 t := by
        unfold corn
        rw [ends_nil]
      rw [e]
      exact h1.keep (Same.keepT s2)
    · rintro i x σ H3 hx ⟨x1, x2, fs, rfl, s, hfs, rF⟩
      obtain ⟨w, hw, r⟩ := rC.get hx
      have hwm := List.mem_of_getElem? hw
      have k : KeepT K H H3 := Same.keepT s
      refine ⟨_, rfl, a, _, dx, _, _, rfl, s _ _ hA, T.clR, T.nTe, rf_term n u, ?_⟩
      refine ⟨_, rfl, _, rfl, _, rfl, _, rfl, .ref c, x, ws, w, rfl, ⟨c, us, rfl, k c _ hC, rC.keep k⟩, hW, r.keep k, bw w hwm, fun H4 r4 s4 h4 => ?_⟩
      have k4 : KeepT K H H4 := Same.keepT (s.trans s4)
      refine ⟨n, .ref b, z, r4, wsh ws.length ws w, rfl, hR.p6, ⟨b, zs, rfl, k4 b _ hB, rB.keep k4⟩, hZ.keep k4, h4, fun H5 r5 s5 h5 => ?_⟩
      obtain ⟨b5, us5, rfl, hB5, rB5⟩ := h5
      have s45 := (s.trans s4).trans s5
      refine ⟨n, u, b5, us5, t, ends n (wsh ws.length ws w), rfl, TmAt.keep (Same.keepT s45) 6 hT, hR.wf, hR.ct, hB5, rB5, ends_ok n _, fun H6 r6 s6 h6 => ?_⟩
      rw [hn] at h6
      have k6 : KeepT K H _ := Same.keepT (s45.trans s6)
      have s36 := (s4.trans s5).trans s6
      have hf6 := s36 _ _ hfs
      refine ⟨_, rfl, .inl ⟨rfl, _, SqL.of hf6⟩, _, rfl, _, rfl, (by show 2 ≤ sizeLine; decide), fun p hp => ?_⟩
      have s7 := same_new hp (.lst [r6, x])
      have k7 : KeepT K _ _ := Same.keepT s7
      refine ⟨.ref p, [corn n 6 t (wsh n ws w), w], rfl, ⟨p, _, rfl, SqL.of upd_same, .cons (h6.keep k7) (.cons ((r.keep k6).keep k7) .nil)⟩, List.cons_ne_nil _ _, fun f hf => ?_, fun H8 r8 s8 h8 => ?_⟩
      · simp only [List.mem_cons, List.mem_nil_iff, or_false] at hf
        rcases hf with rfl | rfl
        · exact corn_bt hR.wf hR.ct _
        · exact bw _ hwm
      · have s78 := s7.trans s8
        have hf8 := s78 _ _ hf6
        have lf := rF.len
        have hi : i < us.length := (List.getElem?_eq_some_iff.mp hx).1
        have l1 : fs.length ≤ 7 := by
          rw [lf, List.length_cons, List.length_take]
          omega
        have hFn : H F = none := s1.free hF
        refine ⟨F, fs, r8, rfl, rfl, hf8, len60 (by omega) |> fun _ => small1000 (by omega), some x, some r6, fs ++ [r8], rfl, fun bb o e => ?_, upd_same, ?_⟩
        · rw [upd_ne (ne_of_none e hFn)]
          exact s78 _ _ (s36 _ _ (s _ _ e))
        · have kF : KeepT K H8 (upd H8 F (.lst (fs ++ [r8]))) := keepT_lst hf8 _
          have hp : (pItems n t ws)[i]? = some (fMinL [corn n 6 t (wsh n ws w), w]) := by
            unfold pItems
            rw [List.getElem?_map, hw]
            rfl
          rw [take_snoc hp, ← List.cons_append]
          exact ((rF.keep (Same.keepT (s36.trans s78))).keep kF).app (.cons (h8.keep kF) .nil)
    · rintro σ H3 ⟨x1, x2, fs, rfl, s, hfs, rF⟩
      have e : (pItems n t ws).take us.length = pItems n t ws := List.take_of_length_le (by unfold pItems; rw [List.length_map]; omega)
      rw [e] at rF
      refine ⟨_, rfl, .ref F, _, rfl, ⟨F, fs, rfl, SqL.of hfs, rF⟩, List.cons_ne_nil _ _, fun f hf => ?_, fun H4 r4 s4 h4 => q _ _ (s.trans s4) h4⟩
      rcases List.mem_cons.mp hf with rfl | hf
      · exact corn_bt hR.wf hR.ct _
      · obtain ⟨w, hw, rfl⟩ := List.mem_map.mp hf
        exact bt_min (corn_bt hR.wf hR.ct _) (bw w hw)
def spOutcome (K : PySem.W.Frag) : Sp := fun vs H Q _ => ∃ (n : Nat) (v x : V) (t : Tm) (ws : List Fr), vs = [v, x] ∧ RuOk K H v n t ∧ TpAt K H x ws ∧ ws.length = n ∧ WsOk ws ∧ Ret H Q (fun H' r => FrAt K H' r (pOut n 6 t ws))
theorem sc_outcome_of : FnScope ["rule", "wishes"] ["rule", "wishes"] (defScope zoutcome_of) := ⟨rfl, rfl, rfl, by decide +kernel, rfl, by decide +kernel, by decide +kernel⟩
theorem ok_outcome_of (T : Tx K mg) (c_outcome_among : Cal P w K mg base 11 "outcome_among" (spAmong K) []) : Cal P w K mg base 12 "outcome_of" (spOutcome K) [] := by
  refine mk_cal (k := 11) T 24 rfl rfl sc_outcome_of (fun _ _ _ _ _ _ us hl => match us, hl with | [_, _], _ => rfl) (fun vs H Q E h => ?_) (fun f cdv A outer s H vs Q E hr h => ?_)
  · obtain ⟨n, v, x, t, ws, rfl, _⟩ := h
    rfl
  · obtain ⟨n, v, x, t, ws, rfl, hR, hX, hn, hW, q⟩ := h
    refine ⟨_, (pss_one (ps_ret (pe_c c_outcome_among hr (by first | decide | omega) rfl (pa_cons (pv 0) (pa_cons (pv 1) (pa_cons (pe_op (repA K) (pe_tup (pa_cons (pe_gc rfl T.ZERO) pa_nil)) (pe_fld (pv 0) rfl)) (pa_cons (pe_op (repA K) (pe_tup (pa_cons (pe_gc rfl T.ONE) pa_nil)) (pe_fld (pv 0) rfl)) pa_nil))))))), ?_⟩
    obtain ⟨u, ⟨a, dx, rfl, hA⟩, hT⟩ := hR.ex
    refine ⟨_, rfl, _, rfl, (by show 1 ≤ sizeLine; decide), fun p hp => ?_⟩
    have s1 := same_new hp (.tup [.ref (He.ga K "ZERO")])
    refine ⟨_, rfl, a, _, dx, _, _, rfl, s1 _ _ hA, T.clR, T.nPe, rf_people n u, rep_ok (f := (0, 1)) upd_same ⟨_, rfl, T.zero_at _⟩ hR.p1 hR.p6 fun H2 r2 s2 h2 => ?_⟩
    have s12 := s1.trans s2
    refine ⟨(by show 1 ≤ sizeLine; decide), fun p3 hp3 => ?_⟩
    have s3 := same_new hp3 (.tup [.ref (He.ga K "ONE")])
    refine ⟨_, rfl, a, _, dx, _, _, rfl, s3 _ _ (s12 _ _ hA), T.clR, T.nPe, rf_people n u, rep_ok (f := (1, 1)) upd_same ⟨_, rfl, T.one_at _⟩ hR.p1 hR.p6 fun H4 r4 s4 h4 => ?_⟩
    have s34 := s3.trans s4
    have s14 := s12.trans s34
    exact ⟨n, .ref a, x, r2, r4, t, ws, rfl, hR.same s14, hX.keep (Same.keepT s14), hn, hW, h2.keep (Same.keepT s34), h4, fun H5 r5 s5 h5 => q _ _ (s14.trans s5) h5⟩
end
end Cb
namespace Cb
open PySem PySem.Spec PyProof.Rows L2
open C8 (Cal Mak pe_c pe_mk pe_gc)
section
variable {P : Program} {w : World} {K : PySem.W.Frag} {mg : Str → Option Value} {base : Heap}
theorem flagsL {us : List V} {l : Lot} {g : Nat → Bool} (e : us.length = l.length) (h : ∀ (i : Nat) (y : V), us[i]? = some y → ∃ p, l[i]? = some p ∧ y = V.bl (g p)) : us = (l.map g).map V.bl := by
  refine List.ext_getElem? fun i => ?_
  by_cases hi : i < us.length
  · obtain ⟨p, hp, e2⟩ := h i _ (List.getElem?_eq_getElem hi)
    rw [List.getElem?_eq_getElem hi, e2, List.getElem?_map, List.getElem?_map, hp]
    rfl
  · rw [List.getElem?_eq_none (by omega), List.getElem?_eq_none (by rw [List.length_map, List.length_map]; omega)]
theorem all_id {l : Lot} {g : Nat → Bool} : (l.map g).all id = l.all g := by
  rw [List.all_map]
  rfl
theorem any_id {l : Lot} {g : Nat → Bool} : (l.map g).any id = l.any g := by
  rw [List.any_map]
  rfl
theorem all_congr {l : Lot} {f g : Nat → Bool} (h : ∀ p ∈ l, f p = g p) : l.all f = l.all g := by
  induction l with
  | nil => rfl
  | cons a l ih => rw [List.all_cons, List.all_cons, h a (List.mem_cons_self ..), ih fun p hp => h p (List.mem_cons_of_mem _ hp)]
theorem any_not {l : Lot} {f : Nat → Bool} : (!l.any f) = l.all fun p => !f p := by
  rw [List.not_any_eq_all_not]
theorem first_found {α : Type} {p : α → Bool} : ∀ {L : List α} {l0 l : α} {i : Nat}, L.find? p = some l0 → L[i]? = some l → p l = true → (∀ (j : Nat) (l' : α), j < i → L[j]? = some l' → p l' = false) → l = l0
  | [], _, _, _, h, _, _, _ => by cases h
  | a :: L, l0, l, 0, h, h1, h2, _ => by
    have e : a = l := Option.some.inj h1
    rw [e, List.find?_cons_of_pos h2] at h
    exact Option.some.inj h
  | a :: L, l0, l, i + 1, h, h1, h2, h3 => by
    have na := h3 0 a (Nat.zero_lt_succ _) rfl
    rw [List.find?_cons_of_neg (by rw [na]; decide)] at h
    exact first_found h h1 h2 fun j l' hj hl => h3 (j + 1) l' (Nat.succ_lt_succ hj) hl
theorem none_found {α : Type} {p : α → Bool} {L : List α} {l0 : α} (h : L.find? p = some l0) (h3 : ∀ (j : Nat) (l' : α), j < L.length → L[j]? = some l' → p l' = false) : False := by
  have m := List.mem_of_find?_eq_some h
  have t := List.find?_some h
  obtain ⟨i, hi⟩ := List.mem_iff_getElem?.mp m
  rw [h3 i l0 (List.getElem?_eq_some_iff.mp hi).1 hi] at t
  cases t
theorem pOut_bt {n : Nat} {t : Tm} {ws : List Fr} (hw : Wf n 6 t) (hc : cnt 6 t ≤ 60) (hW : WsOk ws) : Bt 4000 (pOut n 6 t ws) := by
  have m := max1_mem (ws.map fun w => fMinL [corn n 6 t (wsh n ws w), w]) (corn n 6 t [])
  have e : fMax1 (corn n 6 t []) (ws.map fun w => fMinL [corn n 6 t (wsh n ws w), w]) = pOut n 6 t ws := rfl
  rw [e] at m
  rcases List.mem_cons.mp m with h | h
  · rw [h]
    exact corn_bt hw hc _
  · obtain ⟨w, hw', e2⟩ := List.mem_map.mp h
    rw [← e2]
    exact bt_min (corn_bt hw hc _) ((hW.2 w hw').2.mono (by decide))
theorem wsh_in {n p : Nat} {ws : List Fr} {f : Fr} (hp : p < n) : (wsh n ws f).contains p = !fLess (wi ws p) f := by
  cases c : fLess (wi ws p) f with
  | true =>
    refine Bool.eq_false_iff.mpr fun z => ?_
    have := (List.mem_filter.mp (List.contains_iff_mem.mp z)).2
    rw [c] at this
    cases this
  | false => exact List.contains_iff_mem.mpr (List.mem_filter.mpr ⟨List.mem_range.mpr hp, by rw [c]; rfl⟩)
theorem wmo_in {n p : Nat} {ws : List Fr} {f : Fr} (hp : p < n) : (wmo n ws f).contains p = fLess f (wi ws p) := by
  cases c : fLess f (wi ws p) with
  | false =>
    refine Bool.eq_false_iff.mpr fun z => ?_
    have := (List.mem_filter.mp (List.contains_iff_mem.mp z)).2
    rw [c] at this
    cases this
  | true => exact List.contains_iff_mem.mpr (List.mem_filter.mpr ⟨List.mem_range.mpr hp, c⟩)
def spHold (K : PySem.W.Frag) : Sp := fun vs H Q _ => ∃ (n : Nat) (v x : V) (t : Tm) (ws : List Fr) (lot : Lot), vs = [v, x] ∧ RuOk K H v n t ∧ TpAt K H x ws ∧ ws.length = n ∧ WsOk ws ∧ (AL n).find? (upB n 6 t ws (pOut n 6 t ws)) = some lot ∧ Ret H Q (fun H' r => LtAt K H' r lot)
def spPress (K : PySem.W.Frag) : Sp := fun vs H Q _ => ∃ (n : Nat) (v x : V) (t : Tm) (ws : List Fr) (lot : Lot), vs = [v, x] ∧ RuOk K H v n t ∧ TpAt K H x ws ∧ ws.length = n ∧ WsOk ws ∧ (AL n).find? (dnB n 6 t ws (pOut n 6 t ws)) = some lot ∧ Ret H Q (fun H' r => LtAt K H' r lot)
theorem al_lt {n : Nat} (h1 : 1 ≤ n) (h6 : n ≤ 6) {i : Nat} {l : Lot} (h : (AL n)[i]? = some l) {p : Nat} (hp : p ∈ l) : p < n := by
  rw [AL_LL n h1 h6] at h
  exact LL_mem h1 h6 (List.mem_of_getElem? h) hp
theorem al_len {n : Nat} (h1 : 1 ≤ n) (h6 : n ≤ 6) {i : Nat} {l : Lot} (h : (AL n)[i]? = some l) : l.length ≤ 64 := by
  have key : ((AL n).all fun l => decide (l.length ≤ 64)) = true := by
    match n, h1, h6 with
    | 1, _, _ => decide +kernel
    | 2, _, _ => decide +kernel
    | 3, _, _ => decide +kernel
    | 4, _, _ => decide +kernel
    | 5, _, _ => decide +kernel
    | 6, _, _ => decide +kernel
  exact of_decide_eq_true (List.all_eq_true.mp key l (List.mem_of_getElem? h))
theorem sc_holding : FnScope ["rule", "wishes", "number", "able", "lot", "person"] ["rule", "wishes"] (defScope zholding) := ⟨rfl, rfl, rfl, by decide +kernel, rfl, by decide +kernel, by decide +kernel⟩
theorem ok_holding (T : Tx K mg) (c_check_wishes : Cal P w K mg base 5 "check_wishes" (spCheck K) []) (c_outcome_of : Cal P w K mg base 12 "outcome_of" (spOutcome K) []) (c_wishing : Cal P w K mg base 2 "wishing" (spWish K) []) (c_all_lots : Cal P w K mg base 1 "all_lots" (spLots K) []) (c_is_less : Cal P w K mg base 1 "is_less" (spLess K) []) (c_corner_of : Cal P w K mg base 11 "corner_of" (spCorner K) []) : Cal P w K mg base 13 "holding" (spHold K) [] := by
  refine mk_cal (k := 12) T 25 rfl rfl sc_holding (fun _ _ _ _ _ _ us hl => match us, hl with | [_, _], _ => rfl) (fun vs H Q E h => ?_) (fun f cdv A outer s H vs Q E hr h => ?_)
  · obtain ⟨n, v, x, t, ws, lot, rfl, _⟩ := h
    rfl
  · obtain ⟨n, v, x, t, ws, lot, rfl, hR, hX, hn, hW, hfind, q⟩ := h
    refine ⟨_, (pss_cons (ps_expr (pe_c c_check_wishes hr (by first | decide | omega) rfl (pa_cons (pv 0) (pa_cons (pv 1) pa_nil))))
      (pss_cons (ps_set (i := 2) sc_holding.nd rfl (Or.inl rfl) (pe_c c_outcome_of hr (by first | decide | omega) rfl (pa_cons (pv 0) (pa_cons (pv 1) pa_nil))))
      (pss_cons (ps_set (i := 3) sc_holding.nd rfl (Or.inr rfl) (pe_c c_wishing hr (by first | decide | omega) rfl (pa_cons (pv 1) (pa_cons (pv 2) pa_nil))))
      (pss_cons (ps_for PassesOwn.never rfl (pi_list (pe_c c_all_lots hr (by first | decide | omega) rfl (pa_cons (pe_fld (pv 0) rfl) pa_nil))) (pg_name (i := 4) sc_holding.nd rfl (Or.inl rfl)) (pss_one (ps_if (PW.pt (pw_and (pt_val (pe_callB (allK K rfl) rfl T.b_all (by decide +kernel) (pa_cons (pe_lc (own := [("person", 5)]) (g := (gName 5)) rfl sc_holding.nd (pi_tup (pv 4)) (blkOk_by (own := [("person", 5)]) (N := ["rule", "wishes", "number", "able", "lot", "person"]) (sc := defScope zholding) (by decide +kernel)) (fun _ _ _ _ _ => (pg_name (i := 5) sc_holding.nd rfl (Or.inl rfl))) (fun _ _ _ _ _ => pts_nil) (fun _ _ _ _ _ => (pe_cmpR (inS K) (pv 5) (pv 3) rfl))) pa_nil))) (pw_and1 (pt_not (pt_val (pe_c c_is_less hr (by first | decide | omega) rfl (pa_cons (pe_c c_corner_of hr (by first | decide | omega) rfl (pa_cons (pv 0) (pa_cons (pv 4) pa_nil))) (pa_cons (pv 2) pa_nil)))))))) (pss_one (ps_ret (pv 4))) pss_nil)))
      (pss_one (ps_ret pe_non)))))), ?_⟩
    have h1 := hR.p1
    have h6 := hR.p6
    obtain ⟨u, hRu, hT⟩ := hR.ex
    obtain ⟨a, dx, rfl, hA⟩ := hRu
    have bO := pOut_bt hR.wf hR.ct hW
    refine ⟨_, rfl, _, rfl, .ref a, x, n, u, ws, rfl, ⟨a, dx, rfl, hA⟩, hX, hn, by omega, fun f hf => (hW.2 f hf).1, fun H1 r1 s1 e1 => ?_⟩
    refine ⟨_, rfl, _, rfl, n, .ref a, x, t, ws, rfl, hR.same s1, hX.keep (Same.keepT s1), hn, hW, fun H2 r2 s2 hO => ?_⟩
    have s12 := s1.trans s2
    refine ⟨_, rfl, _, rfl, x, r2, ws, _, rfl, hX.keep (Same.keepT s12), hW, hO, bO, fun H3 r3 s3 hAb => ?_⟩
    have s13 := s12.trans s3
    rw [hn] at hAb
    refine ⟨_, rfl, a, _, dx, _, _, rfl, s13 _ _ hA, T.clR, T.nPe, rf_people n u, n, rfl, h1, h6, fun H4 r4 s4 hLs => ?_⟩
    obtain ⟨L, ls, rfl, hL, rL⟩ := hLs
    have s14 := s13.trans s4
    refine ⟨L, rfl, ⟨_, hL⟩, for_list (K := K) (a := L) (xs := ls) (fun i σ H' => ∃ x1, σ = [some (.ref a), some x, some r2, some r3, x1, none] ∧ Same H4 H' ∧ ∀ (j : Nat) (l : Lot), j < i → (AL n)[j]? = some l → upB n 6 t ws (pOut n 6 t ws) l = false)
      ⟨none, rfl, Same.refl _, fun j l hj => absurd hj (Nat.not_lt_zero _)⟩ (fun i σ H' _ ⟨_, _, s, _⟩ => s.seq hL) ?_ ?_⟩
    · rintro i y σ H5 hy ⟨x1, rfl, s5, hno⟩
      obtain ⟨l, hl, c, rfl, hc⟩ := rL.get hy
      have hlp : ∀ p ∈ l, p < n := fun p hp => al_lt h1 h6 hl hp
      have hll := al_len h1 h6 hl
      have s15 := s14.trans s5
      have hc5 : SqT K H5 c (lotV l) := Same.keepT s5 c _ hc
      have hAb5 := hAb.keep (Same.keepT (s4.trans s5) : KeepT K H3 H5)
      obtain ⟨ab, rfl, hab⟩ := hAb5
      refine ⟨_, rfl, c, rfl, ⟨_, hc5⟩, fun D hD => ?_⟩
      refine lc_map (K := K) (walk_tup (K := K) (a := c) (xs := lotV l)) (fun i _ y => ∃ p, l[i]? = some p ∧ y = V.bl ((wsh n ws (pOut n 6 t ws)).contains p)) hD (by rw [lotV_len]; exact small1000 (by omega)) (fun H1 s => Same.keepT s c _ hc5) (fun _ _ _ _ _ r => r) ?_ ?_
      · rintro j z H6 H7 hj s6 ⟨rfl, hz⟩ Q' N qq
        obtain ⟨p, hp, rfl⟩ := lotV_of hz
        refine ⟨rfl, _, rfl, _, rfl, ab, _, rfl, .inr (Same.keepT s6 ab _ hab), rfl, lotV_flat _, qq _ _ (Same.refl _) ⟨p, hp, ?_⟩⟩
        show V.bl (inV (V.int (p : Nat)) (lotV _)) = _
        rw [lotV_in]
      · intro H6 us s6 hus lus fus
        have eu := flagsL (by rw [lotV_len] at lus; exact lus) fus
        refine ⟨D, _, rfl, SqL.of (eu ▸ hus), _, rfl, ?_⟩
        have ea : (l.map fun p => (wsh n ws (pOut n 6 t ws)).contains p).all id = l.all fun p => !fLess (wi ws p) (pOut n 6 t ws) := by
          rw [all_id]
          exact all_congr fun p hp => wsh_in (hlp p hp)
        rw [ea]
        cases ca : l.all fun p => !fLess (wi ws p) (pOut n 6 t ws) with
        | false =>
          refine iteF (iteF ⟨_, rfl, s5.trans s6, fun j l' hj hl' => ?_⟩)
          by_cases ej : j = i
          · subst ej
            rw [hl] at hl'
            rw [← Option.some.inj hl']
            unfold upB
            rw [ca] <;> rfl
          · exact hno j l' (by omega) hl'
        | true =>
          have s16 := s15.trans s6
          refine iteT ⟨_, rfl, _, rfl, n, .ref a, .ref c, t, l, rfl, hR.same s16, ⟨c, rfl, Same.keepT s6 c _ hc5⟩, fun H7 r7 s7 h7 => ?_⟩
          have s27 := (((s3.trans s4).trans s5).trans s6).trans s7
          refine ⟨_, rfl, r7, r2, _, _, rfl, h7, hO.keep (Same.keepT s27), corn_bt hR.wf hR.ct _, bO, _, rfl, ?_⟩
          cases cb : fLess (corn n 6 t l) (pOut n 6 t ws) with
          | true =>
            refine iteF ⟨_, rfl, (s5.trans s6).trans s7, fun j l' hj hl' => ?_⟩
            by_cases ej : j = i
            · subst ej
              rw [hl] at hl'
              rw [← Option.some.inj hl']
              unfold upB
              rw [ca, cb] <;> rfl
            · exact hno j l' (by omega) hl'
          | false =>
            have up : upB n 6 t ws (pOut n 6 t ws) l = true := by
              unfold upB
              rw [ca, cb] <;> rfl
            have el := first_found hfind hl up hno
            subst el
            exact iteT ⟨_, rfl, q _ _ (s16.trans s7) ⟨c, rfl, Same.keepT (s6.trans s7) c _ hc5⟩⟩
    · rintro σ H5 ⟨x1, rfl, s5, hno⟩
      rw [rL.len] at hno
      exact (none_found hfind hno).elim
theorem sc_pressing : FnScope ["rule", "wishes", "number", "barred", "lot", "others", "person"] ["rule", "wishes"] (defScope zpressing) := ⟨rfl, rfl, rfl, by decide +kernel, rfl, by decide +kernel, by decide +kernel⟩
theorem ok_pressing (T : Tx K mg) (c_check_wishes : Cal P w K mg base 5 "check_wishes" (spCheck K) []) (c_outcome_of : Cal P w K mg base 12 "outcome_of" (spOutcome K) []) (c_wishing_more : Cal P w K mg base 2 "wishing_more" (spWishM K) []) (c_all_lots : Cal P w K mg base 1 "all_lots" (spLots K) []) (c_is_less : Cal P w K mg base 1 "is_less" (spLess K) []) (c_corner_of : Cal P w K mg base 11 "corner_of" (spCorner K) []) : Cal P w K mg base 13 "pressing" (spPress K) [] := by
  refine mk_cal (k := 12) T 26 rfl rfl sc_pressing (fun _ _ _ _ _ _ us hl => match us, hl with | [_, _], _ => rfl) (fun vs H Q E h => ?_) (fun f cdv A outer s H vs Q E hr h => ?_)
  · obtain ⟨n, v, x, t, ws, lot, rfl, _⟩ := h
    rfl
  · obtain ⟨n, v, x, t, ws, lot, rfl, hR, hX, hn, hW, hfind, q⟩ := h
    refine ⟨_, (pss_cons (ps_expr (pe_c c_check_wishes hr (by first | decide | omega) rfl (pa_cons (pv 0) (pa_cons (pv 1) pa_nil))))
      (pss_cons (ps_set (i := 2) sc_pressing.nd rfl (Or.inl rfl) (pe_c c_outcome_of hr (by first | decide | omega) rfl (pa_cons (pv 0) (pa_cons (pv 1) pa_nil))))
      (pss_cons (ps_set (i := 3) sc_pressing.nd rfl (Or.inr rfl) (pe_c c_wishing_more hr (by first | decide | omega) rfl (pa_cons (pv 1) (pa_cons (pv 2) pa_nil))))
      (pss_cons (ps_for PassesOwn.never rfl (pi_list (pe_c c_all_lots hr (by first | decide | omega) rfl (pa_cons (pe_fld (pv 0) rfl) pa_nil))) (pg_name (i := 4) sc_pressing.nd rfl (Or.inr rfl)) (pss_cons (ps_set (i := 5) sc_pressing.nd rfl (Or.inl rfl) (pe_callTy (tupO K) rfl T.b_tuple (by decide +kernel) (pa_cons (pe_lc (own := [("person", 6)]) (g := (gName 6)) rfl sc_pressing.nd (pi_range1 rfl T.b_range (pa_cons (pe_fld (pv 0) rfl) pa_nil)) (blkOk_by (own := [("person", 6)]) (N := ["rule", "wishes", "number", "barred", "lot", "others", "person"]) (sc := defScope zpressing) (by decide +kernel)) (fun _ _ _ _ _ => (pg_name (i := 6) sc_pressing.nd rfl (Or.inl rfl))) (fun _ _ _ _ _ => (pts_one (pt_cmpR (ninS K) (pv 6) (pv 4) rfl))) (fun _ _ _ _ _ => (pv 6))) pa_nil)))
      (pss_one (ps_if (PW.pt (pw_and (pt_not (pt_val (pe_callB (anyK K rfl) rfl T.b_any (by decide +kernel) (pa_cons (pe_lc (own := [("person", 6)]) (g := (gName 6)) rfl sc_pressing.nd (pi_tup (pv 4)) (blkOk_by (own := [("person", 6)]) (N := ["rule", "wishes", "number", "barred", "lot", "others", "person"]) (sc := defScope zpressing) (by decide +kernel)) (fun _ _ _ _ _ => (pg_name (i := 6) sc_pressing.nd rfl (Or.inl rfl))) (fun _ _ _ _ _ => pts_nil) (fun _ _ _ _ _ => (pe_cmpR (inS K) (pv 6) (pv 3) rfl))) pa_nil)))) (pw_and1 (pt_not (pt_val (pe_c c_is_less hr (by first | decide | omega) rfl (pa_cons (pv 2) (pa_cons (pe_c c_corner_of hr (by first | decide | omega) rfl (pa_cons (pv 0) (pa_cons (pv 5) pa_nil))) pa_nil)))))))) (pss_one (ps_ret (pv 4))) pss_nil))))
      (pss_one (ps_ret pe_non)))))), ?_⟩
    have h1 := hR.p1
    have h6 := hR.p6
    obtain ⟨u, hRu, hT⟩ := hR.ex
    obtain ⟨a, dx, rfl, hA⟩ := hRu
    have bO := pOut_bt hR.wf hR.ct hW
    have hn62 : (n : Int) < 2 ^ 62 := by
      have : (6 : Int) < 2 ^ 62 := by decide
      omega
    have hn62' : -(2 ^ 62) ≤ (n : Int) := by
      have : -(2 ^ 62) ≤ (0 : Int) := by decide
      omega
    refine ⟨_, rfl, _, rfl, .ref a, x, n, u, ws, rfl, ⟨a, dx, rfl, hA⟩, hX, hn, by omega, fun f hf => (hW.2 f hf).1, fun H1 r1 s1 e1 => ?_⟩
    refine ⟨_, rfl, _, rfl, n, .ref a, x, t, ws, rfl, hR.same s1, hX.keep (Same.keepT s1), hn, hW, fun H2 r2 s2 hO => ?_⟩
    have s12 := s1.trans s2
    refine ⟨_, rfl, _, rfl, x, r2, ws, _, rfl, hX.keep (Same.keepT s12), hW, hO, bO, fun H3 r3 s3 hAb => ?_⟩
    have s13 := s12.trans s3
    rw [hn] at hAb
    refine ⟨_, rfl, a, _, dx, _, _, rfl, s13 _ _ hA, T.clR, T.nPe, rf_people n u, n, rfl, h1, h6, fun H4 r4 s4 hLs => ?_⟩
    obtain ⟨L, ls, rfl, hL, rL⟩ := hLs
    have s14 := s13.trans s4
    refine ⟨L, rfl, ⟨_, hL⟩, for_list (K := K) (a := L) (xs := ls) (fun i σ H' => ∃ x1 x2, σ = [some (.ref a), some x, some r2, some r3, x1, x2, none] ∧ Same H4 H' ∧ ∀ (j : Nat) (l : Lot), j < i → (AL n)[j]? = some l → dnB n 6 t ws (pOut n 6 t ws) l = false)
      ⟨none, none, rfl, Same.refl _, fun j l hj => absurd hj (Nat.not_lt_zero _)⟩ (fun i σ H' _ ⟨_, _, _, s, _⟩ => s.seq hL) ?_ ?_⟩
    · rintro i y σ H5 hy ⟨x1, x2, rfl, s5, hno⟩
      obtain ⟨l, hl, c, rfl, hc⟩ := rL.get hy
      have hlp : ∀ p ∈ l, p < n := fun p hp => al_lt h1 h6 hl hp
      have hll := al_len h1 h6 hl
      have s15 := s14.trans s5
      have hc5 : SqT K H5 c (lotV l) := Same.keepT s5 c _ hc
      -- the others
      refine ⟨_, rfl, a, _, dx, _, _, rfl, s15 _ _ hA, T.clR, T.nPe, rf_people n u, n, rfl, hn62', hn62, fun D0 hD0 => ?_⟩
      refine lc_gen (K := K) (walk_range (lo := 0) (n := n)) (fun _ => False) (fun _ => True) (fun p => !l.contains p) (fun p _ y => y = V.int (p : Nat)) hD0 (fun z => z) (len60 (by omega)) (fun _ _ _ z => z.elim) (fun _ _ => trivial) trivial (fun _ _ _ => trivial) (fun _ _ _ _ _ r => r) ?_ ?_
      · rintro p z H0 H6 hp k6 _ ⟨rfl, rfl⟩ Q' N qq nn
        have ep : V.int (0 + (p : Int)) = V.int (p : Nat) := by rw [Int.zero_add]
        refine ⟨rfl, _, rfl, _, rfl, c, _, rfl, .inr (Same.keepT k6.same c _ hc5), rfl, lotV_flat l, _, rfl, ?_⟩
        show if (!inV (V.int (0 + (p : Int))) (lotV l)) = true then _ else _
        rw [ep, lotV_in]
        cases cc : l.contains p with
        | true => exact iteF (nn _ (by rw [cc]; rfl) Kq.refl trivial)
        | false => exact iteT ⟨_, rfl, qq _ _ (by rw [cc]; rfl) Kq.refl trivial ep⟩
      intro H6 os k6 _ hos ha
      have s6 := k6.same
      have eo : os = lotV (othersOf n l) := lotV_filter ha
      refine ⟨D0, os, rfl, .inl ⟨SqL.of hos, fun t6 ht6 => ?_⟩⟩
      have s7 := same_new ht6 (.tup os)
      have hOth : LtAt K (upd H6 t6 (.tup os)) (.ref t6) (othersOf n l) := ⟨t6, rfl, by rw [← eo]; exact SqT.of upd_same⟩
      have s57 := s6.trans s7
      have hc7 : SqT K _ c (lotV l) := Same.keepT s57 c _ hc5
      have hAb7 := hAb.keep (Same.keepT ((s4.trans s5).trans s57) : KeepT K H3 _)
      obtain ⟨ab, rfl, hab⟩ := hAb7
      refine ⟨_, rfl, c, rfl, ⟨_, hc7⟩, fun D hD => ?_⟩
      refine lc_map (K := K) (walk_tup (K := K) (a := c) (xs := lotV l)) (fun i _ y => ∃ p, l[i]? = some p ∧ y = V.bl ((wmo n ws (pOut n 6 t ws)).contains p)) hD (by rw [lotV_len]; exact small1000 (by omega)) (fun H1 s => Same.keepT s c _ hc7) (fun _ _ _ _ _ r => r) ?_ ?_
      · rintro j z H8 H9 hj s8 ⟨rfl, hz⟩ Q' N qq
        obtain ⟨p, hp, rfl⟩ := lotV_of hz
        refine ⟨rfl, _, rfl, _, rfl, ab, _, rfl, .inr (Same.keepT s8 ab _ hab), rfl, lotV_flat _, qq _ _ (Same.refl _) ⟨p, hp, ?_⟩⟩
        show V.bl (inV (V.int (p : Nat)) (lotV _)) = _
        rw [lotV_in]
      · intro H8 us s8 hus lus fus
        have eu := flagsL (by rw [lotV_len] at lus; exact lus) fus
        refine ⟨D, _, rfl, SqL.of (eu ▸ hus), _, rfl, ?_⟩
        have ea : (l.map fun p => (wmo n ws (pOut n 6 t ws)).contains p).any id = !(l.all fun p => !fLess (pOut n 6 t ws) (wi ws p)) := by
          have e1 : (!(l.any fun p => (wmo n ws (pOut n 6 t ws)).contains p)) = l.all fun p => !fLess (pOut n 6 t ws) (wi ws p) := by
            rw [any_not]
            exact all_congr fun p hp => by rw [wmo_in (hlp p hp)]
          rw [any_id, ← e1, Bool.not_not]
        rw [ea]
        have s58 := (s5.trans s57).trans s8
        cases ca : l.all fun p => !fLess (pOut n 6 t ws) (wi ws p) with
        | false =>
          refine iteF (iteF ⟨_, _, rfl, s58, fun j l' hj hl' => ?_⟩)
          by_cases ej : j = i
          · subst ej
            rw [hl] at hl'
            rw [← Option.some.inj hl']
            unfold dnB
            rw [ca] <;> rfl
          · exact hno j l' (by omega) hl'
        | true =>
          have s18 := s14.trans s58
          refine iteT ⟨_, rfl, _, rfl, _, rfl, n, .ref a, .ref t6, t, othersOf n l, rfl, hR.same s18, hOth.keep (Same.keepT s8), fun H9 r9 s9 h9 => ?_⟩
          have s29 := ((s3.trans s4).trans s58).trans s9
          refine ⟨r2, r9, _, _, rfl, hO.keep (Same.keepT s29), h9, bO, corn_bt hR.wf hR.ct _, _, rfl, ?_⟩
          cases cb : fLess (pOut n 6 t ws) (corn n 6 t (othersOf n l)) with
          | true =>
            refine iteF ⟨_, _, rfl, s58.trans s9, fun j l' hj hl' => ?_⟩
            by_cases ej : j = i
            · subst ej
              rw [hl] at hl'
              rw [← Option.some.inj hl']
              unfold dnB
              rw [ca, cb] <;> rfl
            · exact hno j l' (by omega) hl'
          | false =>
            have up : dnB n 6 t ws (pOut n 6 t ws) l = true := by
              unfold dnB
              rw [ca, cb] <;> rfl
            have el := first_found hfind hl up hno
            subst el
            exact iteT ⟨_, rfl, q _ _ (s18.trans s9) ⟨c, rfl, Same.keepT (s8.trans s9) c _ hc7⟩⟩
    · rintro σ H5 ⟨x1, x2, rfl, s5, hno⟩
      rw [rL.len] at hno
      exact (none_found hfind hno).elim
end
end Cb
namespace Cb
open PySem PySem.Spec PyProof.Rows L2
open C8 (Cal Mak pe_c pe_mk pe_gc)
section
variable {P : Program} {w : World} {K : PySem.W.Frag} {mg : Str → Option Value} {base : Heap}
def spAreParts (K : PySem.W.Frag) : Sp := fun vs H Q _ => ∃ (a : Addr) (us : List V), vs = [.ref a] ∧ SqT K H a us ∧ 1 ≤ us.length ∧ us.length ≤ 6 ∧ Q (.bl true) H
theorem sc_are_parts : FnScope ["thing"] ["thing"] (defScope zare_parts) := ⟨rfl, rfl, rfl, by decide +kernel, rfl, by decide +kernel, by decide +kernel⟩
theorem ok_are_parts (T : Tx K mg)  : Cal P w K mg base 1 "are_parts" (spAreParts K) [] := by
  refine mk_cal (k := 0) T 27 rfl rfl sc_are_parts (fun _ _ _ _ _ _ us hl => match us, hl with | [_], _ => rfl) (fun vs H Q E h => ?_) (fun f cdv A outer s H vs Q E hr h => ?_)
  · obtain ⟨a, us, rfl, _⟩ := h
    rfl
  · obtain ⟨a, us, rfl, hA, h1, h6, q⟩ := h
    refine ⟨_, (pss_one (ps_ret (pe_and (pe_callB (isiK K) rfl T.b_isinstance (by decide +kernel) (pa_cons (pv 0) (pa_cons (pe_bltn (v := .ty "tuple") rfl T.b_tuple (by decide +kernel) rfl) pa_nil))) (pe_one (pe_chain op_le op_le pe_int (pe_callB (lenS K) rfl T.b_len (by decide +kernel) (pa_cons (pv 0) pa_nil)) (pe_gc rfl T.MOST_PARTS)))))), ?_⟩
    refine ⟨_, rfl, _, _, _, _, true, rfl, .ty _, tyTup hA, kit_ty (by decide +kernel), true, rfl, iteT ?_⟩
    refine ⟨_, rfl, a, _, rfl, .inr hA, _, _, rfl, rfl, _, rfl, ifT (by omega) ⟨_, _, rfl, rfl, ?_⟩⟩
    have e : decide (((us.length : Nat) : Int) ≤ 8) = true := decide_eq_true (by omega)
    show Q (V.bl (decide (((us.length : Nat) : Int) ≤ 8))) H
    rw [e]
    exact q
def spIsW (K : PySem.W.Frag) : Sp := fun vs H Q _ => ∃ (c : Addr) (w : Int) (x : V), vs = [.ref c] ∧ SqT K H c [.int w, x] ∧ 1 ≤ w ∧ w ≤ 99 ∧ Q (.bl true) H
theorem sc_is_weighted : FnScope ["thing"] ["thing"] (defScope zis_weighted) := ⟨rfl, rfl, rfl, by decide +kernel, rfl, by decide +kernel, by decide +kernel⟩
theorem ok_is_weighted (T : Tx K mg) (c_is_within : Cal P w K mg base 2 "is_within" spWithin []) : Cal P w K mg base 3 "is_weighted" (spIsW K) [] := by
  refine mk_cal (k := 2) T 28 rfl rfl sc_is_weighted (fun _ _ _ _ _ _ us hl => match us, hl with | [_], _ => rfl) (fun vs H Q E h => ?_) (fun f cdv A outer s H vs Q E hr h => ?_)
  · obtain ⟨c, w, x, rfl, _⟩ := h
    rfl
  · obtain ⟨c, w, x, rfl, hC, h1, h2, q⟩ := h
    refine ⟨_, (pss_one (ps_ret (pe_and (pe_callB (isiK K) rfl T.b_isinstance (by decide +kernel) (pa_cons (pv 0) (pa_cons (pe_bltn (v := .ty "tuple") rfl T.b_tuple (by decide +kernel) rfl) pa_nil))) (pe_and (pe_cmpR op_eq (pe_callB (lenS K) rfl T.b_len (by decide +kernel) (pa_cons (pv 0) pa_nil)) pe_int (nomark _)) (pe_one (pe_c c_is_within hr (by first | decide | omega) rfl (pa_cons (pe_ix (ixT K) (pv 0) pe_int (fun _ _ => rfl)) (pa_cons pe_int (pa_cons (pe_gc rfl T.MOST_WEIGHT) pa_nil))))))))), ?_⟩
    refine ⟨_, rfl, _, _, _, _, true, rfl, .ty _, tyTup hC, kit_ty (by decide +kernel), true, rfl, iteT ?_⟩
    refine ⟨_, rfl, c, _, rfl, .inr hC, rfl, true, rfl, iteT ?_⟩
    refine ⟨_, rfl, c, _, 0, _, rfl, rfl, hC, rfl, w, 1, 99, rfl, ?_⟩
    rw [decide_eq_true h1, decide_eq_true h2]
    exact q
def spIsBound (K : PySem.W.Frag) : Sp := fun vs H Q _ => ∃ (a : Addr) (x y z : V) (lo hi : Fr), vs = [.ref a] ∧ SqT K H a [.str "between", x, y, z] ∧ FrAt K H x lo ∧ FrAt K H y hi ∧ Num lo ∧ Num hi ∧ Bt 20 lo ∧ Bt 20 hi ∧ fLe lo hi ∧ Ret H Q (fun _ r => r = .bl true)
theorem sc_is_bound : FnScope ["thing"] ["thing"] (defScope zis_bound) := ⟨rfl, rfl, rfl, by decide +kernel, rfl, by decide +kernel, by decide +kernel⟩
theorem ok_is_bound (T : Tx K mg) (c_is_less : Cal P w K mg base 1 "is_less" (spLess K) []) (c_is_number : Cal P w K mg base 3 "is_number" (spIsNum K) []) : Cal P w K mg base 4 "is_bound" (spIsBound K) [] := by
  refine mk_cal (k := 3) T 29 rfl rfl sc_is_bound (fun _ _ _ _ _ _ us hl => match us, hl with | [_], _ => rfl) (fun vs H Q E h => ?_) (fun f cdv A outer s H vs Q E hr h => ?_)
  · obtain ⟨a, x, y, z, lo, hi, rfl, _⟩ := h
    rfl
  · obtain ⟨a, x, y, z, lo, hi, rfl, hA, hx, hy, n1, n2, b1, b2, hle, q⟩ := h
    refine ⟨_, (pss_cons (ps_if (PW.pt (pw_or (pt_cmpR op_ne (pe_callB (lenS K) rfl T.b_len (by decide +kernel) (pa_cons (pv 0) pa_nil)) pe_int (nomark _)) (pw_or (pt_not (pt_val (pe_c c_is_number hr (by first | decide | omega) rfl (pa_cons (pe_ix (ixT K) (pv 0) pe_int (fun _ _ => rfl)) pa_nil)))) (pw_or1 (pt_not (pt_val (pe_c c_is_number hr (by first | decide | omega) rfl (pa_cons (pe_ix (ixT K) (pv 0) pe_int (fun _ _ => rfl)) pa_nil)))))))) (pss_one (ps_ret pe_bl)) pss_nil)
      (pss_one (ps_ret (pe_not (pe_c c_is_less hr (by first | decide | omega) rfl (pa_cons (pe_ix (ixT K) (pv 0) pe_int (fun _ _ => rfl)) (pa_cons (pe_ix (ixT K) (pv 0) pe_int (fun _ _ => rfl)) pa_nil))))))), ?_⟩
    refine ⟨_, rfl, a, _, rfl, .inr hA, rfl, _, rfl, iteNS rfl ?_⟩
    refine ⟨_, rfl, a, _, 1, _, rfl, rfl, hA, rfl, x, lo, rfl, hx, n1, fun H1 r1 s1 e1 => ?_⟩
    subst e1
    have k1 : KeepT K H H1 := Same.keepT s1
    refine ⟨true, rfl, iteF ?_⟩
    refine ⟨_, rfl, a, _, 2, _, rfl, rfl, k1 _ _ hA, rfl, y, hi, rfl, hy.keep k1, n2, fun H2 r2 s2 e2 => ?_⟩
    subst e2
    have k2 : KeepT K H H2 := Same.keepT (s1.trans s2)
    refine ⟨true, rfl, iteF ?_⟩
    refine ⟨_, rfl, a, _, 2, _, rfl, rfl, k2 _ _ hA, rfl, _, rfl, a, _, 1, _, rfl, rfl, k2 _ _ hA, rfl, y, x, hi, lo, rfl, hy.keep k2, hx.keep k2, b2.mono (by decide), b1.mono (by decide), _, rfl, q _ _ (s1.trans s2) ?_⟩
    rw [less_false.mpr hle]
    rfl
/-! ### the parts of a term -/
def isLeaf : Tm → Bool
  | .bid _ => true
  | .fixed _ => true
  | _ => false
def partsOf : Tm → List Tm
  | .mean ps => ps.map (·.2)
  | .least ts => ts
  | .greatest ts => ts
  | .ranked _ ts => ts
  | .between _ _ t => [t]
  | _ => []
theorem no_l_in : inV (V.str "least") [V.str "least", V.str "greatest"] = true := by decide +kernel
theorem no_g_in : inV (V.str "greatest") [V.str "least", V.str "greatest"] = true := by decide +kernel
theorem no_r_in : inV (V.str "ranked") [V.str "least", V.str "greatest"] = false := by decide +kernel
theorem no_w_in : inV (V.str "between") [V.str "least", V.str "greatest"] = false := by decide +kernel
theorem no_w_r : ¬ (V.str "between" = V.str "ranked") := by decide +kernel
def spParts (K : PySem.W.Frag) : Sp := fun vs H Q _ => ∃ (people n : Nat) (v : V) (t : Tm), vs = [v] ∧ TmAt K H (n + 1) v t ∧ Wf people (n + 1) t ∧ isLeaf t = false ∧ Ret H Q (fun H' r => ∃ a us, r = .ref a ∧ SqL K H' a us ∧ All2 (fun u t => TmAt K H' n u t) us (partsOf t))
theorem sc_parts_told : FnScope ["thing", "word", "part"] ["thing"] (defScope zparts_told) := ⟨rfl, rfl, rfl, by decide +kernel, rfl, by decide +kernel, by decide +kernel⟩
theorem ok_parts_told (T : Tx K mg) (c_are_parts : Cal P w K mg base 1 "are_parts" (spAreParts K) []) (c_is_bound : Cal P w K mg base 4 "is_bound" (spIsBound K) []) (c_is_within : Cal P w K mg base 2 "is_within" spWithin []) (c_is_weighted : Cal P w K mg base 3 "is_weighted" (spIsW K) []) : Cal P w K mg base 5 "parts_told" (spParts K) [] := by
  refine mk_cal (k := 4) T 30 rfl rfl sc_parts_told (fun _ _ _ _ _ _ us hl => match us, hl with | [_], _ => rfl) (fun vs H Q E h => ?_) (fun f cdv A outer s H vs Q E hr h => ?_)
  · obtain ⟨people, n, v, t, rfl, _⟩ := h
    rfl
  · obtain ⟨people, n, v, t, rfl, hT, hW, hN, q⟩ := h
    refine ⟨_, (pss_cons (ps_set (i := 1) sc_parts_told.nd rfl (Or.inl rfl) (pe_ix (ixT K) (pv 0) pe_int (fun _ _ => rfl)))
      (pss_cons (ps_if (PW.pt (pw_and (pt_cmpR op_eq (pv 1) pe_str (nomark _)) (pw_and (pt_cmpR op_eq (pe_callB (lenS K) rfl T.b_len (by decide +kernel) (pa_cons (pv 0) pa_nil)) pe_int (nomark _)) (pw_and1 (pt_val (pe_c c_are_parts hr (by first | decide | omega) rfl (pa_cons (pe_ix (ixT K) (pv 0) pe_int (fun _ _ => rfl)) pa_nil))))))) (pss_one (ps_ret (pe_ifExp (pt_val (pe_callB (allK K rfl) rfl T.b_all (by decide +kernel) (pa_cons (pe_lc (own := [("part", 2)]) (g := (gName 2)) rfl sc_parts_told.nd (pi_tup (pe_ix (ixT K) (pv 0) pe_int (fun _ _ => rfl))) (blkOk_by (own := [("part", 2)]) (N := ["thing", "word", "part"]) (sc := defScope zparts_told) (by decide +kernel)) (fun _ _ _ _ _ => (pg_name (i := 2) sc_parts_told.nd rfl (Or.inl rfl))) (fun _ _ _ _ _ => pts_nil) (fun _ _ _ _ _ => (pe_c c_is_weighted hr (by first | decide | omega) rfl (pa_cons (pv 2) pa_nil)))) pa_nil))) (pe_lc (own := [("part", 2)]) (g := (gName 2)) rfl sc_parts_told.nd (pi_tup (pe_ix (ixT K) (pv 0) pe_int (fun _ _ => rfl))) (blkOk_by (own := [("part", 2)]) (N := ["thing", "word", "part"]) (sc := defScope zparts_told) (by decide +kernel)) (fun _ _ _ _ _ => (pg_name (i := 2) sc_parts_told.nd rfl (Or.inl rfl))) (fun _ _ _ _ _ => pts_nil) (fun _ _ _ _ _ => (pe_ix (ixT K) (pv 2) pe_int (fun _ _ => rfl)))) pe_non))) pss_nil)
      (pss_cons (ps_if (PW.pt (pw_and (pt_cmpR (inS K) (pv 1) (pe_tup (pa_cons pe_str (pa_cons pe_str pa_nil))) rfl) (pw_and (pt_cmpR op_eq (pe_callB (lenS K) rfl T.b_len (by decide +kernel) (pa_cons (pv 0) pa_nil)) pe_int (nomark _)) (pw_and1 (pt_val (pe_c c_are_parts hr (by first | decide | omega) rfl (pa_cons (pe_ix (ixT K) (pv 0) pe_int (fun _ _ => rfl)) pa_nil))))))) (pss_one (ps_ret (pe_callTy (lstO K) rfl T.b_list (by decide +kernel) (pa_cons (pe_ix (ixT K) (pv 0) pe_int (fun _ _ => rfl)) pa_nil)))) pss_nil)
      (pss_cons (ps_if (PW.pt (pw_and (pt_cmpR op_eq (pv 1) pe_str (nomark _)) (pw_and (pt_cmpR op_eq (pe_callB (lenS K) rfl T.b_len (by decide +kernel) (pa_cons (pv 0) pa_nil)) pe_int (nomark _)) (pw_and1 (pt_val (pe_c c_are_parts hr (by first | decide | omega) rfl (pa_cons (pe_ix (ixT K) (pv 0) pe_int (fun _ _ => rfl)) pa_nil))))))) (pss_one (ps_ret (pe_ifExp (pt_val (pe_c c_is_within hr (by first | decide | omega) rfl (pa_cons (pe_ix (ixT K) (pv 0) pe_int (fun _ _ => rfl)) (pa_cons pe_int (pa_cons (pe_callB (lenS K) rfl T.b_len (by decide +kernel) (pa_cons (pe_ix (ixT K) (pv 0) pe_int (fun _ _ => rfl)) pa_nil)) pa_nil))))) (pe_callTy (lstO K) rfl T.b_list (by decide +kernel) (pa_cons (pe_ix (ixT K) (pv 0) pe_int (fun _ _ => rfl)) pa_nil)) pe_non))) pss_nil)
      (pss_cons (ps_if (PW.pt (pw_and (pt_cmpR op_eq (pv 1) pe_str (nomark _)) (pw_and1 (pt_val (pe_c c_is_bound hr (by first | decide | omega) rfl (pa_cons (pv 0) pa_nil)))))) (pss_one (ps_ret (pe_lst (pa_cons (pe_ix (ixT K) (pv 0) pe_int (fun _ _ => rfl)) pa_nil)))) pss_nil)
      (pss_one (ps_ret pe_non))))))), ?_⟩
    cases t with
    | bid p => cases hN
    | fixed f => cases hN
    | mean ps =>
      obtain ⟨a, b, us, rfl, hA, hB, hl⟩ := hT
      obtain ⟨w1, w2, w3⟩ := hW
      have hle := hl.len
      have hpos : 1 ≤ us.length := by
        have := List.length_pos_iff.mpr w1
        omega
      refine ⟨_, rfl, a, _, 0, _, rfl, rfl, hA, rfl, ?_⟩
      refine ⟨_, rfl, rfl, _, rfl, ifT rfl ⟨_, rfl, a, _, rfl, .inr hA, rfl, _, rfl, ifT rfl ⟨_, rfl, a, _, 1, _, rfl, rfl, hA, rfl, b, us, rfl, hB, hpos, by omega, _, rfl, iteT ?_⟩⟩⟩
      refine ⟨_, rfl, a, _, 1, _, rfl, rfl, hA, rfl, b, rfl, ⟨_, hB⟩, fun D hD => ?_⟩
      refine lc_map (K := K) (walk_tup (K := K) (a := b) (xs := us)) (fun _ _ y => y = .bl true) hD (len60 (by omega)) (fun H1 s => Same.keepT s b _ hB) (fun _ _ _ _ _ r => r) ?_ ?_
      · rintro i x H1 H2 hi s ⟨rfl, hx⟩ Q' N qq
        obtain ⟨p, hp, c, y, rfl, h1, h2⟩ := hl.get hx
        have hw := w3 p (List.mem_of_getElem? hp)
        exact ⟨rfl, _, rfl, c, p.1, y, rfl, Same.keepT s c _ h1, hw.1, hw.2.1, qq _ _ (Same.refl _) rfl⟩
      · intro H1 ws s1 hws lws fws
        have eu := flags (b := fun _ => true) lws fws
        refine ⟨D, _, rfl, SqL.of (eu ▸ hws), _, rfl, ?_⟩
        rw [all_true]
        have k1 : KeepT K H H1 := Same.keepT s1
        refine iteT ⟨_, rfl, a, _, 1, _, rfl, rfl, k1 _ _ hA, rfl, b, rfl, ⟨_, k1 _ _ hB⟩, fun D2 hD2 => ?_⟩
        refine lc_map (K := K) (walk_tup (K := K) (a := b) (xs := us)) (fun i H y => ∃ p, ps[i]? = some p ∧ TmAt K H n y p.2) hD2 (len60 (by omega)) (fun H2 s => Same.keepT s b _ (k1 _ _ hB)) (fun _ _ _ _ k ⟨p, hp, r⟩ => ⟨p, hp, TmAt.keep k n r⟩) ?_ ?_
        · rintro i x H2 H3 hi s ⟨rfl, hx⟩ Q' N qq
          obtain ⟨p, hp, c, y, rfl, h1, h2⟩ := hl.get hx
          have k2 : KeepT K H _ := Same.keepT (s1.trans s)
          exact ⟨rfl, _, rfl, c, _, 1, _, rfl, rfl, k2 c _ h1, rfl, qq _ _ (Same.refl _) ⟨p, hp, TmAt.keep k2 n h2⟩⟩
        · intro H2 ns s2 hns lns fns
          refine q _ _ (s1.trans s2) ⟨D2, ns, rfl, SqL.of hns, All2.of_get (by show ns.length = (ps.map (·.2)).length; rw [List.length_map]; omega) fun i y t hy ht => ?_⟩
          obtain ⟨p, hp, r⟩ := fns i y hy
          have ht' : (ps.map (·.2))[i]? = some t := ht
          rw [List.getElem?_map, hp] at ht'
          rw [← Option.some.inj ht']
          exact r
    | least ts =>
      obtain ⟨a, b, us, rfl, hA, hB, hl⟩ := hT
      obtain ⟨w1, w2, w3⟩ := hW
      have hle := hl.len
      have hpos : 1 ≤ us.length := by
        have := List.length_pos_iff.mpr w1
        omega
      refine ⟨_, rfl, a, _, 0, _, rfl, rfl, hA, rfl, ?_⟩
      refine ⟨_, rfl, rfl, _, rfl, ifF no_l_m (iteF ?_)⟩
      refine ⟨_, rfl, (by show 2 ≤ sizeLine; decide), fun p hp => ?_⟩
      have s1 := same_new hp (.tup [.str "least", .str "greatest"])
      have k1 : KeepT K H _ := Same.keepT s1
      refine ⟨p, _, rfl, .inr (SqT.of upd_same), rfl, rfl, _, rfl, ?_⟩
      show if inV (V.str "least") [V.str "least", V.str "greatest"] = true then _ else _
      rw [no_l_in]
      refine iteT ⟨_, rfl, a, _, rfl, .inr (k1 _ _ hA), rfl, _, rfl, ifT rfl ⟨_, rfl, a, _, 1, _, rfl, rfl, k1 _ _ hA, rfl, b, us, rfl, k1 _ _ hB, hpos, by omega, _, rfl, iteT ?_⟩⟩
      refine ⟨_, rfl, a, _, 1, _, rfl, rfl, k1 _ _ hA, rfl, b, us, rfl, .inr (k1 _ _ hB), fun l hl' => ?_⟩
      have s2 := same_new hl' (.lst us)
      exact q _ _ (s1.trans s2) ⟨l, us, rfl, SqL.of upd_same, hl.imp fun _ _ r => TmAt.keep (Same.keepT (s1.trans s2)) n r⟩
    | greatest ts =>
      obtain ⟨a, b, us, rfl, hA, hB, hl⟩ := hT
      obtain ⟨w1, w2, w3⟩ := hW
      have hle := hl.len
      have hpos : 1 ≤ us.length := by
        have := List.length_pos_iff.mpr w1
        omega
      refine ⟨_, rfl, a, _, 0, _, rfl, rfl, hA, rfl, ?_⟩
      refine ⟨_, rfl, rfl, _, rfl, ifF no_g_m (iteF ?_)⟩
      refine ⟨_, rfl, (by show 2 ≤ sizeLine; decide), fun p hp => ?_⟩
      have s1 := same_new hp (.tup [.str "least", .str "greatest"])
      have k1 : KeepT K H _ := Same.keepT s1
      refine ⟨p, _, rfl, .inr (SqT.of upd_same), rfl, rfl, _, rfl, ?_⟩
      show if inV (V.str "greatest") [V.str "least", V.str "greatest"] = true then _ else _
      rw [no_g_in]
      refine iteT ⟨_, rfl, a, _, rfl, .inr (k1 _ _ hA), rfl, _, rfl, ifT rfl ⟨_, rfl, a, _, 1, _, rfl, rfl, k1 _ _ hA, rfl, b, us, rfl, k1 _ _ hB, hpos, by omega, _, rfl, iteT ?_⟩⟩
      refine ⟨_, rfl, a, _, 1, _, rfl, rfl, k1 _ _ hA, rfl, b, us, rfl, .inr (k1 _ _ hB), fun l hl' => ?_⟩
      have s2 := same_new hl' (.lst us)
      exact q _ _ (s1.trans s2) ⟨l, us, rfl, SqL.of upd_same, hl.imp fun _ _ r => TmAt.keep (Same.keepT (s1.trans s2)) n r⟩
    | ranked k ts =>
      obtain ⟨a, b, us, rfl, hA, hB, hl⟩ := hT
      obtain ⟨w0, w1, w2, w3⟩ := hW
      have hle := hl.len
      refine ⟨_, rfl, a, _, 0, _, rfl, rfl, hA, rfl, ?_⟩
      refine ⟨_, rfl, rfl, _, rfl, ifF no_r_m (iteF ?_)⟩
      refine ⟨_, rfl, (by show 2 ≤ sizeLine; decide), fun p hp => ?_⟩
      have s1 := same_new hp (.tup [.str "least", .str "greatest"])
      have k1 : KeepT K H _ := Same.keepT s1
      refine ⟨p, _, rfl, .inr (SqT.of upd_same), rfl, rfl, _, rfl, ?_⟩
      show if inV (V.str "ranked") [V.str "least", V.str "greatest"] = true then _ else _
      rw [no_r_in]
      refine iteF (iteF ?_)
      refine ⟨_, rfl, rfl, _, rfl, ifT rfl ⟨_, rfl, a, _, rfl, .inr (k1 _ _ hA), rfl, _, rfl, ifT rfl ⟨_, rfl, a, _, 2, _, rfl, rfl, k1 _ _ hA, rfl, b, us, rfl, k1 _ _ hB, by omega, by omega, _, rfl, iteT ?_⟩⟩⟩
      refine ⟨_, rfl, a, _, 1, _, rfl, rfl, k1 _ _ hA, rfl, _, rfl, a, _, 2, _, rfl, rfl, k1 _ _ hA, rfl, b, us, rfl, .inr (k1 _ _ hB), k, 1, _, rfl, _, rfl, ?_⟩
      have e1 : decide ((1 : Int) ≤ (k : Int)) = true := decide_eq_true (by omega)
      have e2 : decide ((k : Int) ≤ ((us.length : Nat) : Int)) = true := decide_eq_true (by omega)
      rw [e1, e2]
      refine iteT ?_
      refine ⟨_, rfl, a, _, 2, _, rfl, rfl, k1 _ _ hA, rfl, b, us, rfl, .inr (k1 _ _ hB), fun l hl' => ?_⟩
      have s2 := same_new hl' (.lst us)
      exact q _ _ (s1.trans s2) ⟨l, us, rfl, SqL.of upd_same, hl.imp fun _ _ r => TmAt.keep (Same.keepT (s1.trans s2)) n r⟩
    | between lo hi t =>
      obtain ⟨a, x, y, z, rfl, hA, hx, hy, hz⟩ := hT
      obtain ⟨w1, w2, w3, w4, w5, w6⟩ := hW
      refine ⟨_, rfl, a, _, 0, _, rfl, rfl, hA, rfl, ?_⟩
      refine ⟨_, rfl, rfl, _, rfl, ifF no_w_m (iteF ?_)⟩
      refine ⟨_, rfl, (by show 2 ≤ sizeLine; decide), fun p hp => ?_⟩
      have s1 := same_new hp (.tup [.str "least", .str "greatest"])
      have k1 : KeepT K H _ := Same.keepT s1
      refine ⟨p, _, rfl, .inr (SqT.of upd_same), rfl, rfl, _, rfl, ?_⟩
      show if inV (V.str "between") [V.str "least", V.str "greatest"] = true then _ else _
      rw [no_w_in]
      refine iteF (iteF ?_)
      refine ⟨_, rfl, rfl, _, rfl, ifF no_w_r (iteF ?_)⟩
      refine ⟨_, rfl, rfl, _, rfl, ifT rfl ⟨_, rfl, a, x, y, z, lo, hi, rfl, k1 _ _ hA, hx.keep k1, hy.keep k1, w1, w3, w2, w4, w5, fun H2 r s2 e => ?_⟩⟩
      subst e
      have k2 : KeepT K H H2 := Same.keepT (s1.trans s2)
      refine ⟨true, rfl, iteT ⟨_, rfl, a, _, 3, _, rfl, rfl, k2 _ _ hA, rfl, (by show 1 ≤ sizeLine; decide), fun l hl' => ?_⟩⟩
      have s3 := same_new hl' (.lst [z])
      exact q _ _ ((s1.trans s2).trans s3) ⟨l, [z], rfl, SqL.of upd_same, .cons (TmAt.keep (Same.keepT ((s1.trans s2).trans s3)) n hz) .nil⟩
def spLeaf (K : PySem.W.Frag) : Sp := fun vs H Q _ => ∃ (people n : Nat) (v : V) (t : Tm), vs = [.int (people : Nat), v] ∧ TmAt K H (n + 1) v t ∧ Wf people (n + 1) t ∧ Ret H Q (fun _ r => r = .bl (isLeaf t))
theorem sc_is_leaf : FnScope ["people", "thing"] ["people", "thing"] (defScope zis_leaf) := ⟨rfl, rfl, rfl, by decide +kernel, rfl, by decide +kernel, by decide +kernel⟩
theorem ok_is_leaf (T : Tx K mg) (c_is_within : Cal P w K mg base 2 "is_within" spWithin []) (c_is_number : Cal P w K mg base 3 "is_number" (spIsNum K) []) : Cal P w K mg base 4 "is_leaf" (spLeaf K) [] := by
  refine mk_cal (k := 3) T 31 rfl rfl sc_is_leaf (fun _ _ _ _ _ _ us hl => match us, hl with | [_, _], _ => rfl) (fun vs H Q E h => ?_) (fun f cdv A outer s H vs Q E hr h => ?_)
  · obtain ⟨people, n, v, t, rfl, _⟩ := h
    rfl
  · obtain ⟨people, n, v, t, rfl, hT, hW, q⟩ := h
    refine ⟨_, (pss_cons (ps_if (pt_cmpR op_ne (pe_callB (lenS K) rfl T.b_len (by decide +kernel) (pa_cons (pv 1) pa_nil)) pe_int (nomark _)) (pss_one (ps_ret pe_bl)) pss_nil)
      (pss_one (ps_ret (pe_or (pe_and (pe_cmpR op_eq (pe_ix (ixT K) (pv 1) pe_int (fun _ _ => rfl)) pe_str (nomark _)) (pe_one (pe_c c_is_within hr (by first | decide | omega) rfl (pa_cons (pe_ix (ixT K) (pv 1) pe_int (fun _ _ => rfl)) (pa_cons pe_int (pa_cons (pe_op op_sub (pv 0) pe_int) pa_nil)))))) (pe_one (pe_and (pe_cmpR op_eq (pe_ix (ixT K) (pv 1) pe_int (fun _ _ => rfl)) pe_str (nomark _)) (pe_one (pe_c c_is_number hr (by first | decide | omega) rfl (pa_cons (pe_ix (ixT K) (pv 1) pe_int (fun _ _ => rfl)) pa_nil))))))))), ?_⟩
    cases t with
    | bid p =>
      obtain ⟨a, rfl, hA⟩ := hT
      have hp : p < people := hW
      refine ⟨_, rfl, a, _, rfl, .inr hA, rfl, _, rfl, iteNS rfl ⟨_, rfl, a, _, 0, _, rfl, rfl, hA, rfl, rfl, _, rfl, ifT rfl ?_⟩⟩
      refine ⟨_, rfl, a, _, 1, _, rfl, rfl, hA, rfl, _, rfl, _, _, rfl, rfl, _, _, _, rfl, _, rfl, ?_⟩
      have e1 : decide ((0 : Int) ≤ (p : Int)) = true := decide_eq_true (by omega)
      have e2 : decide ((p : Int) ≤ (people : Int) - 1) = true := decide_eq_true (by omega)
      rw [e1, e2]
      exact iteT (q _ _ (Same.refl _) rfl)
    | fixed f =>
      obtain ⟨a, u, rfl, hA, hu⟩ := hT
      refine ⟨_, rfl, a, _, rfl, .inr hA, rfl, _, rfl, iteNS rfl ⟨_, rfl, a, _, 0, _, rfl, rfl, hA, rfl, rfl, _, rfl, ifF no_f_b ⟨_, rfl, iteF ?_⟩⟩⟩
      exact ⟨_, rfl, a, _, 0, _, rfl, rfl, hA, rfl, rfl, _, rfl, ifT rfl ⟨_, rfl, a, _, 1, _, rfl, rfl, hA, rfl, u, f, rfl, hu, hW.1, fun H1 r s e => q _ _ s e⟩⟩
    | mean ps =>
      obtain ⟨a, b, us, rfl, hA, _⟩ := hT
      exact ⟨_, rfl, a, _, rfl, .inr hA, rfl, _, rfl, iteNS rfl ⟨_, rfl, a, _, 0, _, rfl, rfl, hA, rfl, rfl, _, rfl, ifF no_m_b ⟨_, rfl, iteF ⟨_, rfl, a, _, 0, _, rfl, rfl, hA, rfl, rfl, _, rfl, ifF no_m_f (q _ _ (Same.refl _) rfl)⟩⟩⟩⟩
    | least ts =>
      obtain ⟨a, b, us, rfl, hA, _⟩ := hT
      exact ⟨_, rfl, a, _, rfl, .inr hA, rfl, _, rfl, iteNS rfl ⟨_, rfl, a, _, 0, _, rfl, rfl, hA, rfl, rfl, _, rfl, ifF no_l_b ⟨_, rfl, iteF ⟨_, rfl, a, _, 0, _, rfl, rfl, hA, rfl, rfl, _, rfl, ifF no_l_f (q _ _ (Same.refl _) rfl)⟩⟩⟩⟩
    | greatest ts =>
      obtain ⟨a, b, us, rfl, hA, _⟩ := hT
      exact ⟨_, rfl, a, _, rfl, .inr hA, rfl, _, rfl, iteNS rfl ⟨_, rfl, a, _, 0, _, rfl, rfl, hA, rfl, rfl, _, rfl, ifF no_g_b ⟨_, rfl, iteF ⟨_, rfl, a, _, 0, _, rfl, rfl, hA, rfl, rfl, _, rfl, ifF no_g_f (q _ _ (Same.refl _) rfl)⟩⟩⟩⟩
    | ranked k ts =>
      obtain ⟨a, b, us, rfl, hA, _⟩ := hT
      exact ⟨_, rfl, a, _, rfl, .inr hA, rfl, _, rfl, iteT (q _ _ (Same.refl _) rfl)⟩
    | between lo hi t =>
      obtain ⟨a, x, y, z, rfl, hA, _⟩ := hT
      exact ⟨_, rfl, a, _, rfl, .inr hA, rfl, _, rfl, iteT (q _ _ (Same.refl _) rfl)⟩
end
end Cb
namespace Cb
open PySem PySem.Spec PyProof.Rows L2
open C8 (Cal Mak pe_c pe_mk pe_gc)
section
variable {P : Program} {w : World} {K : PySem.W.Frag} {mg : Str → Option Value} {base : Heap}
theorem TmAt.head {H : Hp} {n : Nat} {v : V} {t : Tm} (h : TmAt K H (n + 1) v t) : ∃ a s rest, v = .ref a ∧ SqT K H a (V.str s :: rest) := by
  cases t with
  | bid p => obtain ⟨a, e, q⟩ := h; exact ⟨a, _, _, e, q⟩
  | fixed f => obtain ⟨a, u, e, q, _⟩ := h; exact ⟨a, _, _, e, q⟩
  | mean ps => obtain ⟨a, b, us, e, q, _⟩ := h; exact ⟨a, _, _, e, q⟩
  | least ts => obtain ⟨a, b, us, e, q, _⟩ := h; exact ⟨a, _, _, e, q⟩
  | greatest ts => obtain ⟨a, b, us, e, q, _⟩ := h; exact ⟨a, _, _, e, q⟩
  | ranked k ts => obtain ⟨a, b, us, e, q, _⟩ := h; exact ⟨a, _, _, e, q⟩
  | between lo hi t => obtain ⟨a, x, y, z, e, q, _⟩ := h; exact ⟨a, _, _, e, q⟩
theorem cnt_leaf {n : Nat} {t : Tm} (h : isLeaf t = true) : cnt (n + 1) t = 1 := by
  cases t <;> first | rfl | cases h
theorem cnt_parts {n : Nat} {t : Tm} (h : isLeaf t = false) : cnt (n + 1) t = 1 + ((partsOf t).map (cnt n)).sum := by
  cases t with
  | bid p => cases h
  | fixed f => cases h
  | mean ps =>
    show 1 + (ps.map fun p => cnt n p.2).sum = 1 + ((ps.map (·.2)).map (cnt n)).sum
    rw [List.map_map]
    rfl
  | least ts => rfl
  | greatest ts => rfl
  | ranked k ts => rfl
  | between lo hi t =>
    show 1 + cnt n t = 1 + (cnt n t + 0)
    rfl
theorem wf_parts {people n : Nat} {t : Tm} (hW : Wf people (n + 1) t) : ∀ p ∈ partsOf t, Wf people n p := fun p hp => by
  cases t with
  | bid p => cases hp
  | fixed f => cases hp
  | mean ps =>
    obtain ⟨q, hq, rfl⟩ := List.mem_map.mp hp
    exact (hW.2.2 q hq).2.2
  | least ts => exact hW.2.2 p hp
  | greatest ts => exact hW.2.2 p hp
  | ranked k ts => exact hW.2.2.2 p hp
  | between lo hi t =>
    have e : p = t := by simpa [partsOf] using hp
    rw [e]
    exact hW.2.2.2.2.2
theorem sum_takeN {l : List Nat} {i x : Nat} (h : l[i]? = some x) : (l.take (i + 1)).sum = (l.take i).sum + x := by
  rw [take_snoc h, List.sum_append, List.sum_cons, List.sum_nil, Nat.add_zero]
def spTold (K : PySem.W.Frag) (n : Nat) : Sp := fun vs H Q _ => ∃ (people deep : Nat) (v : V) (t : Tm), vs = [.int (people : Nat), v, .int (deep : Nat)] ∧ TmAt K H n v t ∧ Wf people n t ∧ n ≤ deep ∧ Ret H Q (fun _ r => r = .int (cnt n t : Nat))
theorem sc_terms_told : FnScope ["people", "thing", "deep", "parts", "many", "part", "inner"] ["people", "thing", "deep"] (defScope zterms_told) := ⟨rfl, rfl, rfl, by decide +kernel, rfl, by decide +kernel, by decide +kernel⟩
theorem ok_terms_told {n : Nat} (T : Tx K mg) (c_terms_told : Cal P w K mg base (6 + n) "terms_told" (spTold K n) []) (c_is_leaf : Cal P w K mg base 4 "is_leaf" (spLeaf K) []) (c_parts_told : Cal P w K mg base 5 "parts_told" (spParts K) []) : Cal P w K mg base (6 + (n + 1)) "terms_told" (spTold K (n + 1)) [] := by
  refine mk_cal (k := (6 + n)) T 32 rfl rfl sc_terms_told (fun _ _ _ _ _ _ us hl => match us, hl with | [_, _, _], _ => rfl) (fun vs H Q E h => ?_) (fun f cdv A outer s H vs Q E hr h => ?_)
  · obtain ⟨people, deep, v, t, rfl, _⟩ := h
    rfl
  · obtain ⟨people, deep, v, t, rfl, hT, hW, hd, q⟩ := h
    refine ⟨_, (pss_cons (ps_if (PW.pt (pw_or (pt_cmpR op_eq (pv 2) pe_int (nomark _)) (pw_or (pt_not (pt_val (pe_callB (isiK K) rfl T.b_isinstance (by decide +kernel) (pa_cons (pv 1) (pa_cons (pe_bltn (v := .ty "tuple") rfl T.b_tuple (by decide +kernel) rfl) pa_nil))))) (pw_or (pt_cmpR op_eq (pe_callB (lenS K) rfl T.b_len (by decide +kernel) (pa_cons (pv 1) pa_nil)) pe_int (nomark _)) (pw_or1 (pt_not (pt_val (pe_callB (isiK K) rfl T.b_isinstance (by decide +kernel) (pa_cons (pe_ix (ixT K) (pv 1) pe_int (fun _ _ => rfl)) (pa_cons (pe_bltn (v := .ty "str") rfl T.b_str (by decide +kernel) rfl) pa_nil)))))))))) (pss_one (ps_ret pe_non)) pss_nil)
      (pss_cons (ps_if (pt_val (pe_c c_is_leaf hr (by first | decide | omega) rfl (pa_cons (pv 0) (pa_cons (pv 1) pa_nil)))) (pss_one (ps_ret pe_int)) pss_nil)
      (pss_cons (ps_set (i := 3) sc_terms_told.nd rfl (Or.inl rfl) (pe_c c_parts_told hr (by first | decide | omega) rfl (pa_cons (pv 1) pa_nil)))
      (pss_cons (ps_if (pt_cmp (pc_isN (pv 3))) (pss_one (ps_ret pe_non)) pss_nil)
      (pss_cons (ps_set (i := 4) sc_terms_told.nd rfl (Or.inl rfl) pe_int)
      (pss_cons (ps_for PassesOwn.never rfl (pi_list (pv 3)) (pg_name (i := 5) sc_terms_told.nd rfl (Or.inl rfl)) (pss_cons (ps_set (i := 6) sc_terms_told.nd rfl (Or.inl rfl) (pe_c c_terms_told hr (by first | decide | omega) rfl (pa_cons (pv 0) (pa_cons (pv 5) (pa_cons (pe_op op_sub (pv 2) pe_int) pa_nil)))))
      (pss_cons (ps_if (pt_cmp (pc_isN (pv 6))) (pss_one (ps_ret pe_non)) pss_nil)
      (pss_one (ps_aug (i := 4) sc_terms_told.nd rfl (Or.inl rfl) (pv 6) ip_add)))))
      (pss_one (ps_ret (pv 4))))))))), ?_⟩
    obtain ⟨a, s0, rest, rfl, hA⟩ := hT.head
    have nd : ¬ V.int (deep : Nat) = V.int 0 := fun z => by
      injection z with z
      omega
    refine ⟨_, rfl, rfl, _, rfl, ifF nd ⟨_, rfl, _, _, _, _, true, rfl, .ty _, tyTup hA, kit_ty (by decide +kernel), true, rfl, iteF ?_⟩⟩
    have nl : ¬ V.int ((V.str s0 :: rest).length : Nat) = V.int 0 := fun z => by
      injection z with z
      rw [List.length_cons] at z
      omega
    refine ⟨_, rfl, a, _, rfl, .inr hA, rfl, _, rfl, ifF nl ⟨_, rfl, a, _, 0, _, rfl, rfl, hA, atI_nat (j := 0) rfl, _, _, _, _, true, rfl, .ty _, .base (.str _), kit_ty (by decide +kernel), true, rfl, iteF ?_⟩⟩
    refine ⟨_, rfl, _, rfl, people, n, .ref a, t, rfl, hT, hW, fun H1 r1 s1 e1 => ?_⟩
    subst e1
    refine ⟨_, rfl, ?_⟩
    cases hL : isLeaf t with
    | true =>
      refine iteT (q _ _ s1 ?_)
      rw [cnt_leaf hL]
      rfl
    | false =>
      refine iteF ?_
      have k1 : KeepT K H H1 := Same.keepT s1
      refine ⟨_, rfl, people, n, .ref a, t, rfl, TmAt.keep k1 _ hT, hW, hL, fun H2 r2 s2 h2 => ?_⟩
      obtain ⟨b, us, rfl, hB, hl⟩ := h2
      refine ⟨_, rfl, false, rfl, iteF ⟨_, rfl, b, rfl, ⟨_, hB⟩, for_list (K := K) (a := b) (xs := us) (fun i σ H3 => ∃ x y, σ = [some (.int (people : Nat)), some (.ref a), some (.int (deep : Nat)), some (.ref b), some (.int (1 + (((partsOf t).map (cnt n)).take i).sum : Nat)), x, y] ∧ Same H2 H3)
        ⟨none, none, rfl, Same.refl _⟩ (fun i σ H3 _ ⟨_, _, _, s⟩ => s.seq hB) ?_ ?_⟩⟩
      · rintro i y σ H3 hy ⟨x1, x2, rfl, s3⟩
        obtain ⟨p, hp, r⟩ := hl.get hy
        have hm := List.mem_of_getElem? hp
        have ed : ((deep : Nat) : Int) - 1 = ((deep - 1 : Nat) : Int) := by omega
        refine ⟨_, rfl, _, rfl, _, rfl, _, _, rfl, rfl, people, deep - 1, y, p, ?_, TmAt.keep (Same.keepT s3) n r, wf_parts hW p hm, by omega, fun H4 r4 s4 e4 => ?_⟩
        · rw [← ed]
          rfl
        · subst e4
          refine ⟨_, rfl, false, rfl, iteF ⟨_, rfl, _, rfl, _, _, rfl, rfl, some y, some (.int (cnt n p : Nat)), ?_, s3.trans s4⟩⟩
          have hc : ((partsOf t).map (cnt n))[i]? = some (cnt n p) := by rw [List.getElem?_map, hp] <;> rfl
          rw [sum_takeN hc]
          have e5 : (1 : Nat) + (((partsOf t).map (cnt n)).take i).sum + (cnt n p : Nat) = 1 + ((((partsOf t).map (cnt n)).take i).sum + cnt n p) := by omega
          rw [← e5]
          rfl
      · rintro σ H3 ⟨x1, x2, rfl, s3⟩
        refine ⟨_, rfl, q _ _ ((s1.trans s2).trans s3) ?_⟩
        rw [cnt_parts hL, List.take_of_length_le (by rw [List.length_map, hl.len]; exact Nat.le_refl _)]
def spInit (K : PySem.W.Frag) : Sp := fun vs H Q _ => ∃ (p dx : Addr) (n : Nat) (u : V) (t : Tm), vs = [.ref p, .int (n : Nat), u] ∧ H p = some (.ins (He.ga K "Rule") dx []) ∧ 1 ≤ n ∧ n ≤ 6 ∧ TmAt K H 6 u t ∧ Wf n 6 t ∧ cnt 6 t ≤ 60 ∧
  ∀ H' : Hp, (∀ b o, H b = some o → b ≠ p → H' b = some o) → H' p = some (.ins (He.ga K "Rule") dx (rf n u)) → Q .non H'
theorem sc_Init : FnScope ["self", "people", "term", "many"] ["self", "people", "term"] (defScope zInit) := ⟨rfl, rfl, rfl, by decide +kernel, rfl, by decide +kernel, by decide +kernel⟩
theorem ok_Init (T : Tx K mg) (c_terms_told : Cal P w K mg base 12 "terms_told" (spTold K 6) []) (c_is_within : Cal P w K mg base 2 "is_within" spWithin []) : Mak P w K mg base 13 "Rule" (He.ga K "Rule") (spInit K) [] := by
  refine mk_rule (k := 12) T sc_Init (fun _ _ _ _ _ _ us hl => match us, hl with | [_, _, _], _ => rfl) (fun vs H Q E h => ?_) (fun f cdv A outer s H vs Q E hr h => ?_)
  · obtain ⟨p, dx, n, u, t, rfl, _⟩ := h
    rfl
  · obtain ⟨p, dx, n, u, t, rfl, hP, h1, h6, hT, hW, hc, q⟩ := h
    refine ⟨_, (pss_cons (ps_if (pt_not (pt_val (pe_c c_is_within hr (by first | decide | omega) rfl (pa_cons (pv 1) (pa_cons pe_int (pa_cons (pe_gc rfl T.MOST_PEOPLE) pa_nil)))))) (pss_one ps_never) pss_nil)
      (pss_cons (ps_set (i := 3) sc_Init.nd rfl (Or.inl rfl) (pe_c c_terms_told hr (by first | decide | omega) rfl (pa_cons (pv 1) (pa_cons (pv 2) (pa_cons (pe_gc rfl T.MOST_DEEP) pa_nil)))))
      (pss_cons (ps_if (PW.pt (pw_or (pt_cmp (pc_isN (pv 3))) (pw_or1 (pt_cmpR op_gt (pv 3) (pe_gc rfl T.MOST_TERMS) (nomark _))))) (pss_one ps_never) pss_nil)
      (pss_cons (ps_fld (pv 0) (pv 1) rfl)
      (pss_one (ps_fld (pv 0) (pv 2) rfl)))))), ?_⟩
    refine ⟨_, rfl, n, 1, 6, rfl, ?_⟩
    have e1 : decide ((1 : Int) ≤ (n : Int)) = true := decide_eq_true (by omega)
    have e2 : decide ((n : Int) ≤ 6) = true := decide_eq_true (by omega)
    rw [e1, e2]
    refine ⟨true, rfl, iteF ?_⟩
    refine ⟨_, rfl, _, rfl, n, 8, u, t, rfl, hT, hW, by omega, fun H1 r1 s1 er => ?_⟩
    subst er
    refine ⟨_, rfl, false, rfl, iteF ⟨_, rfl, _, _, rfl, rfl, _, rfl, ifF (by omega) ?_⟩⟩
    have hP1 := s1 _ _ hP
    refine ⟨_, rfl, _, rfl, p, _, dx, [], rfl, hP1, T.clR, T.nPe, (by show 0 < 1000; decide), ?_⟩
    refine ⟨_, rfl, _, rfl, p, _, dx, _, rfl, upd_same, T.clR, T.nTe, (by show 1 < 1000; decide), ?_⟩
    refine q _ (fun b o e hb => ?_) upd_same
    rw [upd_ne hb, upd_ne hb]
    exact s1 _ _ e
end
end Cb
namespace Cb
open PySem PySem.Spec PyProof.Rows L2
open C8 (Cal Mak pe_c pe_mk pe_gc)
section
variable {P : Program} {w : World} {K : PySem.W.Frag} {mg : Str → Option Value} {base : Heap}
/-! ### the dice -/
def DiAt (H : Hp) (d c : Addr) : Prop := ∃ (cells : List Int) (pos big x m : Int), H d = some (.lst [.ref c, .int pos, .int big, .int x, .int m]) ∧ H c = some (.lst (cells.map V.int)) ∧ c ≠ d ∧ 0 ≤ pos ∧ 0 ≤ big ∧ 0 ≤ x ∧ x < 2147483647 ∧ 0 ≤ m ∧ ∀ i ∈ cells, 0 ≤ i
abbrev Ka (d : Addr) : Hp → Hp → Prop := Kq (fun b => b = d)
theorem DiAt.lst {H : Hp} {d c : Addr} (h : DiAt H d c) : ∀ b, b = d → ∃ zs, H b = some (.lst zs) := fun b e => by
  obtain ⟨cells, pos, big, x, m, h1, _⟩ := h
  subst e
  exact ⟨_, h1⟩
theorem DiAt.kt {H H' : Hp} {d c : Addr} (h : DiAt H d c) (k : Ka d H H') : KeepT K H H' := k.keepT h.lst
theorem DiAt.same {H H' : Hp} {d c : Addr} (h : DiAt H d c) (s : Same H H') : DiAt H' d c := by
  obtain ⟨cells, pos, big, x, m, h1, h2, r⟩ := h
  exact ⟨cells, pos, big, x, m, s _ _ h1, s _ _ h2, r⟩
theorem DiAt.upd {H : Hp} {d c D : Addr} {o : HO} (h : DiAt H d c) (n1 : D ≠ d) (n2 : D ≠ c) : DiAt (upd H D o) d c := by
  obtain ⟨cells, pos, big, x, m, h1, h2, r⟩ := h
  exact ⟨cells, pos, big, x, m, by rw [upd_ne (Ne.symm n1)]; exact h1, by rw [upd_ne (Ne.symm n2)]; exact h2, r⟩
theorem DiAt.ne {H : Hp} {d c D : Addr} (h : DiAt H d c) (n : H D = none) : D ≠ d ∧ D ≠ c := by
  obtain ⟨cells, pos, big, x, m, h1, h2, r⟩ := h
  exact ⟨fun e => Option.some_ne_none _ (h1.symm.trans (e ▸ n)), fun e => Option.some_ne_none _ (h2.symm.trans (e ▸ n))⟩
abbrev RetD (H : Hp) (d c : Addr) (Q : VK) (R : Hp → V → Prop) : Prop := ∀ (H' : Hp) (r : V), Ka d H H' → DiAt H' d c → R H' r → Q r H'
def spDice (K : PySem.W.Frag) : Sp := fun vs H Q _ => ∃ (a : Addr) (ns : List Int), vs = [.ref a] ∧ SqL K H a (ns.map V.int) ∧ ns.length ≤ 63 ∧ ∀ (H' : Hp) (d c : Addr), Same H H' → H d = none → DiAt H' d c → Q (.ref d) H'
theorem cut63 (ns : List Int) : cutV (ns.map V.int) none (some 63) = (ns.take 63).map V.int := by
  unfold cutV
  have e1 : HT.sIx (ns.map V.int).length 0 none = 0 := HT.sIx_none ..
  have e2 : HT.sIx (ns.map V.int).length (ns.map V.int).length (some ((63 : Nat) : Int)) = min 63 (ns.map V.int).length := HT.sIx_nat ..
  rw [e1, show (some (63 : Int)) = some ((63 : Nat) : Int) from rfl, e2, List.drop_zero, Nat.sub_zero, ← List.map_take]
  have e3 : ns.take (min 63 (ns.map V.int).length) = ns.take 63 := by
    rw [List.length_map]
    by_cases h : 63 ≤ ns.length
    · rw [Nat.min_eq_left h]
    · rw [Nat.min_eq_right (by omega), List.take_of_length_le (Nat.le_refl _), List.take_of_length_le (by omega)]
  rw [e3]
theorem sc_L_dice : FnScope ["_law_script", "_law_cell"] ["_law_script"] (defScope zL_dice) := ⟨rfl, rfl, rfl, by decide +kernel, rfl, by decide +kernel, by decide +kernel⟩
theorem ok_L_dice (T : Tx K mg)  : Cal P w K mg base 1 "_law_dice" (spDice K) [] := by
  refine mk_cal (k := 0) T 33 rfl rfl sc_L_dice (fun _ _ _ _ _ _ us hl => match us, hl with | [_], _ => rfl) (fun vs H Q E h => ?_) (fun f cdv A outer s H vs Q E hr h => ?_)
  · obtain ⟨a, ns, rfl, _⟩ := h
    rfl
  · obtain ⟨a, ns, rfl, hS, hl, q⟩ := h
    refine ⟨_, (pss_one (ps_ret (pe_lst (pa_cons (pe_lc (own := [("_law_cell", 1)]) (g := (gName 1)) rfl sc_L_dice.nd (pi_list (pe_slice (slL K) (pv 0) po_none (po_some pe_int))) (blkOk_by (own := [("_law_cell", 1)]) (N := ["_law_script", "_law_cell"]) (sc := defScope zL_dice) (by decide +kernel)) (fun _ _ _ _ _ => (pg_name (i := 1) sc_L_dice.nd rfl (Or.inl rfl))) (fun _ _ _ _ _ => pts_nil) (fun _ _ _ _ _ => (pe_callB call_abs rfl T.b_abs (by decide +kernel) (pa_cons (pe_callTy call_int1 rfl T.b_int (by decide +kernel) (pa_cons (pv 1) pa_nil)) pa_nil)))) (pa_cons pe_int (pa_cons pe_int (pa_cons pe_int (pa_cons pe_int pa_nil)))))))), ?_⟩
    refine ⟨_, rfl, 63, rfl, a, _, rfl, hS, fun p hp => ?_⟩
    have s1 := same_new hp (.lst (cutV (ns.map V.int) none (some 63)))
    have eL : upd H p (.lst (cutV (ns.map V.int) none (some 63))) p = some (.lst ((ns.take 63).map V.int)) := by rw [upd_same, cut63]
    have ll : (ns.take 63).length ≤ 63 := by rw [List.length_take]; omega
    refine ⟨p, rfl, ⟨_, SqL.of eL⟩, fun D hD => ?_⟩
    refine lc_map (K := K) (walk_list (K := K) (a := p) (xs := (ns.take 63).map V.int)) (fun i _ y => ∃ z : Int, y = .int z ∧ 0 ≤ z) hD (small1000 (by rw [List.length_map]; omega)) (fun H1 s => s.seq (SqL.of eL)) (fun _ _ _ _ _ r => r) ?_ ?_
    · rintro i x H0 H2 hi s ⟨rfl, hx⟩ Q' N qq
      rw [List.getElem?_map] at hx
      cases e : (ns.take 63)[i]? with
      | none => rw [e] at hx; cases hx
      | some w =>
        rw [e] at hx
        have ex : V.int w = x := Option.some.inj hx
        subst ex
        refine ⟨rfl, _, rfl, .inl ⟨w, rfl, w, rfl, qq _ _ (Same.refl _) ⟨_, rfl, by split <;> omega⟩⟩⟩
    · intro H2 us s2 hus lus fus
      refine ⟨(by show 5 ≤ sizeLine; decide), fun d hd => ?_⟩
      have s3 := same_new hd (.lst [.ref D, .int 0, .int 0, .int 1, .int 0])
      obtain ⟨cells, ec, nc⟩ : ∃ cells : List Int, us = cells.map V.int ∧ ∀ i ∈ cells, 0 ≤ i := by
        have h0 : ∀ y ∈ us, ∃ z : Int, y = .int z ∧ 0 ≤ z := fun y hy => by
          obtain ⟨i, hi⟩ := List.mem_iff_getElem?.mp hy
          exact fus i y hi
        clear hus lus fus s3 hd
        induction us with
        | nil => exact ⟨[], rfl, fun _ h => by cases h⟩
        | cons u us ih =>
          obtain ⟨z, e, hz⟩ := h0 u (List.mem_cons_self ..)
          obtain ⟨cells, e2, h2⟩ := ih fun y hy => h0 y (List.mem_cons_of_mem _ hy)
          refine ⟨z :: cells, by rw [e, e2] <;> rfl, fun i hi => ?_⟩
          rcases List.mem_cons.mp hi with rfl | hi
          · exact hz
          · exact h2 i hi
      have hne : D ≠ d := ne_of_none hus hd
      refine q _ d D ((s1.trans s2).trans s3) ((s1.trans s2).free hd) ⟨cells, 0, 0, 1, 0, upd_same, ?_, hne, by decide, by decide, by decide, by decide, by decide, nc⟩
      rw [upd_ne hne, hus, ec]
def spDraw : Sp := fun vs H Q _ => ∃ (d c : Addr) (s : Int), vs = [.ref d, .int s] ∧ 0 < s ∧ s ≤ 1000000 ∧ DiAt H d c ∧ RetD H d c Q (fun _ r => ∃ i : Int, r = .int i ∧ 0 ≤ i ∧ i < s)
theorem mulS {i j : Int} (h1 : -(2 ^ 64) < j) (h2 : j < 2 ^ 64) : CMul i j := .inr ⟨h1, h2⟩
theorem kaS {H : Hp} {d : Addr} {o : HO} : Ka d H (upd H d o) := fun b u e n => by rw [upd_ne n]; exact e
theorem mulB {i j : Int} (h0 : 0 ≤ i) (h1 : i < 2147483648) : CMul i j := by
  have a : -(2 ^ 64 : Int) < 0 := by decide
  have b : (2147483648 : Int) < 2 ^ 64 := by decide
  exact .inl ⟨Int.lt_of_lt_of_le a h0, Int.lt_trans h1 b⟩
theorem dput {H : Hp} {d c : Addr} {cells : List Int} {pos big x m : Int} (h2 : H c = some (.lst (cells.map V.int))) (hne : c ≠ d) (p1 : 0 ≤ pos) (p2 : 0 ≤ big) (p3 : 0 ≤ x) (p4 : x < 2147483647) (p5 : 0 ≤ m) (p6 : ∀ i ∈ cells, 0 ≤ i) :
    DiAt (upd H d (.lst [.ref c, .int pos, .int big, .int x, .int m])) d c := ⟨cells, pos, big, x, m, upd_same, by rw [upd_ne hne]; exact h2, hne, p1, p2, p3, p4, p5, p6⟩
theorem sc_L_draw : FnScope ["_law_dice_here", "_law_sides", "_law_cell", "_law_digit", "_law_mixed"] ["_law_dice_here", "_law_sides"] (defScope zL_draw) := ⟨rfl, rfl, rfl, by decide +kernel, rfl, by decide +kernel, by decide +kernel⟩
theorem ok_L_draw (T : Tx K mg)  : Cal P w K mg base 1 "_law_draw" spDraw [] := by
  refine mk_cal (k := 0) T 34 rfl rfl sc_L_draw (fun _ _ _ _ _ _ us hl => match us, hl with | [_, _], _ => rfl) (fun vs H Q E h => ?_) (fun f cdv A outer s H vs Q E hr h => ?_)
  · obtain ⟨d, c, s, rfl, _⟩ := h
    rfl
  · obtain ⟨d, c, sd, rfl, s0, s1, hD, q⟩ := h
    refine ⟨_, (C8.pss_cut (ps_if (PW.pt (pw_and (pt_cmpR op_eq (pe_ix (ixL K) (pv 0) pe_int (fun _ _ => rfl)) pe_int (nomark _)) (pw_and1 (pt_cmpR op_lt (pe_ix (ixL K) (pv 0) pe_int (fun _ _ => rfl)) (pe_callB (lenS K) rfl T.b_len (by decide +kernel) (pa_cons (pe_ix (ixL K) (pv 0) pe_int (fun _ _ => rfl)) pa_nil)) (nomark _))))) (pss_cons (ps_set (i := 2) sc_L_draw.nd rfl (Or.inl rfl) (pe_ix (ixL K) (pe_ix (ixL K) (pv 0) pe_int (fun _ _ => rfl)) (pe_ix (ixL K) (pv 0) pe_int (fun _ _ => rfl)) (fun _ _ => rfl)))
      (pss_cons (ps_asg (pe_op op_add (pe_ix (ixL K) (pv 0) pe_int (fun _ _ => rfl)) pe_int) (pg_sub (pv 0) pe_int set_list))
      (pss_one (ps_if (pt_cmpR op_ge (pv 2) (pe_op op_pow pe_int pe_int) (nomark _)) (pss_one (ps_asg (pv 2) (pg_sub (pv 0) pe_int set_list))) (pss_one (ps_asg (pe_op op_mod (pe_callTy call_int1 rfl T.b_int (by decide +kernel) (pa_cons (pe_op op_add (pe_op op_add (pe_op op_mul (pe_ix (ixL K) (pv 0) pe_int (fun _ _ => rfl)) pe_int) (pe_op op_mul (pv 2) pe_int)) (pe_ix (ixL K) (pv 0) pe_int (fun _ _ => rfl))) pa_nil)) pe_int) (pg_sub (pv 0) pe_int set_list))))))) pss_nil)
      (pss_cons (ps_if (pt_cmpR op_gt (pe_ix (ixL K) (pv 0) pe_int (fun _ _ => rfl)) pe_int (nomark _)) (pss_cons (ps_set (i := 3) sc_L_draw.nd rfl (Or.inl rfl) (pe_op op_mod (pe_callTy call_int1 rfl T.b_int (by decide +kernel) (pa_cons (pe_ix (ixL K) (pv 0) pe_int (fun _ _ => rfl)) pa_nil)) (pv 1)))
      (pss_cons (ps_asg (pe_op op_fdivW (pe_callTy call_int1 rfl T.b_int (by decide +kernel) (pa_cons (pe_ix (ixL K) (pv 0) pe_int (fun _ _ => rfl)) pa_nil)) (pv 1)) (pg_sub (pv 0) pe_int set_list))
      (pss_one (ps_ret (pv 3))))) pss_nil)
      (pss_cons (ps_asg (pe_op op_add (pe_ix (ixL K) (pv 0) pe_int (fun _ _ => rfl)) pe_int) (pg_sub (pv 0) pe_int set_list))
      (pss_cons (ps_asg (pe_op op_mod (pe_callTy call_int1 rfl T.b_int (by decide +kernel) (pa_cons (pe_op op_add (pe_op op_add (pe_op op_mul (pe_ix (ixL K) (pv 0) pe_int (fun _ _ => rfl)) pe_int) (pe_op op_mul (pe_ix (ixL K) (pv 0) pe_int (fun _ _ => rfl)) pe_int)) pe_int) pa_nil)) pe_int) (pg_sub (pv 0) pe_int set_list))
      (pss_cons (ps_set (i := 4) sc_L_draw.nd rfl (Or.inl rfl) (pe_op op_mod (pe_callTy call_int1 rfl T.b_int (by decide +kernel) (pa_cons (pe_op op_mul (pe_ix (ixL K) (pv 0) pe_int (fun _ _ => rfl)) (pe_op op_add (pe_op op_fdivW (pe_ix (ixL K) (pv 0) pe_int (fun _ _ => rfl)) pe_int) pe_int)) pa_nil)) pe_int))
      (pss_cons (ps_set (i := 4) sc_L_draw.nd rfl (Or.inl rfl) (pe_op op_mod (pe_callTy call_int1 rfl T.b_int (by decide +kernel) (pa_cons (pe_op op_mul (pv 4) (pe_op op_add (pe_op op_fdivW (pv 4) pe_int) pe_int)) pa_nil)) pe_int))
      (pss_one (ps_ret (pe_op op_mod (pe_callTy call_int1 rfl T.b_int (by decide +kernel) (pa_cons (pe_op op_fdivW (pv 4) pe_int) pa_nil)) (pv 1)))))))))), ?_⟩
    have hdS : ∀ i : Int, CDivW i sd := fun i => wide_div s0 (show sd.natAbs < 2 ^ 20 by show sd.natAbs < 1048576; omega) (by decide) (by decide)
    refine ⟨fun σ H' => ∃ y, σ = [some (.ref d), some (.int sd), y, none, none] ∧ Ka d H H' ∧ DiAt H' d c, ?_, ?_⟩
    · obtain ⟨cells, pos, big, x, m, h1, h2, hne, p1, p2, p3, p4, p5, p6⟩ := hD
      have hS : SqL K H d _ := SqL.of h1
      have hC : SqL K H c _ := SqL.of h2
      have same : DiAt H d c := ⟨cells, pos, big, x, m, h1, h2, hne, p1, p2, p3, p4, p5, p6⟩
      refine ⟨_, rfl, d, _, 2, _, rfl, rfl, hS, rfl, rfl, _, rfl, ite2 (fun ca => ?_) (fun ca => iteF ⟨_, rfl, Kq.refl, same⟩)⟩
      refine ⟨_, rfl, d, _, 1, _, rfl, rfl, hS, rfl, _, rfl, d, _, 0, _, rfl, rfl, hS, rfl, c, _, rfl, .inl hC, _, _, rfl, rfl, _, rfl, ite2 (fun cb => ?_) (fun cb => ⟨_, rfl, Kq.refl, same⟩)⟩
      have hlt : pos < ((cells.map V.int).length : Nat) := of_decide_eq_true cb
      rw [List.length_map] at hlt
      obtain ⟨j, rfl⟩ : ∃ j : Nat, pos = (j : Int) := ⟨pos.toNat, by omega⟩
      have hj : j < cells.length := by omega
      have hat : (cells.map V.int)[j]? = some (V.int cells[j]) := by rw [List.getElem?_map, List.getElem?_eq_getElem hj] <;> rfl
      have c0 := p6 _ (List.getElem_mem hj)
      refine ⟨_, rfl, d, _, 0, _, rfl, rfl, hS, rfl, _, rfl, d, _, 1, _, rfl, rfl, hS, rfl, c, _, _, _, rfl, rfl, hC, at_of rfl hat, ?_⟩
      refine ⟨_, rfl, d, _, 1, _, rfl, rfl, hS, rfl, _, _, rfl, rfl, _, rfl, d, _, 1, 1, rfl, rfl, h1, rfl, ?_⟩
      have h1' : upd H d (.lst [.ref c, .int (j + 1), .int big, .int x, .int m]) d = some (.lst [.ref c, .int (j + 1), .int big, .int x, .int m]) := upd_same
      have hS' : SqL K (upd H d (.lst [.ref c, .int (j + 1), .int big, .int x, .int m])) d _ := SqL.of h1'
      have h2' : upd H d (.lst [.ref c, .int (j + 1), .int big, .int x, .int m]) c = some (.lst (cells.map V.int)) := by rw [upd_ne hne]; exact h2
      refine ⟨_, rfl, _, _, rfl, rfl, ⟨by decide, by decide, by decide⟩, _, _, rfl, rfl, _, rfl, ite2 (fun cc => ?_) (fun cc => ?_)⟩
      · exact ⟨_, rfl, _, rfl, d, _, 2, 2, rfl, rfl, h1', rfl, _, rfl, kaS.trans kaS, dput h2' hne (by omega) c0 p3 p4 p5 p6⟩
      · refine ⟨_, rfl, d, _, 3, _, rfl, rfl, hS', rfl, _, _, rfl, rfl, mulS (by decide) (by decide), _, rfl, _, _, rfl, rfl, mulS (by decide) (by decide), _, _, rfl, rfl, _, rfl, d, _, 1, _, rfl, rfl, hS', rfl, _, _, rfl, rfl, .inl ⟨_, rfl, ?_⟩⟩
        refine ⟨_, _, rfl, rfl, (by show (0 : Int) < 2147483647; decide), _, rfl, d, _, 3, 3, rfl, rfl, h1', rfl, _, rfl, kaS.trans kaS, dput h2' hne (by omega) p2 (Int.emod_nonneg _ (by decide)) (Int.emod_lt_of_pos _ (by decide)) p5 p6⟩
    · rintro σ H' ⟨y, rfl, k, hD'⟩
      obtain ⟨cells, pos, big, x, m, h1, h2, hne, p1, p2, p3, p4, p5, p6⟩ := hD'
      have hS : SqL K H' d _ := SqL.of h1
      refine ⟨_, rfl, d, _, 2, _, rfl, rfl, hS, rfl, _, _, rfl, rfl, _, rfl, ite2 (fun ca => ?_) (fun ca => ?_)⟩
      · refine ⟨_, rfl, d, _, 2, _, rfl, rfl, hS, rfl, .inl ⟨_, rfl, _, rfl, _, _, rfl, rfl, s0, ?_⟩⟩
        refine ⟨_, rfl, d, _, 2, _, rfl, rfl, hS, rfl, .inl ⟨_, rfl, _, rfl, _, _, rfl, rfl, hdS _, _, rfl, d, _, 2, 2, rfl, rfl, h1, rfl, _, rfl, ?_⟩⟩
        exact q _ _ (k.trans kaS) (dput h2 hne p1 (Int.ediv_nonneg p2 (by omega)) p3 p4 p5 p6) ⟨_, rfl, Int.emod_nonneg _ (by omega), Int.emod_lt_of_pos _ s0⟩
      · refine ⟨_, rfl, d, _, 4, _, rfl, rfl, hS, rfl, _, _, rfl, rfl, _, rfl, d, _, 4, 4, rfl, rfl, h1, rfl, ?_⟩
        have h1' : upd H' d (.lst [.ref c, .int pos, .int big, .int x, .int (m + 1)]) d = some (.lst [.ref c, .int pos, .int big, .int x, .int (m + 1)]) := upd_same
        have hS' : SqL K (upd H' d (.lst [.ref c, .int pos, .int big, .int x, .int (m + 1)])) d _ := SqL.of h1'
        have h2' : upd H' d (.lst [.ref c, .int pos, .int big, .int x, .int (m + 1)]) c = some (.lst (cells.map V.int)) := by rw [upd_ne hne]; exact h2
        refine ⟨_, rfl, d, _, 3, _, rfl, rfl, hS', rfl, _, _, rfl, rfl, mulS (by decide) (by decide), _, rfl, d, _, 4, _, rfl, rfl, hS', rfl, _, _, rfl, rfl, mulS (by decide) (by decide), _, _, rfl, rfl, _, _, rfl, rfl, .inl ⟨_, rfl, ?_⟩⟩
        refine ⟨_, _, rfl, rfl, (by show (0 : Int) < 2147483647; decide), _, rfl, d, _, 3, 3, rfl, rfl, h1', rfl, ?_⟩
        have z0 : 0 ≤ (x * 48271 + (m + 1) * 7919 + 1) % 2147483647 := Int.emod_nonneg _ (by decide)
        have z1 : (x * 48271 + (m + 1) * 7919 + 1) % 2147483647 < 2147483647 := Int.emod_lt_of_pos _ (by decide)
        have h1'' := fun (o : HO) => (upd_same : upd (upd H' d (.lst [.ref c, .int pos, .int big, .int x, .int (m + 1)])) d o d = some o)
        have hS'' : SqL K (upd (upd H' d (.lst [.ref c, .int pos, .int big, .int x, .int (m + 1)])) d (.lst [.ref c, .int pos, .int big, .int ((x * 48271 + (m + 1) * 7919 + 1) % 2147483647), .int (m + 1)])) d [.ref c, .int pos, .int big, .int ((x * 48271 + (m + 1) * 7919 + 1) % 2147483647), .int (m + 1)] := SqL.of (h1'' _)
        refine ⟨_, rfl, d, _, 3, _, rfl, rfl, hS'', rfl, _, rfl, d, _, 3, _, rfl, rfl, hS'', rfl, _, _, rfl, rfl, wide_div (b := 10) (by decide) (by decide) (by decide) (by decide), _, _, rfl, rfl, _, _, rfl, rfl, mulB z0 (by omega), .inl ⟨_, rfl, _, _, rfl, rfl, (by show (0 : Int) < 2147483399; decide), ?_⟩⟩
        refine ⟨_, rfl, _, rfl, _, _, rfl, rfl, wide_div (b := 11) (by decide) (by decide) (by decide) (by decide), _, _, rfl, rfl, _, _, rfl, rfl, mulB (Int.emod_nonneg _ (by decide)) (Int.lt_of_lt_of_le (Int.emod_lt_of_pos _ (by decide)) (by decide)), .inl ⟨_, rfl, _, _, rfl, rfl, (by show (0 : Int) < 2147483563; decide), ?_⟩⟩
        refine ⟨_, rfl, _, _, rfl, rfl, wide_div (b := 5) (by decide) (by decide) (by decide) (by decide), .inl ⟨_, rfl, _, rfl, _, _, rfl, rfl, s0, ?_⟩⟩
        exact q _ _ ((k.trans kaS).trans kaS) (dput h2' hne p1 p2 z0 z1 (by omega) p6) ⟨_, rfl, Int.emod_nonneg _ (by omega), Int.emod_lt_of_pos _ s0⟩
theorem sc_L_lowest : FnScope ["_law_top", "_law_bottom", "_law_one", "_law_other"] ["_law_top", "_law_bottom"] (defScope zL_lowest) := ⟨rfl, rfl, rfl, by decide +kernel, rfl, by decide +kernel, by decide +kernel⟩
theorem ok_L_lowest (T : Tx K mg)  : Cal P w K mg base 1 "_law_lowest" (spMade K) [] := by
  refine mk_cal (k := 0) T 35 rfl rfl sc_L_lowest (fun _ _ _ _ _ _ us hl => match us, hl with | [_, _], _ => rfl) (fun vs H Q E h => ?_) (fun f cdv A outer s H vs Q E hr h => ?_)
  · obtain ⟨t, b, rfl, _⟩ := h
    rfl
  · obtain ⟨t, b, rfl, hb, hz, q⟩ := h
    refine ⟨_, (pss_cons (ps_par (i := 2) (j := 3) rfl sc_L_lowest.nd rfl rfl (by decide) rfl rfl (pa_cons (pe_callB call_abs rfl T.b_abs (by decide +kernel) (pa_cons (pv 0) pa_nil)) (pa_cons (pv 1) pa_nil)) rfl)
      (pss_cons (ps_while PassesOwn.never (pt_cmpR op_gt (pv 3) pe_int (nomark _)) (pss_one (ps_par (i := 2) (j := 3) rfl sc_L_lowest.nd rfl rfl (by decide) rfl rfl (pa_cons (pv 3) (pa_cons (pe_op op_mod (pe_callTy call_int1 rfl T.b_int (by decide +kernel) (pa_cons (pv 2) pa_nil)) (pv 3)) pa_nil)) rfl)))
      (pss_one (ps_ret (pe_tup (pa_cons (pe_op op_fdivW (pv 0) (pv 2)) (pa_cons (pe_op op_fdivW (pv 1) (pv 2)) pa_nil))))))), ?_⟩
    refine ⟨_, rfl, t, rfl, _, rfl, _, _, rfl, ?_⟩
    have e0 : ∀ b : Int, 0 < b → b = (if b < 0 then -b else b) := fun b h => by rw [if_neg (by omega)]
    have hg : 0 < ((Int.gcd t b : Nat) : Int) := by have := gcd_pos_r (t := t) hb; omega
    have hw : ∀ i : Int, CDivW i ((Int.gcd t b : Nat) : Int) := fun i => wide_div hg (by
      have : Int.gcd t b ≤ b.natAbs := Nat.le_of_dvd (by omega) (Nat.gcd_dvd_right _ _)
      rw [Int.natAbs_natCast]
      exact Nat.lt_of_le_of_lt this hz) (by decide) (by decide)
    refine while_by (fun σ H' => ∃ x y : Int, σ = [some (.int t), some (.int b), some (.int x), some (.int y)] ∧ 0 ≤ x ∧ 0 ≤ y ∧ Int.gcd x y = Int.gcd t b ∧ H' = H) (fun σ _ => match σ with | [_, _, _, some (.int y)] => y.toNat | _ => 0) ?_ ?_ ?_
    · refine ⟨_, _, rfl, by split <;> omega, by omega, ?_, rfl⟩
      have := gcd_abs t b
      rw [← e0 b hb] at this
      exact this
    · rintro _ _ ⟨x, y, rfl, hx, hy, hg2, rfl⟩
      refine ⟨_, rfl, _, _, rfl, rfl, _, rfl, ite2 (fun c => ?_) (fun c => ?_)⟩
      · have hp : 0 < y := of_decide_eq_true c
        have lt := Int.emod_lt_of_pos x hp
        refine ⟨_, rfl, _, rfl, .inl ⟨x, rfl, _, rfl, _, _, rfl, rfl, hp, _, _, rfl, ⟨_, _, rfl, hy, Int.emod_nonneg x (by omega), ?_, rfl⟩, ?_⟩⟩
        · rw [gcd_step hx hp]
          exact hg2
        · show (x % y).toNat < y.toNat
          omega
      · have hp : ¬ 0 < y := fun z => c (decide_eq_true z)
        have h0 : y = 0 := by omega
        subst h0
        rw [Int.gcd_zero_right] at hg2
        have e : x = (Int.gcd t b : Nat) := by omega
        subst e
        refine ⟨_, rfl, _, rfl, _, _, rfl, rfl, hw _, _, rfl, _, rfl, _, _, rfl, rfl, hw _, (by show 2 ≤ sizeLine; decide), fun p hp => ?_⟩
        exact q _ _ (same_new hp _) ⟨p, rfl, SqT.of upd_same⟩
    · intro σ H Q Q' f h
      obtain ⟨v, e, i, j, e1, e2, k, e3, q⟩ := h
      exact ⟨v, e, i, j, e1, e2, k, e3, f _ _ q⟩
theorem one4000 : (1 : Int).natAbs < 2 ^ 4000 := Nat.one_lt_two_pow (Nat.succ_ne_zero 3999)
def spLSum (K : PySem.W.Frag) : Sp := fun vs H Q _ => ∃ u v f g, vs = [u, v, .int 1] ∧ FrAt K H u f ∧ FrAt K H v g ∧ Pos f ∧ Pos g ∧ Bt 4000 f ∧ Bt 4000 g ∧ Ret H Q (fun H' r => FrAt K H' r (fPlus f g))
theorem sc_L_sum : FnScope ["_law_one", "_law_other", "_law_sign"] ["_law_one", "_law_other", "_law_sign"] (defScope zL_sum) := ⟨rfl, rfl, rfl, by decide +kernel, rfl, by decide +kernel, by decide +kernel⟩
theorem ok_L_sum (T : Tx K mg) (c_L_lowest : Cal P w K mg base 1 "_law_lowest" (spMade K) []) : Cal P w K mg base 2 "_law_sum" (spLSum K) [] := by
  refine mk_cal (k := 1) T 36 rfl rfl sc_L_sum (fun _ _ _ _ _ _ us hl => match us, hl with | [_, _, _], _ => rfl) (fun vs H Q E h => ?_) (fun f cdv A outer s H vs Q E hr h => ?_)
  · obtain ⟨u, v, f, g, rfl, _⟩ := h
    rfl
  · obtain ⟨u, v, f, g, rfl, ⟨a, rfl, ha⟩, ⟨b, rfl, hb⟩, pf, pg, bf, bg, q⟩ := h
    refine ⟨_, (pss_one (ps_ret (pe_c c_L_lowest hr (by first | decide | omega) rfl (pa_cons (pe_op op_add (pe_op op_mulW (pe_ix (ixT K) (pv 0) pe_int (fun _ _ => rfl)) (pe_ix (ixT K) (pv 1) pe_int (fun _ _ => rfl))) (pe_op op_mulW (pe_op op_mulW (pv 2) (pe_ix (ixT K) (pv 1) pe_int (fun _ _ => rfl))) (pe_ix (ixT K) (pv 0) pe_int (fun _ _ => rfl)))) (pa_cons (pe_op op_mulW (pe_ix (ixT K) (pv 0) pe_int (fun _ _ => rfl)) (pe_ix (ixT K) (pv 1) pe_int (fun _ _ => rfl))) pa_nil))))), ?_⟩
    have e1 : (1 : Int) * g.1 = g.1 := Int.one_mul _
    refine ⟨_, rfl, a, _, 0, _, rfl, rfl, ha, rfl, _, rfl, b, _, 1, _, rfl, rfl, hb, rfl, _, _, rfl, rfl, mulOk bf.1 bg.2, ?_⟩
    refine ⟨_, rfl, _, rfl, b, _, 0, _, rfl, rfl, hb, rfl, _, _, rfl, rfl, mulOk (i := 1) one4000 bg.1, _, rfl, a, _, 1, _, rfl, rfl, ha, rfl, _, _, rfl, rfl, mulOk (by rw [e1]; exact bg.1) bf.2, _, _, rfl, rfl, ?_⟩
    refine ⟨_, rfl, a, _, 1, _, rfl, rfl, ha, rfl, _, rfl, b, _, 1, _, rfl, rfl, hb, rfl, _, _, rfl, rfl, mulOk bf.2 bg.2, ?_⟩
    rw [e1]
    exact ⟨_, _, rfl, Int.mul_pos pf pg, plus_top bf bg, q⟩
theorem sc_L_product : FnScope ["_law_one", "_law_other"] ["_law_one", "_law_other"] (defScope zL_product) := ⟨rfl, rfl, rfl, by decide +kernel, rfl, by decide +kernel, by decide +kernel⟩
theorem ok_L_product (T : Tx K mg) (c_L_lowest : Cal P w K mg base 1 "_law_lowest" (spMade K) []) : Cal P w K mg base 2 "_law_product" (spTimes K) [] := by
  refine mk_cal (k := 1) T 37 rfl rfl sc_L_product (fun _ _ _ _ _ _ us hl => match us, hl with | [_, _], _ => rfl) (fun vs H Q E h => ?_) (fun f cdv A outer s H vs Q E hr h => ?_)
  · obtain ⟨u, v, f, g, rfl, _⟩ := h
    rfl
  · obtain ⟨u, v, f, g, rfl, ⟨a, rfl, ha⟩, ⟨b, rfl, hb⟩, pf, pg, bf, bg, q⟩ := h
    refine ⟨_, (pss_one (ps_ret (pe_c c_L_lowest hr (by first | decide | omega) rfl (pa_cons (pe_op op_mulW (pe_ix (ixT K) (pv 0) pe_int (fun _ _ => rfl)) (pe_ix (ixT K) (pv 1) pe_int (fun _ _ => rfl))) (pa_cons (pe_op op_mulW (pe_ix (ixT K) (pv 0) pe_int (fun _ _ => rfl)) (pe_ix (ixT K) (pv 1) pe_int (fun _ _ => rfl))) pa_nil))))), ?_⟩
    refine ⟨_, rfl, a, _, 0, _, rfl, rfl, ha, rfl, _, rfl, b, _, 0, _, rfl, rfl, hb, rfl, _, _, rfl, rfl, mulOk bf.1 bg.1, ?_⟩
    refine ⟨_, rfl, a, _, 1, _, rfl, rfl, ha, rfl, _, rfl, b, _, 1, _, rfl, rfl, hb, rfl, _, _, rfl, rfl, mulOk bf.2 bg.2, ?_⟩
    exact ⟨_, _, rfl, Int.mul_pos pf pg, plus_top bf bg, q⟩
theorem sc_L_less : FnScope ["_law_one", "_law_other"] ["_law_one", "_law_other"] (defScope zL_less) := ⟨rfl, rfl, rfl, by decide +kernel, rfl, by decide +kernel, by decide +kernel⟩
theorem ok_L_less (T : Tx K mg)  : Cal P w K mg base 1 "_law_less" (spLess K) [] := by
  refine mk_cal (k := 0) T 38 rfl rfl sc_L_less (fun _ _ _ _ _ _ us hl => match us, hl with | [_, _], _ => rfl) (fun vs H Q E h => ?_) (fun f cdv A outer s H vs Q E hr h => ?_)
  · obtain ⟨u, v, f, g, rfl, _⟩ := h
    rfl
  · obtain ⟨u, v, f, g, rfl, ⟨a, rfl, ha⟩, ⟨b, rfl, hb⟩, bf, bg, q⟩ := h
    refine ⟨_, (pss_one (ps_ret (pe_cmpR op_lt (pe_op op_mulW (pe_ix (ixT K) (pv 0) pe_int (fun _ _ => rfl)) (pe_ix (ixT K) (pv 1) pe_int (fun _ _ => rfl))) (pe_op op_mulW (pe_ix (ixT K) (pv 1) pe_int (fun _ _ => rfl)) (pe_ix (ixT K) (pv 0) pe_int (fun _ _ => rfl))) (nomark _)))), ?_⟩
    refine ⟨_, rfl, a, _, 0, _, rfl, rfl, ha, rfl, _, rfl, b, _, 1, _, rfl, rfl, hb, rfl, _, _, rfl, rfl, mulOk bf.1 bg.2, ?_⟩
    refine ⟨_, rfl, b, _, 0, _, rfl, rfl, hb, rfl, _, rfl, a, _, 1, _, rfl, rfl, ha, rfl, _, _, rfl, rfl, mulOk bg.1 bf.2, ?_⟩
    exact ⟨_, _, rfl, rfl, q⟩
end
end Cb
namespace Cb
open PySem PySem.Spec PyProof.Rows L2
open C8 (Cal Mak pe_c pe_mk pe_gc)
section
variable {P : Program} {w : World} {K : PySem.W.Frag} {mg : Str → Option Value} {base : Heap}
theorem idx_all {α : Type} (L : List α) (d : α) : L = (List.range L.length).map fun i => L.getD i d := by
  refine List.ext_getElem? fun i => ?_
  rw [List.getElem?_map]
  by_cases hi : i < L.length
  · rw [List.getElem?_range hi, List.getElem?_eq_getElem hi]
    show some L[i] = some (L.getD i d)
    rw [List.getD_eq_getElem?_getD, List.getElem?_eq_getElem hi] <;> rfl
  · rw [List.getElem?_eq_none (by omega), List.getElem?_eq_none (by rw [List.length_range]; omega)] <;> rfl
theorem idx_filter {α : Type} (L : List α) (d : α) (g : α → Bool) : ((List.range L.length).filter fun i => g (L.getD i d)).map (fun i => L.getD i d) = L.filter g := by
  have e := congrArg (List.filter g) (idx_all L d)
  rw [List.filter_map] at e
  exact e.symm
theorem idx_count {α : Type} (L : List α) (d : α) (g : α → Bool) : ((List.range L.length).filter fun i => g (L.getD i d)).length = (L.filter g).length := by
  rw [← idx_filter L d g, List.length_map]
theorem getD_get {α : Type} {L : List α} {i : Nat} {x d : α} (h : L[i]? = some x) : L.getD i d = x := by
  rw [List.getD_eq_getElem?_getD, h]
  rfl
theorem sc_L_sorted : FnScope ["_law_numbers_here", "_law_found", "_law_number_here", "_law_at", "_law_other"] ["_law_numbers_here"] (defScope zL_sorted) := ⟨rfl, rfl, rfl, by decide +kernel, rfl, by decide +kernel, by decide +kernel⟩
theorem ok_L_sorted (T : Tx K mg) (c_L_less : Cal P w K mg base 1 "_law_less" (spLess K) []) : Cal P w K mg base 2 "_law_sorted" (spAsc K) [] := by
  refine mk_cal (k := 1) T 39 rfl rfl sc_L_sorted (fun _ _ _ _ _ _ us hl => match us, hl with | [_], _ => rfl) (fun vs H Q E h => ?_) (fun f cdv A outer s H vs Q E hr h => ?_)
  · obtain ⟨v, fs, rfl, _⟩ := h
    rfl
  · obtain ⟨v, fs, rfl, ⟨a, us, rfl, hS, hF⟩, hlen, hB, q⟩ := h
    refine ⟨_, (pss_cons (ps_set (i := 1) sc_L_sorted.nd rfl (Or.inl rfl) (pe_lst pa_nil))
      (pss_cons (ps_for PassesOwn.never rfl (pi_list (pv 0)) (pg_name (i := 2) sc_L_sorted.nd rfl (Or.inr rfl)) (pss_cons (ps_set (i := 3) sc_L_sorted.nd rfl (Or.inl rfl) (pe_callB (lenS K) rfl T.b_len (by decide +kernel) (pa_cons (pe_lc (own := [("_law_other", 4)]) (g := (gName 4)) rfl sc_L_sorted.nd (pi_list (pv 1)) (blkOk_by (own := [("_law_other", 4)]) (N := ["_law_numbers_here", "_law_found", "_law_number_here", "_law_at", "_law_other"]) (sc := defScope zL_sorted) (by decide +kernel)) (fun _ _ _ _ _ => (pg_name (i := 4) sc_L_sorted.nd rfl (Or.inl rfl))) (fun _ _ _ _ _ => (pts_one (pt_not (pt_val (pe_c c_L_less hr (by first | decide | omega) rfl (pa_cons (pv 2) (pa_cons (pv 4) pa_nil))))))) (fun _ _ _ _ _ => (pv 4))) pa_nil)))
      (pss_one (ps_expr (pe_bm PySem.F.plainAttrs_list PySem.F.slot_list_insert PySem.F.type_list_insert mt_insert (pv 1) (pa_cons (pv 3) (pa_cons (pv 2) pa_nil)))))))
      (pss_one (ps_ret (pv 1))))), ?_⟩
    refine ⟨(by show 0 ≤ sizeLine; decide), fun l hl => ?_⟩
    have s1 := same_new hl (.lst [])
    refine ⟨_, rfl, a, rfl, ⟨_, s1.seq hS⟩, for_list (K := K) (a := a) (xs := us) (fun i σ H2 => ∃ x y ws, σ = [some (.ref a), some (.ref l), x, y, none] ∧ Same H H2 ∧ H2 l = some (.lst ws) ∧ Frs K H2 ws (asc (fs.take i)))
      ⟨none, none, [], rfl, s1, upd_same, .nil⟩ (fun i σ H2 _ ⟨_, _, _, _, s, _⟩ => s.seq hS) ?_ ?_⟩
    · rintro i u σ H2 hi ⟨x0, y0, ws, rfl, s, hw, hA⟩
      obtain ⟨f, hf, r⟩ := hF.get hi
      have hfm := List.mem_of_getElem? hf
      have okA : Ok4 (asc (fs.take i)) := fun y hy => hB y (List.mem_of_mem_take (asc_mem.mp hy))
      have pA : ∀ y ∈ asc (fs.take i), Pos y := fun y hy => (okA y hy).1
      have sA := asc_srt (l := fs.take i) fun y hy => (hB y (List.mem_of_mem_take hy)).1
      have lA := hA.len
      have l2 : (asc (fs.take i)).length ≤ 1000 := by
        rw [asc_len, List.length_take]
        omega
      have r2 := r.keep (Same.keepT s : KeepT K H H2)
      refine ⟨_, rfl, l, rfl, ⟨_, SqL.of hw⟩, fun D hD => ?_⟩
      refine lc_gen (K := K) (walk_list (K := K) (a := l) (xs := ws)) (fun _ => False) (fun _ => True) (fun i' => !fLess f ((asc (fs.take i)).getD i' (0, 1))) (fun _ _ _ => True) hD (fun z => z) (small1000 (by omega)) (fun _ _ _ z => z.elim) (fun H1 k => k.same.seq (SqL.of hw)) trivial (fun _ _ _ => trivial) (fun _ _ _ _ _ r => r) ?_ ?_
      · rintro j x H0 H3 hj k3 _ ⟨rfl, hx⟩ Q' N qq nn
        obtain ⟨g, hg, rg⟩ := hA.get hx
        have k : KeepT K H2 H3 := Same.keepT k3.same
        refine ⟨rfl, _, rfl, _, rfl, u, x, f, g, rfl, r2.keep k, rg.keep k, (hB f hfm).2, (okA g (List.mem_of_getElem? hg)).2, _, rfl, ?_⟩
        have e : (asc (fs.take i)).getD j (0, 1) = g := getD_get hg
        cases c : fLess f g with
        | true => exact iteF (nn _ (by rw [e, c]; rfl) Kq.refl trivial)
        | false => exact iteT ⟨_, rfl, qq _ _ (by rw [e, c]; rfl) Kq.refl trivial trivial⟩
      · intro H3 os k3 _ hos ha
        have s3 := k3.same
        have ec : os.length = ((asc (fs.take i)).filter fun y => !fLess f y).length := by
          rw [← ha.len, lA]
          exact idx_count (asc (fs.take i)) (0, 1) fun y => !fLess f y
        have lc := List.length_filter_le (fun y => !fLess f y) (asc (fs.take i))
        have hw3 := s3 _ _ hw
        refine ⟨D, os, rfl, .inl (SqL.of hos), ?_⟩
        refine ⟨_, rfl, .inl ⟨rfl, _, SqL.of hw3⟩, _, rfl, _, rfl, l, ws, _, u, rfl, rfl, hw3, ?_, by omega, ?_, ?_⟩
        · exact small1000 (by omega)
        · have : (1000 : Int) < 2 ^ 63 := by decide
          omega
        · refine ⟨_, _, _, rfl, fun b o e => ?_, upd_same, ?_⟩
          · rw [upd_ne (ne_of_none e hl)]
            exact s3 _ _ (s b o e)
          · have kt : KeepT K H2 (upd H3 l (.lst (ws.take os.length ++ [u] ++ ws.drop os.length))) := KeepT.trans (Same.keepT s3) (keepT_lst hw3 _)
            rw [take_snoc hf, asc_snoc, ins_count (hB f hfm).1 pA sA, ← ec]
            exact (((hA.keep kt).take _).app (.cons (r2.keep kt) .nil)).app ((hA.keep kt).drop _)
    · rintro σ H2 ⟨x0, y0, ws, rfl, s, hw, hA⟩
      refine ⟨_, rfl, q _ _ s ⟨l, ws, rfl, SqL.of hw, ?_⟩⟩
      rw [hF.len, List.take_length] at hA
      exact hA
theorem bots (j : Nat) (h : j < 11) : ∃ b : Int, ([.int 1, .int 2, .int 3, .int 4, .int 5, .int 6, .int 8, .int 10, .int 12, .int 60, .int 999983] : List V)[j]? = some (.int b) ∧ 1 ≤ b ∧ b ≤ 999983 := by
  match j, h with
  | 0, _ => exact ⟨1, rfl, by decide, by decide⟩
  | 1, _ => exact ⟨2, rfl, by decide, by decide⟩
  | 2, _ => exact ⟨3, rfl, by decide, by decide⟩
  | 3, _ => exact ⟨4, rfl, by decide, by decide⟩
  | 4, _ => exact ⟨5, rfl, by decide, by decide⟩
  | 5, _ => exact ⟨6, rfl, by decide, by decide⟩
  | 6, _ => exact ⟨8, rfl, by decide, by decide⟩
  | 7, _ => exact ⟨10, rfl, by decide, by decide⟩
  | 8, _ => exact ⟨12, rfl, by decide, by decide⟩
  | 9, _ => exact ⟨60, rfl, by decide, by decide⟩
  | 10, _ => exact ⟨999983, rfl, by decide, by decide⟩
theorem made_num {t b : Int} (h0 : 0 ≤ t) (h1 : t ≤ b) (hb : 0 < b) (hz : b ≤ 999983) : Num (fMade t b) ∧ Bt 20 (fMade t b) := by
  have g0 : (0 : Int) ≤ ((Int.gcd t b : Nat) : Int) := by omega
  refine ⟨⟨made_lo hb, Int.ediv_nonneg h0 g0, ?_⟩, made_bt hb (by show t.natAbs < 1048576; omega) (by show b.natAbs < 1048576; omega)⟩
  exact Int.ediv_le_ediv (by have := gcd_pos_r (t := t) hb; omega) h1
def spNumber (K : PySem.W.Frag) : Sp := fun vs H Q _ => ∃ (d c : Addr), vs = [.ref d] ∧ DiAt H d c ∧ RetD H d c Q (fun H' r => ∃ f, FrAt K H' r f ∧ Num f ∧ Bt 20 f)
theorem sc_L_number : FnScope ["_law_dice_here", "_law_bottom"] ["_law_dice_here"] (defScope zL_number) := ⟨rfl, rfl, rfl, by decide +kernel, rfl, by decide +kernel, by decide +kernel⟩
theorem ok_L_number (T : Tx K mg) (c_L_lowest : Cal P w K mg base 1 "_law_lowest" (spMade K) []) (c_L_draw : Cal P w K mg base 1 "_law_draw" spDraw []) : Cal P w K mg base 2 "_law_number" (spNumber K) [] := by
  refine mk_cal (k := 1) T 40 rfl rfl sc_L_number (fun _ _ _ _ _ _ us hl => match us, hl with | [_], _ => rfl) (fun vs H Q E h => ?_) (fun f cdv A outer s H vs Q E hr h => ?_)
  · obtain ⟨d, c, rfl, _⟩ := h
    rfl
  · obtain ⟨d, c, rfl, hD, q⟩ := h
    refine ⟨_, (pss_cons (ps_set (i := 1) sc_L_number.nd rfl (Or.inl rfl) (pe_ix (ixL K) (pe_lst (pa_cons pe_int (pa_cons pe_int (pa_cons pe_int (pa_cons pe_int (pa_cons pe_int (pa_cons pe_int (pa_cons pe_int (pa_cons pe_int (pa_cons pe_int (pa_cons pe_int (pa_cons pe_int pa_nil)))))))))))) (pe_c c_L_draw hr (by first | decide | omega) rfl (pa_cons (pv 0) (pa_cons pe_int pa_nil))) (fun _ _ => rfl)))
      (pss_one (ps_ret (pe_c c_L_lowest hr (by first | decide | omega) rfl (pa_cons (pe_c c_L_draw hr (by first | decide | omega) rfl (pa_cons (pv 0) (pa_cons (pe_op op_add (pv 1) pe_int) pa_nil))) (pa_cons (pv 1) pa_nil)))))), ?_⟩
    refine ⟨(by show 11 ≤ sizeLine; decide), fun p hp => ?_⟩
    have s1 := same_new hp (.lst [.int 1, .int 2, .int 3, .int 4, .int 5, .int 6, .int 8, .int 10, .int 12, .int 60, .int 999983])
    have np := (hD.ne hp).1
    refine ⟨_, rfl, d, c, 11, rfl, by decide, by decide, hD.same s1, fun H1 r1 k1 hD1 ⟨i, e, i0, i1⟩ => ?_⟩
    subst e
    obtain ⟨j, rfl⟩ : ∃ j : Nat, i = (j : Int) := ⟨i.toNat, by omega⟩
    obtain ⟨b, hb, b1, b2⟩ := bots j (by omega)
    have hp1 : H1 p = _ := k1 p _ upd_same np
    refine ⟨p, _, _, _, rfl, rfl, SqL.of hp1, atI_nat hb, ?_⟩
    refine ⟨_, rfl, _, rfl, _, _, rfl, rfl, d, c, _, rfl, by omega, by omega, hD1, fun H2 r2 k2 hD2 ⟨t, e, t0, t1⟩ => ?_⟩
    subst e
    obtain ⟨hN, hBt⟩ := made_num t0 (show t ≤ b by omega) (by omega) b2
    refine ⟨_, rfl, t, b, rfl, by omega, ?_, fun H3 r3 s3 h3 => q _ _ (((Same.kq s1).trans k1).trans (k2.trans (Same.kq s3))) (hD2.same s3) ⟨_, h3, hN, hBt⟩⟩
    exact Nat.lt_of_lt_of_le (show b.natAbs < 2 ^ 20 by show b.natAbs < 1048576; omega) (Nat.pow_le_pow_right (by decide) (by decide))
def spNumbers (K : PySem.W.Frag) : Sp := fun vs H Q _ => ∃ (d c : Addr) (n : Nat), vs = [.ref d, .int n] ∧ n ≤ 6 ∧ DiAt H d c ∧ RetD H d c Q (fun H' r => ∃ fs, TpAt K H' r fs ∧ fs.length = n ∧ ∀ f ∈ fs, Num f ∧ Bt 20 f)
/-- what stands at each of the values -/
theorem pick {α : Type} {R : V → α → Prop} : ∀ {us : List V}, (∀ u ∈ us, ∃ f, R u f) → ∃ fs : List α, All2 R us fs
  | [], _ => ⟨[], .nil⟩
  | u :: us, h => by
    obtain ⟨f, r⟩ := h u (List.mem_cons_self ..)
    obtain ⟨fs, rs⟩ := pick (us := us) fun x hx => h x (List.mem_cons_of_mem _ hx)
    exact ⟨f :: fs, .cons r rs⟩
theorem sc_L_numbers : FnScope ["_law_dice_here", "_law_many", "_law_k"] ["_law_dice_here", "_law_many"] (defScope zL_numbers) := ⟨rfl, rfl, rfl, by decide +kernel, rfl, by decide +kernel, by decide +kernel⟩
theorem ok_L_numbers (T : Tx K mg) (c_L_number : Cal P w K mg base 2 "_law_number" (spNumber K) []) : Cal P w K mg base 3 "_law_numbers" (spNumbers K) [] := by
  refine mk_cal (k := 2) T 41 rfl rfl sc_L_numbers (fun _ _ _ _ _ _ us hl => match us, hl with | [_, _], _ => rfl) (fun vs H Q E h => ?_) (fun f cdv A outer s H vs Q E hr h => ?_)
  · obtain ⟨d, c, n, rfl, _⟩ := h
    rfl
  · obtain ⟨d, c, n, rfl, h6, hD, q⟩ := h
    refine ⟨_, (pss_one (ps_ret (pe_callTy (tupO K) rfl T.b_tuple (by decide +kernel) (pa_cons (pe_lc (own := [("_law_k", 2)]) (g := (gName 2)) rfl sc_L_numbers.nd (pi_range1 rfl T.b_range (pa_cons (pv 1) pa_nil)) (blkOk_by (own := [("_law_k", 2)]) (N := ["_law_dice_here", "_law_many", "_law_k"]) (sc := defScope zL_numbers) (by decide +kernel)) (fun _ _ _ _ _ => (pg_name (i := 2) sc_L_numbers.nd rfl (Or.inl rfl))) (fun _ _ _ _ _ => pts_nil) (fun _ _ _ _ _ => (pe_c c_L_number hr (by first | decide | omega) rfl (pa_cons (pv 0) pa_nil)))) pa_nil)))), ?_⟩
    have hn62 : (n : Int) < 2 ^ 62 := by
      have : (6 : Int) < 2 ^ 62 := by decide
      omega
    have hn62' : -(2 ^ 62) ≤ (n : Int) := by
      have : -(2 ^ 62) ≤ (0 : Int) := by decide
      omega
    refine ⟨_, rfl, n, rfl, hn62', hn62, fun D hDn => ?_⟩
    obtain ⟨n1, n2⟩ := hD.ne hDn
    refine lc_gen (K := K) (walk_range (lo := 0) (n := n)) (fun b => b = d) (fun H => DiAt H d c) (fun _ => true) (fun _ H y => ∃ f, FrAt K H y f ∧ Num f ∧ Bt 20 f) hDn n1 (len60 (by omega)) (fun H j => j.lst) (fun _ _ => trivial) hD (fun H o j => j.upd n1 n2) (fun _ _ _ _ k ⟨f, r, x⟩ => ⟨f, r.keep k, x⟩) ?_ ?_
    · rintro i x H0 H1 hi k1 hD1 ⟨rfl, rfl⟩ Q' N qq _
      exact ⟨rfl, _, rfl, d, c, rfl, hD1, fun H3 r3 k3 hD3 hr => qq _ _ rfl k3 hD3 hr⟩
    · intro H1 us k1 hD1 hus ha
      rw [filt_true] at ha
      have lu := ha.len
      rw [List.length_range] at lu
      obtain ⟨fs, rs⟩ := pick (R := fun u f => FrAt K H1 u f ∧ Num f ∧ Bt 20 f) (us := us) fun u hu => by
        obtain ⟨i, hi⟩ := List.mem_iff_getElem?.mp hu
        obtain ⟨_, _, r⟩ := ha.get' hi
        exact r
      have lf := rs.len
      refine ⟨D, us, rfl, .inl ⟨SqL.of hus, fun t ht => ?_⟩⟩
      have st := same_new ht (.tup us)
      refine q _ _ (k1.trans (Same.kq st)) (hD1.same st) ⟨fs, ⟨t, us, rfl, SqT.of upd_same, rs.imp fun _ _ r => r.1.keep (Same.keepT st)⟩, by omega, fun f hf => ?_⟩
      obtain ⟨i, hi⟩ := List.mem_iff_getElem?.mp hf
      obtain ⟨_, _, r⟩ := rs.get' hi
      exact r.2
def spAtEnds (K : PySem.W.Frag) : Sp := fun vs H Q _ => ∃ (n : Nat) (z : V) (lot : Lot), vs = [.int n, z] ∧ n ≤ 6 ∧ LtAt K H z lot ∧ Ret H Q (fun H' r => TpAt K H' r (ends n lot))
theorem sc_L_at_ends : FnScope ["_law_people", "_law_lot", "_law_person"] ["_law_people", "_law_lot"] (defScope zL_at_ends) := ⟨rfl, rfl, rfl, by decide +kernel, rfl, by decide +kernel, by decide +kernel⟩
theorem ok_L_at_ends (T : Tx K mg)  : Cal P w K mg base 1 "_law_at_ends" (spAtEnds K) [] := by
  refine mk_cal (k := 0) T 47 rfl rfl sc_L_at_ends (fun _ _ _ _ _ _ us hl => match us, hl with | [_, _], _ => rfl) (fun vs H Q E h => ?_) (fun f cdv A outer s H vs Q E hr h => ?_)
  · obtain ⟨n, z, lot, rfl, _⟩ := h
    rfl
  · obtain ⟨n, z, lot, rfl, h6, ⟨c, rfl, hC⟩, q⟩ := h
    refine ⟨_, (pss_one (ps_ret (pe_callTy (tupO K) rfl T.b_tuple (by decide +kernel) (pa_cons (pe_lc (own := [("_law_person", 2)]) (g := (gName 2)) rfl sc_L_at_ends.nd (pi_range1 rfl T.b_range (pa_cons (pv 0) pa_nil)) (blkOk_by (own := [("_law_person", 2)]) (N := ["_law_people", "_law_lot", "_law_person"]) (sc := defScope zL_at_ends) (by decide +kernel)) (fun _ _ _ _ _ => (pg_name (i := 2) sc_L_at_ends.nd rfl (Or.inl rfl))) (fun _ _ _ _ _ => pts_nil) (fun _ _ _ _ _ => (pe_ifExp (pt_cmpR (inS K) (pv 2) (pv 1) rfl) (pe_tup (pa_cons pe_int (pa_cons pe_int pa_nil))) (pe_tup (pa_cons pe_int (pa_cons pe_int pa_nil)))))) pa_nil)))), ?_⟩
    have hn62 : (n : Int) < 2 ^ 62 := by
      have : (6 : Int) < 2 ^ 62 := by decide
      omega
    have hn62' : -(2 ^ 62) ≤ (n : Int) := by
      have : -(2 ^ 62) ≤ (0 : Int) := by decide
      omega
    refine ⟨_, rfl, n, rfl, hn62', hn62, fun D hD => ?_⟩
    refine lc_map (K := K) (walk_range (lo := 0) (n := n)) (fun i H y => FrAt K H y (if lot.contains i = true then (1, 1) else (0, 1))) hD (len60 (by omega)) (fun _ _ => trivial) (fun _ _ _ _ k r => r.keep k) ?_ ?_
    · rintro i x H0 H1 hi s ⟨rfl, rfl⟩ Q' N qq
      have ep : V.int (0 + (i : Int)) = V.int (i : Nat) := by rw [Int.zero_add]
      refine ⟨rfl, _, rfl, _, rfl, c, _, rfl, .inr (Same.keepT s c _ hC), rfl, lotV_flat lot, _, rfl, ?_⟩
      show if inV (V.int (0 + (i : Int))) (lotV lot) = true then _ else _
      rw [ep, lotV_in]
      refine ite2 (fun cc => ?_) (fun cc => ?_)
      · refine ⟨(by show 2 ≤ sizeLine; decide), fun p hp => qq _ _ (same_new hp _) ?_⟩
        rw [if_pos cc]
        exact ⟨p, rfl, SqT.of upd_same⟩
      · refine ⟨(by show 2 ≤ sizeLine; decide), fun p hp => qq _ _ (same_new hp _) ?_⟩
        rw [if_neg cc]
        exact ⟨p, rfl, SqT.of upd_same⟩
    · intro H1 ys s hys lys fys
      refine ⟨D, ys, rfl, .inl ⟨SqL.of hys, fun t ht => ?_⟩⟩
      have s2 := same_new ht (.tup ys)
      refine q _ _ (s.trans s2) ⟨t, ys, rfl, SqT.of upd_same, All2.of_get (by rw [lys]; simp [ends]) fun i y f hy hf => ?_⟩
      unfold ends at hf
      rw [List.getElem?_map] at hf
      have hi : i < n := by
        have := (List.getElem?_eq_some_iff.mp hy).1
        omega
      rw [List.getElem?_range hi] at hf
      rw [← Option.some.inj hf]
      exact (fys i y hy).keep (Same.keepT s2)
end
end Cb
namespace Cb
open PySem PySem.Spec PyProof.Rows L2
open C8 (Cal Mak pe_c pe_mk pe_gc)
section
variable {P : Program} {w : World} {K : PySem.W.Frag} {mg : Str → Option Value} {base : Heap}
theorem sized_len (L : List Lot) : ∀ i, (sized L i).length ≤ i * L.length
  | 0 => by simp [sized]
  | i + 1 => by
    have := sized_len L i
    have e : (sized L (i + 1)).length = (sized L i).length + (L.filter fun x => decide (x.length = i)).length := by
      show (sized L i ++ sortL (L.filter fun x => decide (x.length = i))).length = _
      rw [List.length_append, (sortL_perm _).length_eq]
    have l := List.length_filter_le (fun x : Lot => decide (x.length = i)) L
    rw [e, Nat.add_mul, Nat.one_mul]
    omega
def spBySize (K : PySem.W.Frag) : Sp := fun vs H Q _ => ∃ (v : V) (L : List Lot), vs = [v] ∧ LLsAt K H v L ∧ L.length ≤ 64 ∧ (L.filter fun x => decide (x.length = 0)).length ≤ 1 ∧ Ret H Q (fun H' r => LLsAt K H' r (sized L L.length))
theorem sc_L_by_size : FnScope ["_law_lots_here", "_law_found", "_law_size", "_law_lot"] ["_law_lots_here"] (defScope zL_by_size) := ⟨rfl, rfl, rfl, by decide +kernel, rfl, by decide +kernel, by decide +kernel⟩
theorem ok_L_by_size (T : Tx K mg)  : Cal P w K mg base 1 "_law_by_size" (spBySize K) [] := by
  refine mk_cal (k := 0) T 46 rfl rfl sc_L_by_size (fun _ _ _ _ _ _ us hl => match us, hl with | [_], _ => rfl) (fun vs H Q E h => ?_) (fun f cdv A outer s H vs Q E hr h => ?_)
  · obtain ⟨v, L, rfl, _⟩ := h
    rfl
  · obtain ⟨v, L, rfl, ⟨a, us, rfl, hA, rA⟩, h64, h0, q⟩ := h
    refine ⟨_, (pss_cons (ps_set (i := 1) sc_L_by_size.nd rfl (Or.inl rfl) (pe_lst pa_nil))
      (pss_cons (ps_for PassesOwn.never rfl (pi_range1 rfl T.b_range (pa_cons (pe_callB (lenS K) rfl T.b_len (by decide +kernel) (pa_cons (pv 0) pa_nil)) pa_nil)) (pg_name (i := 2) sc_L_by_size.nd rfl (Or.inr rfl)) (pss_one (ps_set (i := 1) sc_L_by_size.nd rfl (Or.inl rfl) (pe_op op_cat (pv 1) (pe_callB (srtL K) rfl T.b_sorted (by decide +kernel) (pa_cons (pe_lc (own := [("_law_lot", 3)]) (g := (gName 3)) rfl sc_L_by_size.nd (pi_list (pv 0)) (blkOk_by (own := [("_law_lot", 3)]) (N := ["_law_lots_here", "_law_found", "_law_size", "_law_lot"]) (sc := defScope zL_by_size) (by decide +kernel)) (fun _ _ _ _ _ => (pg_name (i := 3) sc_L_by_size.nd rfl (Or.inl rfl))) (fun _ _ _ _ _ => (pts_one (pt_cmpR op_eq (pe_callB (lenS K) rfl T.b_len (by decide +kernel) (pa_cons (pv 3) pa_nil)) (pv 2) (nomark _)))) (fun _ _ _ _ _ => (pv 3))) pa_nil))))))
      (pss_one (ps_ret (pv 1))))), ?_⟩
    have la := rA.len
    have hn62 : (us.length : Int) < 2 ^ 62 := by
      have : (64 : Int) < 2 ^ 62 := by decide
      omega
    have hn62' : -(2 ^ 62) ≤ (us.length : Int) := by
      have : -(2 ^ 62) ≤ (0 : Int) := by decide
      omega
    refine ⟨(by show 0 ≤ sizeLine; decide), fun F hF => ?_⟩
    have s0 := same_new hF (.lst [])
    refine ⟨_, rfl, a, us, rfl, .inl (s0.seq hA), us.length, rfl, hn62', hn62, for_range (lo := 0) (n := us.length) (fun i σ H' => ∃ x F fs, σ = [some (.ref a), some (.ref F), x, none] ∧ Same H H' ∧ H' F = some (.lst fs) ∧ Lts K H' fs (sized L i))
      ⟨none, F, [], rfl, s0, upd_same, .nil⟩ ?_ ?_⟩
    · rintro i σ H2 hi ⟨x, F, fs, rfl, s, hFs, rF⟩
      have hA2 := s.seq hA
      have lF := rF.len
      have lz := sized_len L i
      have lm : i * L.length ≤ 64 * 64 := Nat.mul_le_mul (by omega) h64
      refine ⟨_, rfl, _, rfl, a, rfl, ⟨_, hA2⟩, fun D hD => ?_⟩
      refine lc_gen (K := K) (walk_list (K := K) (a := a) (xs := us)) (fun _ => False) (fun _ => True) (fun j => (fun l : Lot => decide (l.length = i)) (L.getD j [])) (fun j H y => LtAt K H y (L.getD j [])) hD (fun z => z) (small1000 (by omega)) (fun _ _ _ z => z.elim) (fun H1 k => k.same.seq hA2) trivial (fun _ _ _ => trivial) (fun _ _ _ _ k r => r.keep k) ?_ ?_
      · rintro j y H0 H3 hj k3 _ ⟨rfl, hy⟩ Q' N qq nn
        obtain ⟨l, hl, r⟩ := rA.get hy
        have e : L.getD j [] = l := getD_get hl
        have r3 := r.keep (Same.keepT (s.trans k3.same) : KeepT K H H3)
        obtain ⟨c, rfl, hc⟩ := r3
        refine ⟨rfl, _, rfl, c, _, rfl, .inr hc, _, rfl, rfl, _, rfl, ?_⟩
        rw [lotV_len]
        by_cases c2 : l.length = i
        · refine ifT (by rw [c2, Int.zero_add] <;> rfl) ⟨_, rfl, qq _ _ (by show decide ((L.getD j []).length = i) = true; rw [e]; exact decide_eq_true c2) Kq.refl trivial (by rw [e]; exact ⟨c, rfl, hc⟩)⟩
        · refine ifF (fun z => c2 (by injection z with z; omega)) (nn _ (by show decide ((L.getD j []).length = i) = false; rw [e]; exact decide_eq_false c2) Kq.refl trivial)
      · intro H3 os k3 _ hos ha
        have s3 := k3.same
        have rs : Lts K H3 os (L.filter fun l => decide (l.length = i)) := by
          have := All2.of_map (R := fun (l : Lot) y => LtAt K H3 y l) (f := fun j => L.getD j []) (ha.imp fun _ _ r => r)
          rw [la, idx_filter L [] fun l : Lot => decide (l.length = i)] at this
          exact this.flip
        have hF3 := s3 _ _ hFs
        have lo := rs.len
        have lf := List.length_filter_le (fun l : Lot => decide (l.length = i)) L
        refine ⟨D, os, (L.filter fun l => decide (l.length = i)).map iLot, rfl, SqL.of hos, lots_fwd rs, fun h2 l hl => ?_, fun ys L' p hb hp hs hn => ?_⟩
        · obtain ⟨m, hm, rfl⟩ := List.mem_map.mp hl
          have hm2 := of_decide_eq_true (List.mem_filter.mp hm).2
          cases i with
          | zero =>
            rw [List.length_map] at h2
            omega
          | succ i =>
            intro z
            have : m.length = 0 := by
              have := congrArg List.length z
              unfold iLot at this
              rw [List.length_map] at this
              exact this
            omega
        · have sy := same_new hn (.lst ys)
          have ry := (lots_back hb hp hs).keep (Same.keepT sy : KeepT K H3 _)
          have hFp := sy _ _ hF3
          have ly := ry.len
          rw [(sortL_perm _).length_eq] at ly
          refine ⟨F, p, fs, ys, rfl, rfl, hFp, upd_same, Nat.le_of_lt (Nat.lt_of_le_of_lt (by omega) (by decide : 8192 < sizeLine)), fun t ht => ?_⟩
          have st := same_new ht (.lst (fs ++ ys))
          refine ⟨_, t, fs ++ ys, rfl, (((s.trans s3).trans sy).trans st), upd_same, ?_⟩
          exact ((rF.keep (Same.keepT ((s3.trans sy).trans st))).app (ry.keep (Same.keepT st)) : Lts K _ (fs ++ ys) (sized L i ++ sortL (L.filter fun x => decide (x.length = i))))
    · rintro σ H2 ⟨x, F, fs, rfl, s, hFs, rF⟩
      rw [la] at rF
      exact ⟨_, rfl, q _ _ s ⟨F, fs, rfl, SqL.of hFs, rF⟩⟩
theorem subs_in : ∀ (k : Nat) (l : Lot), l ∈ subs k → l.length ≤ k
  | 0, l, h => by
    have : l = [] := List.mem_singleton.mp h
    rw [this]
    exact Nat.le_refl _
  | k + 1, l, h => by
    have h' : l ∈ subs k ++ (subs k).map fun l => l ++ [k] := h
    rcases List.mem_append.mp h' with h | h
    · have := subs_in k l h
      omega
    · obtain ⟨m, hm, rfl⟩ := List.mem_map.mp h
      have := subs_in k m hm
      rw [List.length_append]
      show m.length + 1 ≤ k + 1
      omega
theorem subs_nil : ∀ n, 1 ≤ n → n ≤ 6 → ((subs n).filter fun x => decide (x.length = 0)).length ≤ 1 := by
  intro n h1 h2
  match n, h1, h2 with
  | 1, _, _ => decide +kernel
  | 2, _, _ => decide +kernel
  | 3, _, _ => decide +kernel
  | 4, _, _ => decide +kernel
  | 5, _, _ => decide +kernel
  | 6, _, _ => decide +kernel
theorem subs_64 {n i : Nat} (h : n ≤ 6) (hi : i ≤ n) : (subs i).length ≤ 64 := by
  rw [subs_len]
  show 2 ^ i ≤ 2 ^ 6
  exact Nat.pow_le_pow_right (by decide) (by omega)
def spLLots (K : PySem.W.Frag) : Sp := fun vs H Q _ => ∃ n : Nat, vs = [.int n] ∧ 1 ≤ n ∧ n ≤ 6 ∧ Ret H Q (fun H' r => LLsAt K H' r (LL n))
theorem sc_L_lots : FnScope ["_law_people", "_law_found", "_law_person", "_law_lot"] ["_law_people"] (defScope zL_lots) := ⟨rfl, rfl, rfl, by decide +kernel, rfl, by decide +kernel, by decide +kernel⟩
theorem ok_L_lots (T : Tx K mg) (c_L_by_size : Cal P w K mg base 1 "_law_by_size" (spBySize K) []) : Cal P w K mg base 2 "_law_lots" (spLLots K) [] := by
  refine mk_cal (k := 1) T 45 rfl rfl sc_L_lots (fun _ _ _ _ _ _ us hl => match us, hl with | [_], _ => rfl) (fun vs H Q E h => ?_) (fun f cdv A outer s H vs Q E hr h => ?_)
  · obtain ⟨n, rfl, _⟩ := h
    rfl
  · obtain ⟨n, rfl, h1, h6, q⟩ := h
    refine ⟨_, (pss_cons (ps_set (i := 1) sc_L_lots.nd rfl (Or.inl rfl) (pe_lst (pa_cons (pe_tup pa_nil) pa_nil)))
      (pss_cons (ps_for PassesOwn.never rfl (pi_range1 rfl T.b_range (pa_cons (pv 0) pa_nil)) (pg_name (i := 2) sc_L_lots.nd rfl (Or.inr rfl)) (pss_one (ps_set (i := 1) sc_L_lots.nd rfl (Or.inl rfl) (pe_op op_cat (pv 1) (pe_lc (own := [("_law_lot", 3)]) (g := (gName 3)) rfl sc_L_lots.nd (pi_list (pv 1)) (blkOk_by (own := [("_law_lot", 3)]) (N := ["_law_people", "_law_found", "_law_person", "_law_lot"]) (sc := defScope zL_lots) (by decide +kernel)) (fun _ _ _ _ _ => (pg_name (i := 3) sc_L_lots.nd rfl (Or.inl rfl))) (fun _ _ _ _ _ => pts_nil) (fun _ _ _ _ _ => (pe_op (catA K) (pv 3) (pe_tup (pa_cons (pv 2) pa_nil)))))))))
      (pss_one (ps_ret (pe_c c_L_by_size hr (by first | decide | omega) rfl (pa_cons (pv 1) pa_nil)))))), ?_⟩
    have hn62 : (n : Int) < 2 ^ 62 := by
      have : (6 : Int) < 2 ^ 62 := by decide
      omega
    have hn62' : -(2 ^ 62) ≤ (n : Int) := by
      have : -(2 ^ 62) ≤ (0 : Int) := by decide
      omega
    refine ⟨(by show 0 ≤ sizeLine; decide), fun t0 ht0 => ⟨(by show 1 ≤ sizeLine; decide), fun F hF => ?_⟩⟩
    have s0 := (same_new ht0 (.tup [])).trans (same_new hF (.lst [.ref t0]))
    have e0 : upd (upd H t0 (.tup [])) F (.lst [.ref t0]) t0 = some (.tup []) := by
      rw [upd_ne (ne_of_none upd_same hF)]
      exact upd_same
    refine ⟨_, rfl, n, rfl, hn62', hn62, for_range (lo := 0) (n := n) (fun i σ H' => ∃ x F fs, σ = [some (.int n), some (.ref F), x, none] ∧ Same H H' ∧ H' F = some (.lst fs) ∧ Lts K H' fs (subs i))
      ⟨none, F, [.ref t0], rfl, s0, upd_same, .cons ⟨t0, rfl, SqT.of e0⟩ .nil⟩ ?_ ?_⟩
    · rintro i σ H2 hi ⟨x, F, fs, rfl, s, hFs, rF⟩
      have lF := rF.len
      have l64 := subs_64 h6 (show i ≤ n by omega)
      refine ⟨_, rfl, _, rfl, F, rfl, ⟨_, SqL.of hFs⟩, fun D hD => ?_⟩
      refine lc_map (K := K) (walk_list (K := K) (a := F) (xs := fs)) (fun j H y => ∃ l, (subs i)[j]? = some l ∧ LtAt K H y (l ++ [i])) hD (small1000 (by omega)) (fun H1 s => s.seq (SqL.of hFs)) (fun _ _ _ _ k ⟨l, e, r⟩ => ⟨l, e, r.keep k⟩) ?_ ?_
      · rintro j y H0 H3 hj s3 ⟨rfl, hy⟩ Q' N qq
        obtain ⟨l, hl, r⟩ := rF.get hy
        have hll := subs_in i l (List.mem_of_getElem? hl)
        have r3 := r.keep (Same.keepT s3 : KeepT K H2 H3)
        obtain ⟨c, rfl, hc⟩ := r3
        refine ⟨rfl, _, rfl, _, rfl, (by show 1 ≤ sizeLine; decide), fun t2 ht2 => ?_⟩
        have st := same_new ht2 (.tup [.int (0 + (i : Nat))])
        have ep : V.int (0 + (i : Int)) = V.int (i : Nat) := by rw [Int.zero_add]
        refine ⟨c, t2, lotV l, [.int (0 + (i : Nat))], rfl, rfl, Same.keepT st c _ hc, SqT.of upd_same, ?_, fun e => ?_, fun _ e => ?_, fun _ _ t3 ht3 => ?_⟩
        · rw [lotV_len]
          exact Nat.le_of_lt (small1000 (by
            show l.length + 1 ≤ 1000
            omega))
        · refine qq _ _ st ⟨l, hl, t2, rfl, ?_⟩
          rw [lotV_snoc, e, ← ep]
          exact SqT.of upd_same
        · cases e
        · refine qq _ _ (st.trans (same_new ht3 _)) ⟨l, hl, t3, rfl, ?_⟩
          rw [lotV_snoc, ← ep]
          exact SqT.of upd_same
      · intro H3 us s3 hus lus fus
        have rs : Lts K H3 us ((subs i).map fun l => l ++ [i]) := All2.of_get (by rw [List.length_map]; omega) fun j y l hy hl => by
          obtain ⟨m, hm, r⟩ := fus j y hy
          rw [List.getElem?_map, hm] at hl
          rw [← Option.some.inj hl]
          exact r
        have hF3 := s3 _ _ hFs
        refine ⟨F, D, fs, us, rfl, rfl, hF3, hus, Nat.le_of_lt (small1000 (by omega)), fun t ht => ?_⟩
        have st := same_new ht (.lst (fs ++ us))
        refine ⟨_, t, fs ++ us, rfl, (s.trans s3).trans st, upd_same, ?_⟩
        exact (rF.keep (Same.keepT (s3.trans st))).app (rs.keep (Same.keepT st))
    · rintro σ H2 ⟨x, F, fs, rfl, s, hFs, rF⟩
      exact ⟨_, rfl, .ref F, subs n, rfl, ⟨F, fs, rfl, SqL.of hFs, rF⟩, subs_64 h6 (Nat.le_refl _), subs_nil n h1 h6, fun H' r s2 h => q _ _ (s.trans s2) h⟩
end
end Cb
namespace Cb
open PySem PySem.Spec PyProof.Rows L2
open C8 (Cal Mak pe_c pe_mk pe_gc)
section
variable {P : Program} {w : World} {K : PySem.W.Frag} {mg : Str → Option Value} {base : Heap}
theorem at_last {us : List V} {x : V} (h : us[us.length - 1]? = some x) : atI us (-1) = some x := by
  have hn : us ≠ [] := fun e => by rw [e] at h; cases h
  obtain ⟨m, p, rfl⟩ : ∃ m p, us = m ++ [p] := ⟨us.dropLast, us.getLast hn, (List.dropLast_concat_getLast hn).symm⟩
  rw [atI_last]
  rw [List.length_append, show m.length + [p].length - 1 = m.length by show m.length + 1 - 1 = m.length; omega, List.getElem?_append_right (Nat.le_refl _), Nat.sub_self] at h
  exact h
theorem sum_part {ps : List (Int × Fr)} {cs : List Nat} (hok : All2 (fun (p : Int × Fr) c => 1 ≤ p.1 ∧ p.1 ≤ 99 ∧ Lo p.2 ∧ Bt (64 * c) p.2) ps cs) (h6 : ps.length ≤ 6) (hcs : cs.sum ≤ 59) (i : Nat) : Lo (fSum (ps.take i)) ∧ Bt 4000 (fSum (ps.take i)) := by
  have wt : Wt ps := fun p hp => by
    obtain ⟨i, hi⟩ := List.mem_iff_getElem?.mp hp
    obtain ⟨c, _, r⟩ := hok.get hi
    exact ⟨r.1, r.2.2.1.1⟩
  refine ⟨fSum_lo fun p hp => wt p (List.mem_of_mem_take hp), ?_⟩
  have b := sum_bt _ _ (0, 1) 1 lo_zero ⟨by decide, by decide⟩ (hok.take i)
  refine b.mono ?_
  have e1 := szW_le (cs.take i)
  have e2 := sum_take_le cs i
  have e3 := hok.len
  have e4 : (cs.take i).length ≤ cs.length := by rw [List.length_take]; omega
  omega
theorem sc_L_value : FnScope ["_law_term_here", "_law_bids", "_law_word", "_law_whole", "_law_weight", "_law_part", "_law_told"] ["_law_term_here", "_law_bids"] (defScope zL_value) := ⟨rfl, rfl, rfl, by decide +kernel, rfl, by decide +kernel, by decide +kernel⟩
theorem ok_L_value {n : Nat} (T : Tx K mg) (c_L_value : Cal P w K mg base (2 + n) "_law_value" (spVal K n) []) (c_L_sorted : Cal P w K mg base 2 "_law_sorted" (spAsc K) []) (c_L_product : Cal P w K mg base 2 "_law_product" (spTimes K) []) (c_L_sum : Cal P w K mg base 2 "_law_sum" (spLSum K) []) : Cal P w K mg base (2 + (n + 1)) "_law_value" (spVal K (n + 1)) [] := by
  refine mk_cal (k := (2 + n)) T 44 rfl rfl sc_L_value (fun _ _ _ _ _ _ us hl => match us, hl with | [_, _], _ => rfl) (fun vs H Q E h => ?_) (fun f cdv A outer s H vs Q E hr h => ?_)
  · obtain ⟨people, v, b, us, t, bids, rfl, _⟩ := h
    rfl
  · obtain ⟨people, v, b, us, t, bids, rfl, hT, hW, hc, hS, hF, hB, q⟩ := h
    refine ⟨_, (pss_cons (ps_set (i := 2) sc_L_value.nd rfl (Or.inl rfl) (pe_ix (ixT K) (pv 0) pe_int (fun _ _ => rfl)))
      (pss_cons (ps_if (pt_cmpR op_eq (pv 2) pe_str (nomark _)) (pss_one (ps_ret (pe_ix (ixT K) (pv 1) (pe_ix (ixT K) (pv 0) pe_int (fun _ _ => rfl)) (fun _ _ => rfl)))) pss_nil)
      (pss_cons (ps_if (pt_cmpR op_eq (pv 2) pe_str (nomark _)) (pss_one (ps_ret (pe_ix (ixT K) (pv 0) pe_int (fun _ _ => rfl)))) pss_nil)
      (pss_cons (ps_if (pt_cmpR op_eq (pv 2) pe_str (nomark _)) (pss_cons (ps_set (i := 3) sc_L_value.nd rfl (Or.inl rfl) (pe_tup (pa_cons pe_int (pa_cons pe_int pa_nil))))
      (pss_cons (ps_for PassesOwn.never rfl (pi_tup (pe_ix (ixT K) (pv 0) pe_int (fun _ _ => rfl))) (pg_tup rfl (pgs_cons (pg_name (i := 4) sc_L_value.nd rfl (Or.inl rfl)) (pgs_cons (pg_name (i := 5) sc_L_value.nd rfl (Or.inl rfl)) pgs_nil))) (pss_one (ps_set (i := 3) sc_L_value.nd rfl (Or.inl rfl) (pe_c c_L_sum hr (by first | decide | omega) rfl (pa_cons (pv 3) (pa_cons (pe_c c_L_product hr (by first | decide | omega) rfl (pa_cons (pe_tup (pa_cons (pv 4) (pa_cons pe_int pa_nil))) (pa_cons (pe_c c_L_value hr (by first | decide | omega) rfl (pa_cons (pv 5) (pa_cons (pv 1) pa_nil))) pa_nil))) (pa_cons pe_int pa_nil)))))))
      (pss_one (ps_ret (pe_c c_L_product hr (by first | decide | omega) rfl (pa_cons (pv 3) (pa_cons (pe_tup (pa_cons pe_int (pa_cons (pe_callB (sumK K rfl) rfl T.b_sum (by decide +kernel) (pa_cons (pe_lc (own := [("_law_weight", 4), ("_law_part", 5)]) (g := (gTup K 2 (gCons (gName 4) (gCons (gName 5) gNil)))) rfl sc_L_value.nd (pi_tup (pe_ix (ixT K) (pv 0) pe_int (fun _ _ => rfl))) (blkOk_by (own := [("_law_weight", 4), ("_law_part", 5)]) (N := ["_law_term_here", "_law_bids", "_law_word", "_law_whole", "_law_weight", "_law_part", "_law_told"]) (sc := defScope zL_value) (by decide +kernel)) (fun _ _ _ _ _ => (pg_tup rfl (pgs_cons (pg_name (i := 4) sc_L_value.nd rfl (Or.inl rfl)) (pgs_cons (pg_name (i := 5) sc_L_value.nd rfl (Or.inl rfl)) pgs_nil)))) (fun _ _ _ _ _ => pts_nil) (fun _ _ _ _ _ => (pv 4))) pa_nil)) pa_nil))) pa_nil))))))) pss_nil)
      (pss_cons (ps_if (pt_cmpR op_eq (pv 2) pe_str (nomark _)) (pss_one (ps_ret (pe_ix (ixL K) (pe_c c_L_sorted hr (by first | decide | omega) rfl (pa_cons (pe_lst (pa_cons (pe_ix (ixT K) (pv 0) pe_int (fun _ _ => rfl)) (pa_cons (pe_ix (ixT K) (pv 0) pe_int (fun _ _ => rfl)) (pa_cons (pe_c c_L_value hr (by first | decide | omega) rfl (pa_cons (pe_ix (ixT K) (pv 0) pe_int (fun _ _ => rfl)) (pa_cons (pv 1) pa_nil))) pa_nil)))) pa_nil)) pe_int (fun _ _ => rfl)))) pss_nil)
      (pss_cons (ps_set (i := 6) sc_L_value.nd rfl (Or.inl rfl) (pe_c c_L_sorted hr (by first | decide | omega) rfl (pa_cons (pe_lc (own := [("_law_part", 5)]) (g := (gName 5)) rfl sc_L_value.nd (pi_tup (pe_ix (ixT K) (pv 0) (pe_un un_neg pe_int) (fun _ _ => rfl))) (blkOk_by (own := [("_law_part", 5)]) (N := ["_law_term_here", "_law_bids", "_law_word", "_law_whole", "_law_weight", "_law_part", "_law_told"]) (sc := defScope zL_value) (by decide +kernel)) (fun _ _ _ _ _ => (pg_name (i := 5) sc_L_value.nd rfl (Or.inl rfl))) (fun _ _ _ _ _ => pts_nil) (fun _ _ _ _ _ => (pe_c c_L_value hr (by first | decide | omega) rfl (pa_cons (pv 5) (pa_cons (pv 1) pa_nil))))) pa_nil)))
      (pss_cons (ps_if (pt_cmpR op_eq (pv 2) pe_str (nomark _)) (pss_one (ps_ret (pe_ix (ixL K) (pv 6) pe_int (fun _ _ => rfl)))) pss_nil)
      (pss_cons (ps_if (pt_cmpR op_eq (pv 2) pe_str (nomark _)) (pss_one (ps_ret (pe_ix (ixL K) (pv 6) (pe_un un_neg pe_int) (fun _ _ => rfl)))) pss_nil)
      (pss_one (ps_ret (pe_ix (ixL K) (pv 6) (pe_op op_sub (pe_callB (lenS K) rfl T.b_len (by decide +kernel) (pa_cons (pv 6) pa_nil)) (pe_ix (ixT K) (pv 0) pe_int (fun _ _ => rfl))) (fun _ _ => rfl)))))))))))), ?_⟩
    -- the numbers of the parts
    have parts : ∀ (b' : Addr) (vs' : List V) (ts : List Tm), SqT K H b' vs' → All2 (fun u t => TmAt K H n u t) vs' ts → ts.length ≤ 6 → (∀ t ∈ ts, Wf people n t) → (ts.map (cnt n)).sum ≤ 59 → ∀ (i : Nat) (x : V) (H2 : Hp), vs'[i]? = some x → Same H H2 →
        ∃ t, ts[i]? = some t ∧ TmAt K H2 n x t ∧ Wf people n t ∧ cnt n t ≤ 60 := fun b' vs' ts h1 h2 h6 hw hs i x H2 hx s => by
      obtain ⟨t, ht, r⟩ := h2.get hx
      have hm := List.mem_of_getElem? ht
      have := cnt_part (n := n) hm
      exact ⟨t, ht, TmAt.keep (Same.keepT s) n r, hw t hm, by omega⟩
    cases t with
    | bid p =>
      obtain ⟨a, rfl, hA⟩ := hT
      have hp : p < bids.length := by rw [hB.1]; exact hW
      obtain ⟨f, ef, e, _⟩ := getD_of (d := ((0, 1) : Fr)) hp
      obtain ⟨u, hu, r⟩ := hF.get' ef
      refine ⟨_, rfl, a, _, 0, _, rfl, rfl, hA, rfl, ?_⟩
      refine ⟨_, rfl, rfl, _, rfl, ifT rfl ?_⟩
      refine ⟨_, rfl, _, rfl, a, _, 1, _, rfl, rfl, hA, rfl, b, us, _, u, rfl, rfl, hS, atI_nat hu, q _ _ (Same.refl _) ?_⟩
      show FrAt K H u (bids.getD p (0, 1))
      rw [e]
      exact r
    | fixed f =>
      obtain ⟨a, u, rfl, hA, hu⟩ := hT
      refine ⟨_, rfl, a, _, 0, _, rfl, rfl, hA, rfl, ?_⟩
      refine ⟨_, rfl, rfl, _, rfl, ifF no_f_b ?_⟩
      refine ⟨_, rfl, rfl, _, rfl, ifT rfl ?_⟩
      exact ⟨_, rfl, a, _, 1, _, rfl, rfl, hA, rfl, q _ _ (Same.refl _) hu⟩
    | mean ps =>
      obtain ⟨a, b', vs', rfl, hA, hP, hl⟩ := hT
      obtain ⟨w1, w2, w3⟩ := hW
      have hle := hl.len
      have hc' : (ps.map fun p => cnt n p.2).sum ≤ 59 := by
        have : 1 + (ps.map fun p => cnt n p.2).sum ≤ 60 := hc
        omega
      have hok : All2 (fun (p : Int × Fr) c => 1 ≤ p.1 ∧ p.1 ≤ 99 ∧ Lo p.2 ∧ Bt (64 * c) p.2) (ps.map fun p => (p.1, val bids n p.2)) (ps.map fun p => cnt n p.2) :=
        All2.map (R := fun (p : Int × Fr) c => 1 ≤ p.1 ∧ p.1 ≤ 99 ∧ Lo p.2 ∧ Bt (64 * c) p.2) (f := fun p : Int × Tm => (p.1, val bids n p.2)) (g := fun p : Int × Tm => cnt n p.2) (All2.same fun p hp => by
          obtain ⟨x1, x2, wf⟩ := w3 p hp
          obtain ⟨v1, v2⟩ := val_ok hB n p.2 wf
          exact ⟨x1, x2, v1, v2⟩)
      have part := sum_part hok (by rw [List.length_map]; exact w2) hc'
      have wt : Wt (ps.map fun p => (p.1, val bids n p.2)) := fun p hp => by
        obtain ⟨i, hi⟩ := List.mem_iff_getElem?.mp hp
        obtain ⟨c, _, r⟩ := hok.get hi
        exact ⟨r.1, r.2.2.1.1⟩
      refine ⟨_, rfl, a, _, 0, _, rfl, rfl, hA, rfl, ?_⟩
      refine ⟨_, rfl, rfl, _, rfl, ifF no_m_b ?_⟩
      refine ⟨_, rfl, rfl, _, rfl, ifF no_m_f ?_⟩
      refine ⟨_, rfl, rfl, _, rfl, ifT rfl ?_⟩
      refine ⟨(by show 2 ≤ sizeLine; decide), fun t0 ht0 => ?_⟩
      have s0 := same_new ht0 (.tup [.int 0, .int 1])
      have k0 : KeepT K H _ := Same.keepT s0
      refine ⟨_, rfl, a, _, 1, _, rfl, rfl, k0 _ _ hA, rfl, b', rfl, ⟨_, k0 _ _ hP⟩, for_tup (K := K) (a := b') (xs := vs') (fun i σ H' => ∃ v x y, σ = [some (.ref a), some (.ref b), some (.str "mean"), some v, x, y, none] ∧ Same H H' ∧ FrAt K H' v (fSum ((ps.map fun p => (p.1, val bids n p.2)).take i)))
        ⟨_, none, none, rfl, s0, t0, rfl, SqT.of upd_same⟩ (fun i σ H' _ ⟨_, _, _, _, s, _⟩ => Same.keepT s b' _ hP) ?_ ?_⟩
      · rintro i x σ H2 hx ⟨v, x0, y0, rfl, s, hv⟩
        obtain ⟨p, hp, c, y, rfl, h1, h2⟩ := hl.get hx
        have hm := List.mem_of_getElem? hp
        have hcp := cnt_partM (n := n) hm
        have hpw : (ps.map fun p => (p.1, val bids n p.2))[i]? = some (p.1, val bids n p.2) := by rw [List.getElem?_map, hp] <;> rfl
        obtain ⟨x1, x2, wf⟩ := w3 p hm
        obtain ⟨o3, o4⟩ := val_ok hB n p.2 wf
        obtain ⟨p1, p2⟩ := part i
        have k2 : KeepT K H H2 := Same.keepT s
        refine ⟨c, [.int p.1, y], rfl, k2 c _ h1, rfl, _, _, rfl, _, _, rfl, rfl, ?_⟩
        refine ⟨_, rfl, _, rfl, (by show 2 ≤ sizeLine; decide), fun t3 ht3 => ?_⟩
        have s3 := same_new ht3 (.tup [.int p.1, .int 1])
        have k3 : KeepT K H _ := Same.keepT (s.trans s3)
        have bw : Bt 7 (p.1, 1) := ⟨by show p.1.natAbs < 128; omega, by show (1 : Int).natAbs < 2 ^ 7; decide⟩
        refine ⟨_, rfl, _, rfl, people, y, b, us, p.2, bids, rfl, TmAt.keep k3 n h2, wf, by omega, k3 _ _ hS, hF.keep k3, hB, fun H4 r4 s4 h4 => ?_⟩
        refine ⟨_, r4, (p.1, 1), _, rfl, ⟨t3, rfl, Same.keepT s4 t3 _ (SqT.of upd_same)⟩, h4, by show (0 : Int) < 1; decide, o3.1, bw.mono (by decide), o4.mono (by omega), fun H5 r5 s5 h5 => ?_⟩
        have bt2 := times_bt (a := (p.1, 1)) (by show (0 : Int) < 1; decide) o3.1 bw o4
        have s35 := (s3.trans s4).trans s5
        refine ⟨v, r5, _, _, rfl, hv.keep (Same.keepT s35), h5, p1.1, (times_lo (a := (p.1, 1)) (by show (0 : Int) < 1; decide) o3.1).1, p2, bt2.mono (by omega), fun H6 r6 s6 h6 => ?_⟩
        refine ⟨r6, _, _, rfl, (s.trans s35).trans s6, ?_⟩
        rw [take_snoc hpw]
        unfold fSum
        rw [List.foldl_append]
        exact h6
      · rintro σ H2 ⟨v, x0, y0, rfl, s, hv⟩
        have ev : (ps.map fun p => (p.1, val bids n p.2)).take vs'.length = ps.map fun p => (p.1, val bids n p.2) := List.take_of_length_le (by rw [List.length_map]; omega)
        rw [ev] at hv
        have p12 := part vs'.length
        rw [ev] at p12
        obtain ⟨p1, p2⟩ := p12
        have k2 : KeepT K H H2 := Same.keepT s
        refine ⟨_, rfl, _, rfl, a, _, 1, _, rfl, rfl, k2 _ _ hA, rfl, b', rfl, ⟨_, k2 _ _ hP⟩, fun D hD => ?_⟩
        refine lc_map (K := K) (walk_tup (K := K) (a := b') (xs := vs')) (fun i _ y => ∃ p, ps[i]? = some p ∧ y = .int p.1) hD (len60 (by omega)) (fun H1 s => Same.keepT s b' _ (k2 _ _ hP)) (fun _ _ _ _ _ r => r) ?_ ?_
        · rintro i x H0 H3 hi s3 ⟨rfl, hx⟩ Q' N qq
          obtain ⟨p, hp, c, y, rfl, h1, h2⟩ := hl.get hx
          exact ⟨c, [.int p.1, y], rfl, Same.keepT s3 c _ (k2 _ _ h1), rfl, _, _, rfl, _, _, rfl, rfl, rfl, _, rfl, qq _ _ (Same.refl _) ⟨p, hp, rfl⟩⟩
        · intro H3 ws s3 hws lws fws
          have ew : ws = (ps.map (·.1)).map V.int := by
            refine List.ext_getElem? fun i => ?_
            by_cases hi : i < ws.length
            · obtain ⟨p, hp, e⟩ := fws i _ (List.getElem?_eq_getElem hi)
              rw [List.getElem?_eq_getElem hi, e, List.getElem?_map, List.getElem?_map, hp]
              rfl
            · rw [List.getElem?_eq_none (by omega), List.getElem?_eq_none (by rw [List.length_map, List.length_map]; omega)]
          have esum : wSum (ps.map fun p => (p.1, val bids n p.2)) = (List.sum (ps.map fun x : Int × Tm => x.1)) := by
            unfold wSum
            rw [List.map_map] <;> rfl
          have wp := wSum_pos (by simpa using w1) wt
          have wl := (wSum_le (ps.map fun p => (p.1, val bids n p.2)) fun p hp => by
            obtain ⟨i, hi⟩ := List.mem_iff_getElem?.mp hp
            obtain ⟨c, _, r⟩ := hok.get hi
            exact ⟨r.1, r.2.1⟩).1
          rw [List.length_map] at wl
          rw [esum] at wp wl
          have b10 : ((List.sum (ps.map fun x : Int × Tm => x.1))).natAbs < 2 ^ 10 := by show ((List.sum (ps.map fun x : Int × Tm => x.1))).natAbs < 1024; omega
          refine ⟨D, ps.map (·.1), rfl, SqL.of (ew ▸ hws), (by show 2 ≤ sizeLine; decide), fun t4 ht4 => ?_⟩
          have s4 := same_new ht4 (.tup [.int 1, .int (List.sum (ps.map fun x : Int × Tm => x.1))])
          have b1 : Bt 10 (1, (List.sum (ps.map fun x : Int × Tm => x.1))) := ⟨by show (1 : Int).natAbs < 2 ^ 10; decide, b10⟩
          refine ⟨v, _, _, (1, (List.sum (ps.map fun x : Int × Tm => x.1))), rfl, hv.keep (Same.keepT (s3.trans s4)), ⟨t4, rfl, SqT.of upd_same⟩, p1.1, wp, p2, b1.mono (by decide), fun H5 r5 s5 h5 => q _ _ (((s.trans s3).trans s4).trans s5) ?_⟩
          show FrAt K H5 r5 (fMean (ps.map fun p => (p.1, val bids n p.2)))
          unfold fMean
          rw [esum]
          exact h5
    | between lo hi t =>
      obtain ⟨a, x, y, z, rfl, hA, hx, hy, hz⟩ := hT
      obtain ⟨w1, w2, w3, w4, w5, w6⟩ := hW
      have hc' : cnt n t ≤ 59 := by
        have : 1 + cnt n t ≤ 60 := hc
        omega
      refine ⟨_, rfl, a, _, 0, _, rfl, rfl, hA, rfl, ?_⟩
      refine ⟨_, rfl, rfl, _, rfl, ifF no_w_b ?_⟩
      refine ⟨_, rfl, rfl, _, rfl, ifF no_w_f ?_⟩
      refine ⟨_, rfl, rfl, _, rfl, ifF no_w_m ?_⟩
      refine ⟨_, rfl, rfl, _, rfl, ifT rfl ?_⟩
      refine ⟨_, rfl, a, _, 1, _, rfl, rfl, hA, rfl, _, rfl, a, _, 2, _, rfl, rfl, hA, rfl, _, rfl, a, _, 3, _, rfl, rfl, hA, rfl, _, rfl, ?_⟩
      refine ⟨people, z, b, us, t, bids, rfl, hz, w6, by omega, hS, hF, hB, fun H1 r s h1 => ?_⟩
      refine ⟨(by show 3 ≤ sizeLine; decide), fun p hp => ?_⟩
      have s1 := same_new hp (.lst [x, y, r])
      have k : KeepT K H _ := Same.keepT (s.trans s1)
      have k1 : KeepT K H1 _ := Same.keepT s1
      obtain ⟨o1, o2⟩ := val_ok hB n t w6
      refine ⟨_, [lo, hi, val bids n t], rfl, ⟨p, _, rfl, SqL.of upd_same, .cons (hx.keep k) (.cons (hy.keep k) (.cons (h1.keep k1) .nil))⟩, by simp, fun f hf => ?_, fun H2 r2 s2 hr => ?_⟩
      · simp only [List.mem_cons, List.mem_nil_iff, or_false] at hf
        rcases hf with rfl | rfl | rfl
        · exact ⟨w1.1.1, w2.mono (by decide)⟩
        · exact ⟨w3.1.1, w4.mono (by decide)⟩
        · exact ⟨o1.1, o2.mono (by omega)⟩
      · obtain ⟨b2, ws, rfl, hb, hw⟩ := hr
        obtain ⟨y, ey, e, _⟩ := asc_getD (l := [lo, hi, val bids n t]) (i := 1) (by simp)
        obtain ⟨z, hz, rz⟩ := hw.get' ey
        refine ⟨b2, ws, 1, z, rfl, rfl, hb, atI_nat (j := 1) hz, q _ _ ((s.trans s1).trans s2) ?_⟩
        show FrAt K H2 z (mid3 lo hi (val bids n t))
        unfold mid3
        rw [e]
        exact rz
    | ranked k ts =>
      obtain ⟨a, b', vs', rfl, hA, hP, hl⟩ := hT
      obtain ⟨w0, w1, w2, w3⟩ := hW
      have hle := hl.len
      have hc' : (ts.map (cnt n)).sum ≤ 59 := by
        have : 1 + (ts.map (cnt n)).sum ≤ 60 := hc
        omega
      refine ⟨_, rfl, a, _, 0, _, rfl, rfl, hA, rfl, ?_⟩
      refine ⟨_, rfl, rfl, _, rfl, ifF no_r_b ?_⟩
      refine ⟨_, rfl, rfl, _, rfl, ifF no_r_f ?_⟩
      refine ⟨_, rfl, rfl, _, rfl, ifF no_r_m ?_⟩
      refine ⟨_, rfl, rfl, _, rfl, ifF no_r_w ?_⟩
      refine ⟨_, rfl, 1, rfl, a, _, -1, _, rfl, rfl, hA, rfl, b', rfl, ⟨_, hP⟩, fun D hD => ?_⟩
      refine lc_map (K := K) (walk_tup (K := K) (a := b') (xs := vs')) (fun i H y => ∃ t, ts[i]? = some t ∧ FrAt K H y (val bids n t)) hD (len60 (by omega)) (fun H1 s => Same.keepT s b' _ hP) (fun _ _ _ _ k ⟨p, hp, r⟩ => ⟨p, hp, r.keep k⟩) ?_ ?_
      · rintro i x H2 H3 hi s ⟨rfl, hx⟩ Q' N qq
        obtain ⟨t, ht, r1, r2, r3⟩ := parts b' vs' ts hP hl w2 w3 hc' i x _ hx s
        have k2 : KeepT K H _ := Same.keepT s
        exact ⟨rfl, _, rfl, _, rfl, people, x, b, us, t, bids, rfl, r1, r2, r3, k2 _ _ hS, hF.keep k2, hB, fun H4 r s4 h4 => qq _ _ s4 ⟨t, ht, h4⟩⟩
      · intro H2 ns s2 hns lns fns
        have hf2 := frs_of (ts := ts) (f := val bids n) (by omega) fns
        have lo : ∀ y ∈ ts.map (val bids n), Lo y := fun y hy => by
          obtain ⟨t, ht, rfl⟩ := List.mem_map.mp hy
          exact (val_ok hB n t (w3 t ht)).1
        refine ⟨.ref D, ts.map (val bids n), rfl, ⟨D, ns, rfl, SqL.of hns, hf2⟩, by rw [List.length_map]; omega, parts_ok hB w3 hc', fun H3 r s3 hr => ?_⟩
        obtain ⟨l, ws, rfl, hb, hw⟩ := hr
        have s23 := s2.trans s3
        have lw := hw.len
        rw [asc_len, List.length_map] at lw
        refine ⟨_, rfl, rfl, _, rfl, ifF no_r_l ?_⟩
        refine ⟨_, rfl, rfl, _, rfl, ifF no_r_g ?_⟩
        obtain ⟨y, ey, e, _⟩ := asc_getD (l := ts.map (val bids n)) (i := ts.length - k) (by rw [List.length_map]; omega)
        obtain ⟨z, hz, rz⟩ := hw.get' ey
        have ek : ((ws.length : Nat) : Int) - (k : Int) = ((ts.length - k : Nat) : Int) := by omega
        refine ⟨_, rfl, _, rfl, l, ws, rfl, .inl hb, _, rfl, a, _, 1, _, rfl, rfl, Same.keepT s23 a _ hA, rfl, _, _, rfl, rfl, l, ws, _, z, rfl, rfl, hb, at_of ek hz, q _ _ s23 ?_⟩
        show FrAt K H3 z ((asc (ts.map (val bids n))).getD (ts.length - k) (0, 1))
        rw [e]
        exact rz
    | least ts =>
      obtain ⟨a, b', vs', rfl, hA, hP, hl⟩ := hT
      obtain ⟨w1, w2, w3⟩ := hW
      have hle := hl.len
      have hc' : (ts.map (cnt n)).sum ≤ 59 := by
        have : 1 + (ts.map (cnt n)).sum ≤ 60 := hc
        omega
      refine ⟨_, rfl, a, _, 0, _, rfl, rfl, hA, rfl, ?_⟩
      refine ⟨_, rfl, rfl, _, rfl, ifF no_l_b ?_⟩
      refine ⟨_, rfl, rfl, _, rfl, ifF no_l_f ?_⟩
      refine ⟨_, rfl, rfl, _, rfl, ifF no_l_m ?_⟩
      refine ⟨_, rfl, rfl, _, rfl, ifF no_l_w ?_⟩
      refine ⟨_, rfl, 1, rfl, a, _, -1, _, rfl, rfl, hA, rfl, b', rfl, ⟨_, hP⟩, fun D hD => ?_⟩
      refine lc_map (K := K) (walk_tup (K := K) (a := b') (xs := vs')) (fun i H y => ∃ t, ts[i]? = some t ∧ FrAt K H y (val bids n t)) hD (len60 (by omega)) (fun H1 s => Same.keepT s b' _ hP) (fun _ _ _ _ k ⟨p, hp, r⟩ => ⟨p, hp, r.keep k⟩) ?_ ?_
      · rintro i x H2 H3 hi s ⟨rfl, hx⟩ Q' N qq
        obtain ⟨t, ht, r1, r2, r3⟩ := parts b' vs' ts hP hl w2 w3 hc' i x _ hx s
        have k2 : KeepT K H _ := Same.keepT s
        exact ⟨rfl, _, rfl, _, rfl, people, x, b, us, t, bids, rfl, r1, r2, r3, k2 _ _ hS, hF.keep k2, hB, fun H4 r s4 h4 => qq _ _ s4 ⟨t, ht, h4⟩⟩
      · intro H2 ns s2 hns lns fns
        have hf2 := frs_of (ts := ts) (f := val bids n) (by omega) fns
        have lo : ∀ y ∈ ts.map (val bids n), Lo y := fun y hy => by
          obtain ⟨t, ht, rfl⟩ := List.mem_map.mp hy
          exact (val_ok hB n t (w3 t ht)).1
        refine ⟨.ref D, ts.map (val bids n), rfl, ⟨D, ns, rfl, SqL.of hns, hf2⟩, by rw [List.length_map]; omega, parts_ok hB w3 hc', fun H3 r s3 hr => ?_⟩
        obtain ⟨l, ws, rfl, hb, hw⟩ := hr
        have s23 := s2.trans s3
        refine ⟨_, rfl, rfl, _, rfl, ifT rfl ?_⟩
        obtain ⟨z, hz, rz⟩ := hw.get' (asc_head (l := ts.map (val bids n)) (by simpa using w1) lo)
        exact ⟨_, rfl, l, ws, 0, z, rfl, rfl, hb, atI_nat (j := 0) hz, q _ _ s23 rz⟩
    | greatest ts =>
      obtain ⟨a, b', vs', rfl, hA, hP, hl⟩ := hT
      obtain ⟨w1, w2, w3⟩ := hW
      have hle := hl.len
      have hc' : (ts.map (cnt n)).sum ≤ 59 := by
        have : 1 + (ts.map (cnt n)).sum ≤ 60 := hc
        omega
      refine ⟨_, rfl, a, _, 0, _, rfl, rfl, hA, rfl, ?_⟩
      refine ⟨_, rfl, rfl, _, rfl, ifF no_g_b ?_⟩
      refine ⟨_, rfl, rfl, _, rfl, ifF no_g_f ?_⟩
      refine ⟨_, rfl, rfl, _, rfl, ifF no_g_m ?_⟩
      refine ⟨_, rfl, rfl, _, rfl, ifF no_g_w ?_⟩
      refine ⟨_, rfl, 1, rfl, a, _, -1, _, rfl, rfl, hA, rfl, b', rfl, ⟨_, hP⟩, fun D hD => ?_⟩
      refine lc_map (K := K) (walk_tup (K := K) (a := b') (xs := vs')) (fun i H y => ∃ t, ts[i]? = some t ∧ FrAt K H y (val bids n t)) hD (len60 (by omega)) (fun H1 s => Same.keepT s b' _ hP) (fun _ _ _ _ k ⟨p, hp, r⟩ => ⟨p, hp, r.keep k⟩) ?_ ?_
      · rintro i x H2 H3 hi s ⟨rfl, hx⟩ Q' N qq
        obtain ⟨t, ht, r1, r2, r3⟩ := parts b' vs' ts hP hl w2 w3 hc' i x _ hx s
        have k2 : KeepT K H _ := Same.keepT s
        exact ⟨rfl, _, rfl, _, rfl, people, x, b, us, t, bids, rfl, r1, r2, r3, k2 _ _ hS, hF.keep k2, hB, fun H4 r s4 h4 => qq _ _ s4 ⟨t, ht, h4⟩⟩
      · intro H2 ns s2 hns lns fns
        have hf2 := frs_of (ts := ts) (f := val bids n) (by omega) fns
        have lo : ∀ y ∈ ts.map (val bids n), Lo y := fun y hy => by
          obtain ⟨t, ht, rfl⟩ := List.mem_map.mp hy
          exact (val_ok hB n t (w3 t ht)).1
        refine ⟨.ref D, ts.map (val bids n), rfl, ⟨D, ns, rfl, SqL.of hns, hf2⟩, by rw [List.length_map]; omega, parts_ok hB w3 hc', fun H3 r s3 hr => ?_⟩
        obtain ⟨l, ws, rfl, hb, hw⟩ := hr
        have s23 := s2.trans s3
        refine ⟨_, rfl, rfl, _, rfl, ifF no_g_l ?_⟩
        refine ⟨_, rfl, rfl, _, rfl, ifT rfl ?_⟩
        obtain ⟨z, hz, rz⟩ := hw.get' (asc_last (l := ts.map (val bids n)) (by simpa using w1) lo)
        have lw := hw.len
        rw [asc_len] at lw
        rw [← lw] at hz
        exact ⟨_, rfl, 1, rfl, l, ws, -1, z, rfl, rfl, hb, at_last hz, q _ _ s23 rz⟩
end
end Cb
namespace Cb
open PySem PySem.Spec PyProof.Rows L2
open C8 (Cal Mak pe_c pe_mk pe_gc)
section
variable {P : Program} {w : World} {K : PySem.W.Frag} {mg : Str → Option Value} {base : Heap}
def spLCorner (K : PySem.W.Frag) : Sp := fun vs H Q _ => ∃ (n : Nat) (u z : V) (t : Tm) (lot : Lot), vs = [.int n, u, z] ∧ TmAt K H 6 u t ∧ Wf n 6 t ∧ cnt 6 t ≤ 60 ∧ n ≤ 6 ∧ LtAt K H z lot ∧ Ret H Q (fun H' r => FrAt K H' r (corn n 6 t lot))
theorem sc_L_corner : FnScope ["_law_people", "_law_term_here", "_law_lot"] ["_law_people", "_law_term_here", "_law_lot"] (defScope zL_corner) := ⟨rfl, rfl, rfl, by decide +kernel, rfl, by decide +kernel, by decide +kernel⟩
theorem ok_L_corner (T : Tx K mg) (c_L_value : Cal P w K mg base 8 "_law_value" (spVal K 6) []) (c_L_at_ends : Cal P w K mg base 1 "_law_at_ends" (spAtEnds K) []) : Cal P w K mg base 9 "_law_corner" (spLCorner K) [] := by
  refine mk_cal (k := 8) T 48 rfl rfl sc_L_corner (fun _ _ _ _ _ _ us hl => match us, hl with | [_, _, _], _ => rfl) (fun vs H Q E h => ?_) (fun f cdv A outer s H vs Q E hr h => ?_)
  · obtain ⟨n, u, z, t, lot, rfl, _⟩ := h
    rfl
  · obtain ⟨n, u, z, t, lot, rfl, hT, hW, hc, h6, hL, q⟩ := h
    refine ⟨_, (pss_one (ps_ret (pe_c c_L_value hr (by first | decide | omega) rfl (pa_cons (pv 1) (pa_cons (pe_c c_L_at_ends hr (by first | decide | omega) rfl (pa_cons (pv 0) (pa_cons (pv 2) pa_nil))) pa_nil))))), ?_⟩
    refine ⟨_, rfl, _, rfl, _, rfl, n, z, lot, rfl, h6, hL, fun H1 r1 s1 h1 => ?_⟩
    obtain ⟨b, ws, rfl, hB, rB⟩ := h1
    exact ⟨n, u, b, ws, t, ends n lot, rfl, TmAt.keep (Same.keepT s1) 6 hT, hW, hc, hB, rB, ends_ok n lot, fun H6 r6 s6 h6 => q _ _ (s1.trans s6) h6⟩
theorem LL_64 : ∀ n, 1 ≤ n → n ≤ 6 → (LL n).length ≤ 64 := by
  intro n h1 h2
  match n, h1, h2 with
  | 1, _, _ => decide +kernel
  | 2, _, _ => decide +kernel
  | 3, _, _ => decide +kernel
  | 4, _, _ => decide +kernel
  | 5, _, _ => decide +kernel
  | 6, _, _ => decide +kernel
theorem LL_lot {n : Nat} (h1 : 1 ≤ n) (h6 : n ≤ 6) {i : Nat} {l : Lot} (h : (LL n)[i]? = some l) : l.length ≤ 64 := by
  rw [← AL_LL n h1 h6] at h
  exact al_len h1 h6 h
def spLOut (K : PySem.W.Frag) : Sp := fun vs H Q _ => ∃ (n : Nat) (u x : V) (t : Tm) (ws : List Fr), vs = [.int n, u, x] ∧ 1 ≤ n ∧ n ≤ 6 ∧ TmAt K H 6 u t ∧ Wf n 6 t ∧ cnt 6 t ≤ 60 ∧ TpAt K H x ws ∧ ws.length = n ∧ WsOk ws ∧ Ret H Q (fun H' r => FrAt K H' r (lOut n 6 t ws))
theorem ws_lo {ws : List Fr} (h : WsOk ws) : ∀ w ∈ ws, Lo w ∧ Bt 64 w := fun w hw => ⟨(h.2 w hw).1.1, (h.2 w hw).2⟩
/-- a list that is another than the one that is written -/
theorem sql_far {H H' : Hp} {F L : Addr} {fs ls : List V} (h : SqL K H L ls) (hF : H F = some (.lst fs)) (hd : fs ≠ ls) (k : Kq (fun b => b = F) H H') : SqL K H' L ls := by
  rcases h with (h | ⟨o, h⟩) | h
  · refine .inl (.inl (k _ _ h fun e => hd ?_))
    rw [e, hF] at h
    injection h with h
    injection h
  · refine .inl (.inr ⟨o, k _ _ h fun e => ?_⟩)
    rw [e, hF] at h
    cases h
  · exact .inr h
theorem item_ok {n : Nat} {t : Tm} {ws : List Fr} {lot : Lot} (h1 : 1 ≤ n) (h6 : n ≤ 6) (hW : Wf n 6 t) (hc : cnt 6 t ≤ 60) (hn : ws.length = n) (hws : WsOk ws) (h : lot ∈ LL n) : Ok4 (corn n 6 t lot :: lot.map (wi ws)) := fun y hy => by
  refine ⟨(item_lo h1 h6 hW hn (ws_lo hws) h y hy).1, ?_⟩
  rcases List.mem_cons.mp hy with rfl | hy
  · exact corn_bt hW hc _
  · obtain ⟨p, hp, rfl⟩ := List.mem_map.mp hy
    have := (wi_ok hn (ws_lo hws) (LL_mem h1 h6 h hp)).2
    exact (hws.2 _ this).2.mono (by decide)
theorem lItem_ok {n : Nat} {t : Tm} {ws : List Fr} {lot : Lot} (h1 : 1 ≤ n) (h6 : n ≤ 6) (hW : Wf n 6 t) (hc : cnt 6 t ≤ 60) (hn : ws.length = n) (hws : WsOk ws) (h : lot ∈ LL n) : Pos (lItem n 6 t ws lot) ∧ Bt 4000 (lItem n 6 t ws lot) :=
  item_ok h1 h6 hW hc hn hws h _ (minL_mem (List.cons_ne_nil _ _) fun y hy => (item_lo h1 h6 hW hn (ws_lo hws) h y hy).1)
theorem sc_L_outcome : FnScope ["_law_people", "_law_term_here", "_law_wishes", "_law_found", "_law_lot", "_law_person"] ["_law_people", "_law_term_here", "_law_wishes"] (defScope zL_outcome) := ⟨rfl, rfl, rfl, by decide +kernel, rfl, by decide +kernel, by decide +kernel⟩
theorem ok_L_outcome (T : Tx K mg) (c_L_lots : Cal P w K mg base 2 "_law_lots" (spLLots K) []) (c_L_sorted : Cal P w K mg base 2 "_law_sorted" (spAsc K) []) (c_L_corner : Cal P w K mg base 9 "_law_corner" (spLCorner K) []) : Cal P w K mg base 10 "_law_outcome" (spLOut K) [] := by
  refine mk_cal (k := 9) T 49 rfl rfl sc_L_outcome (fun _ _ _ _ _ _ us hl => match us, hl with | [_, _, _], _ => rfl) (fun vs H Q E h => ?_) (fun f cdv A outer s H vs Q E hr h => ?_)
  · obtain ⟨n, u, x, t, ws, rfl, _⟩ := h
    rfl
  · obtain ⟨n, u, x, t, ws, rfl, h1, h6, hT, hW, hc, hX, hn, hws, q⟩ := h
    refine ⟨_, (pss_cons (ps_set (i := 3) sc_L_outcome.nd rfl (Or.inl rfl) (pe_lst pa_nil))
      (pss_cons (ps_for PassesOwn.never rfl (pi_list (pe_c c_L_lots hr (by first | decide | omega) rfl (pa_cons (pv 0) pa_nil))) (pg_name (i := 4) sc_L_outcome.nd rfl (Or.inl rfl)) (pss_one (ps_expr (pe_bm PySem.F.plainAttrs_list PySem.F.slot_list_append PySem.F.type_list_append mt_append (pv 3) (pa_cons (pe_ix (ixL K) (pe_c c_L_sorted hr (by first | decide | omega) rfl (pa_cons (pe_op op_cat (pe_lst (pa_cons (pe_c c_L_corner hr (by first | decide | omega) rfl (pa_cons (pv 0) (pa_cons (pv 1) (pa_cons (pv 4) pa_nil)))) pa_nil)) (pe_lc (own := [("_law_person", 5)]) (g := (gName 5)) rfl sc_L_outcome.nd (pi_tup (pv 4)) (blkOk_by (own := [("_law_person", 5)]) (N := ["_law_people", "_law_term_here", "_law_wishes", "_law_found", "_law_lot", "_law_person"]) (sc := defScope zL_outcome) (by decide +kernel)) (fun _ _ _ _ _ => (pg_name (i := 5) sc_L_outcome.nd rfl (Or.inl rfl))) (fun _ _ _ _ _ => pts_nil) (fun _ _ _ _ _ => (pe_ix (ixT K) (pv 2) (pv 5) (fun _ _ => rfl))))) pa_nil)) pe_int (fun _ _ => rfl)) pa_nil)))))
      (pss_one (ps_ret (pe_ix (ixL K) (pe_c c_L_sorted hr (by first | decide | omega) rfl (pa_cons (pv 3) pa_nil)) (pe_un un_neg pe_int) (fun _ _ => rfl)))))), ?_⟩
    obtain ⟨b, us, rfl, hB, rB⟩ := hX
    have l64 := LL_64 n h1 h6
    refine ⟨(by show 0 ≤ sizeLine; decide), fun F hF => ?_⟩
    have s0 := same_new hF (.lst [])
    refine ⟨_, rfl, n, rfl, h1, h6, fun H1 r1 s1 hLs => ?_⟩
    obtain ⟨L, ls, rfl, hL, rL⟩ := hLs
    have lL := rL.len
    have hF1 := s1 F _ upd_same
    have hdiff : ([] : List V) ≠ ls := fun e => LL_ne h1 h6 (by
      rw [← e] at lL
      exact List.eq_nil_of_length_eq_zero lL.symm)
    refine ⟨L, rfl, ⟨_, hL⟩, for_list (K := K) (a := L) (xs := ls) (fun i σ H' => ∃ x1 fs, σ = [some (.int n), some u, some (.ref b), some (.ref F), x1, none] ∧ Same H H' ∧ Kq (fun b => b = F) H1 H' ∧ H' F = some (.lst fs) ∧ Frs K H' fs (((LL n).map (lItem n 6 t ws)).take i))
      ⟨none, [], rfl, s0.trans s1, Kq.refl, hF1, .nil⟩ (fun i σ H' _ ⟨_, _, _, _, kq, _⟩ => sql_far hL hF1 hdiff kq) ?_ ?_⟩
    · rintro i y σ H2 hy ⟨x1, fs, rfl, s, kq, hF2, rF⟩
      have rL2 := rL.keep (kq.keepT fun b e => ⟨_, e ▸ hF1⟩ : KeepT K H1 H2)
      obtain ⟨lot, hlot, c, rfl, hcc⟩ := rL2.get hy
      have hm := List.mem_of_getElem? hlot
      have hll := LL_lot h1 h6 hlot
      have lF := rF.len
      have lt : (((LL n).map (lItem n 6 t ws)).take i).length ≤ 64 := by
        rw [List.length_take, List.length_map]
        omega
      refine ⟨_, rfl, .inl ⟨rfl, _, SqL.of hF2⟩, ?_⟩
      refine ⟨_, rfl, _, rfl, _, rfl, n, u, .ref c, t, lot, rfl, TmAt.keep (Same.keepT s) 6 hT, hW, hc, h6, ⟨c, rfl, hcc⟩, fun H4 r4 s4 h4 => ⟨(by show 1 ≤ sizeLine; decide), fun p hp => ?_⟩⟩
      have s5 := same_new hp (.lst [r4])
      have s45 := s4.trans s5
      refine ⟨_, rfl, c, rfl, ⟨_, Same.keepT s45 c _ hcc⟩, fun D hD => ?_⟩
      refine lc_map (K := K) (walk_tup (K := K) (a := c) (xs := lotV lot)) (fun j H y => ∃ p, lot[j]? = some p ∧ FrAt K H y (wi ws p)) hD (by rw [lotV_len]; exact small1000 (by omega)) (fun H1 s => Same.keepT s c _ (Same.keepT s45 c _ hcc)) (fun _ _ _ _ k ⟨p, e, r⟩ => ⟨p, e, r.keep k⟩) ?_ ?_
      · rintro j z H0 H6 hj s6 ⟨rfl, hz⟩ Q' N qq
        obtain ⟨p, hp, rfl⟩ := lotV_of hz
        have hpn := LL_mem h1 h6 hm (List.mem_of_getElem? hp)
        obtain ⟨f, ef, e, _⟩ := getD_of (l := ws) (d := ((0, 1) : Fr)) (i := p) (by omega)
        obtain ⟨w, hw, r⟩ := rB.get' ef
        have k6 : KeepT K H H6 := Same.keepT ((s.trans s45).trans s6)
        refine ⟨rfl, _, rfl, _, rfl, b, us, _, w, rfl, rfl, k6 _ _ hB, atI_nat hw, qq _ _ (Same.refl _) ⟨p, hp, ?_⟩⟩
        rw [wi_at ef]
        exact r.keep k6
      · intro H6 ys s6 hys lys fys
        rw [lotV_len] at lys
        have ry : Frs K H6 ys (lot.map (wi ws)) := All2.of_get (by rw [List.length_map]; omega) fun j y f hy hf => by
          obtain ⟨p, hp, r⟩ := fys j y hy
          rw [List.getElem?_map, hp] at hf
          rw [← Option.some.inj hf]
          exact r
        have s46 := s45.trans s6
        have s56 := s5.trans s6
        have hp6 := s6 p _ (upd_same : upd H4 p (.lst [r4]) p = _)
        refine ⟨p, D, [r4], ys, rfl, rfl, hp6, hys, Nat.le_of_lt (small1000 (by show 1 + ys.length ≤ 1000; omega)), fun t7 ht7 => ?_⟩
        have s7 := same_new ht7 (.lst ([r4] ++ ys))
        refine ⟨_, corn n 6 t lot :: lot.map (wi ws), rfl, ⟨t7, _, rfl, SqL.of upd_same, .cons ((h4.keep (Same.keepT s56)).keep (Same.keepT s7)) (ry.keep (Same.keepT s7))⟩, by rw [List.length_cons, List.length_map]; omega, item_ok h1 h6 hW hc hn hws hm, fun H8 r8 s8 hr => ?_⟩
        obtain ⟨l8, ws8, rfl, hb8, hw8⟩ := hr
        obtain ⟨z, hz, rz⟩ := hw8.get' (asc_head (l := corn n 6 t lot :: lot.map (wi ws)) (List.cons_ne_nil _ _) (item_lo h1 h6 hW hn (ws_lo hws) hm))
        have s28 := (s46.trans s7).trans s8
        have hF8 := s28 _ _ hF2
        refine ⟨l8, ws8, 0, z, rfl, rfl, hb8, atI_nat (j := 0) hz, F, fs, z, rfl, rfl, hF8, small1000 (by omega), _, fs ++ [z], rfl, fun bb o e => ?_, ?_, upd_same, ?_⟩
        · rw [upd_ne (ne_of_none e hF)]
          exact s28 _ _ (s _ _ e)
        · exact (kq.trans (Same.kq s28)).trans fun b o e nb => by rw [upd_ne nb]; exact e
        · have kF : KeepT K H8 (upd H8 F (.lst (fs ++ [z]))) := keepT_lst hF8 _
          have hp : ((LL n).map (lItem n 6 t ws))[i]? = some (lItem n 6 t ws lot) := by rw [List.getElem?_map, hlot] <;> rfl
          rw [take_snoc hp]
          exact ((rF.keep (Same.keepT s28)).keep kF).app (.cons (rz.keep kF) .nil)
    · rintro σ H2 ⟨x1, fs, rfl, s, kq, hF2, rF⟩
      have e : ((LL n).map (lItem n 6 t ws)).take ls.length = (LL n).map (lItem n 6 t ws) := List.take_of_length_le (by rw [List.length_map]; omega)
      rw [e] at rF
      have ne : (LL n).map (lItem n 6 t ws) ≠ [] := fun z => LL_ne h1 h6 (List.map_eq_nil_iff.mp z)
      refine ⟨_, rfl, .ref F, _, rfl, ⟨F, fs, rfl, SqL.of hF2, rF⟩, by rw [List.length_map]; omega, fun f hf => ?_, fun H4 r4 s4 hr => ?_⟩
      · obtain ⟨lot, hl, rfl⟩ := List.mem_map.mp hf
        exact lItem_ok h1 h6 hW hc hn hws hl
      · obtain ⟨l8, ws8, rfl, hb8, hw8⟩ := hr
        obtain ⟨z, hz, rz⟩ := hw8.get' (asc_last (l := (LL n).map (lItem n 6 t ws)) ne (items_lo h1 h6 hW hn (ws_lo hws)))
        have lw := hw8.len
        rw [asc_len] at lw
        rw [← lw] at hz
        exact ⟨1, rfl, l8, ws8, -1, z, rfl, rfl, hb8, at_last hz, q _ _ (s.trans s4) rz⟩
end
end Cb
namespace Cb
open PySem PySem.Spec PyProof.Rows L2
open C8 (Cal Mak pe_c pe_mk pe_gc)
section
variable {P : Program} {w : World} {K : PySem.W.Frag} {mg : Str → Option Value} {base : Heap}
theorem sum_le {α : Type} (f : α → Nat) (B : Nat) : ∀ (l : List α), (∀ x ∈ l, f x ≤ B) → (l.map f).sum ≤ l.length * B
  | [], _ => by simp
  | x :: l, h => by
    have h1 := h x (List.mem_cons_self ..)
    have h2 := sum_le f B l fun y hy => h y (List.mem_cons_of_mem _ hy)
    rw [List.map_cons, List.sum_cons, List.length_cons, Nat.add_mul, Nat.one_mul]
    omega
theorem sum_le3 {α : Type} {f : α → Nat} {B : Nat} {l : List α} (h : ∀ x ∈ l, f x ≤ B) (h3 : l.length ≤ 3) : 1 + (l.map f).sum ≤ 1 + 3 * B := by
  have := sum_le f B l h
  have := Nat.mul_le_mul_right B h3
  omega
def cB : Nat → Nat
  | 0 => 0
  | n + 1 => 1 + 3 * cB n
theorem two_asc {f g : Fr} (hf : Num f) (bf : Bt 20 f) (hg : Num g) (bg : Bt 20 g) : ∃ lo hi, asc [f, g] = [lo, hi] ∧ fLe lo hi ∧ (Num lo ∧ Bt 20 lo) ∧ (Num hi ∧ Bt 20 hi) := by
  have ea : asc [f, g] = if fLess g f = true then [g, f] else [f, g] := rfl
  by_cases c : fLess g f = true
  · rw [if_pos c] at ea
    exact ⟨g, f, ea, le_of_less c, ⟨hg, bg⟩, hf, bf⟩
  · rw [if_neg c] at ea
    exact ⟨f, g, ea, less_false.mp (Bool.eq_false_iff.mpr c), ⟨hf, bf⟩, hg, bg⟩
/-- a part of a drawn term -/
def PtAt (K : PySem.W.Frag) (people k : Nat) (H : Hp) (u : V) (t : Tm) : Prop := TmAt K H k u t ∧ Wf people k t ∧ cnt k t ≤ cB k
theorem PtAt.keep {people k : Nat} {H H' : Hp} {u : V} {t : Tm} (h : PtAt K people k H u t) (s : KeepT K H H') : PtAt K people k H' u t := ⟨TmAt.keep s k h.1, h.2⟩
theorem all_of {people k : Nat} {H : Hp} {us : List V} {ts : List Tm} (h : All2 (PtAt K people k H) us ts) : ∀ t ∈ ts, Wf people k t ∧ cnt k t ≤ cB k := fun t ht => by
  obtain ⟨i, hi⟩ := List.mem_iff_getElem?.mp ht
  obtain ⟨_, _, r⟩ := h.get' hi
  exact r.2
def spTerm (K : PySem.W.Frag) (n : Nat) : Sp := fun vs H Q _ => ∃ (d c : Addr) (people m : Nat), vs = [.ref d, .int people, .int m, .bl true] ∧ 1 ≤ m ∧ m ≤ n ∧ 1 ≤ people ∧ people ≤ 6 ∧ DiAt H d c ∧ RetD H d c Q (fun H' r => ∃ t, PtAt K people m H' r t)
theorem sc_L_term : FnScope ["_law_dice_here", "_law_people", "_law_deep", "_law_means", "_law_kind", "_law_parts", "_law_ends", "_law_k", "_law_part"] ["_law_dice_here", "_law_people", "_law_deep", "_law_means"] (defScope zL_term) := ⟨rfl, rfl, rfl, by decide +kernel, rfl, by decide +kernel, by decide +kernel⟩
theorem ok_L_term {n : Nat} (T : Tx K mg) (c_L_term : Cal P w K mg base (2 + n) "_law_term" (spTerm K n) []) (c_L_draw : Cal P w K mg base 1 "_law_draw" spDraw []) (c_L_sorted : Cal P w K mg base 2 "_law_sorted" (spAsc K) []) (c_L_number : Cal P w K mg base 2 "_law_number" (spNumber K) []) : Cal P w K mg base (2 + (n + 1)) "_law_term" (spTerm K (n + 1)) [] := by
  refine mk_cal (k := (2 + n)) T 42 rfl rfl sc_L_term (fun _ _ _ _ _ _ us hl => match us, hl with | [_, _, _, _], _ => rfl) (fun vs H Q E h => ?_) (fun f cdv A outer s H vs Q E hr h => ?_)
  · obtain ⟨d, c, people, m, rfl, _⟩ := h
    rfl
  · obtain ⟨d, c, people, m, rfl, m1, mn, p1, p6, hD, q⟩ := h
    refine ⟨_, (pss_cons (ps_set (i := 4) sc_L_term.nd rfl (Or.inl rfl) (pe_c c_L_draw hr (by first | decide | omega) rfl (pa_cons (pv 0) (pa_cons pe_int pa_nil))))
      (pss_cons (ps_if (PW.pt (pw_or (pt_cmpR op_eq (pv 2) pe_int (nomark _)) (pw_or1 (pt_cmpR op_eq (pv 4) pe_int (nomark _))))) (pss_cons (ps_if (pt_cmpR op_eq (pe_c c_L_draw hr (by first | decide | omega) rfl (pa_cons (pv 0) (pa_cons pe_int pa_nil))) pe_int (nomark _)) (pss_one (ps_ret (pe_tup (pa_cons pe_str (pa_cons (pe_c c_L_number hr (by first | decide | omega) rfl (pa_cons (pv 0) pa_nil)) pa_nil))))) pss_nil)
      (pss_one (ps_ret (pe_tup (pa_cons pe_str (pa_cons (pe_c c_L_draw hr (by first | decide | omega) rfl (pa_cons (pv 0) (pa_cons (pv 1) pa_nil))) pa_nil)))))) pss_nil)
      (pss_cons (ps_setLc (i := 5) (own := [("_law_k", 7)]) (g := (gName 7)) rfl sc_L_term.nd rfl rfl (sw_true rfl rfl rfl (by decide +kernel)) (pi_range1 rfl T.b_range (pa_cons (pe_op op_add pe_int (pe_c c_L_draw hr (by first | decide | omega) rfl (pa_cons (pv 0) (pa_cons pe_int pa_nil)))) pa_nil)) (blkOk_by (own := [("_law_k", 7)]) (N := ["_law_dice_here", "_law_people", "_law_deep", "_law_means", "_law_kind", "_law_parts", "_law_ends", "_law_k", "_law_part"]) (sc := defScope zL_term) (by decide +kernel)) (fun _ _ _ _ _ => (pg_name (i := 7) sc_L_term.nd rfl (Or.inl rfl))) (fun _ _ _ _ _ => pts_nil) (fun _ _ _ _ _ => (pe_c c_L_term hr (by first | decide | omega) rfl (pa_cons (pv 0) (pa_cons (pv 1) (pa_cons (pe_op op_sub (pv 2) pe_int) (pa_cons (pv 3) pa_nil)))))))
      (pss_cons (ps_if (pt_cmpR op_eq (pv 4) pe_int (nomark _)) (pss_cons (ps_set (i := 6) sc_L_term.nd rfl (Or.inl rfl) (pe_c c_L_sorted hr (by first | decide | omega) rfl (pa_cons (pe_lst (pa_cons (pe_c c_L_number hr (by first | decide | omega) rfl (pa_cons (pv 0) pa_nil)) (pa_cons (pe_c c_L_number hr (by first | decide | omega) rfl (pa_cons (pv 0) pa_nil)) pa_nil))) pa_nil)))
      (pss_one (ps_ret (pe_tup (pa_cons pe_str (pa_cons (pe_ix (ixL K) (pv 6) pe_int (fun _ _ => rfl)) (pa_cons (pe_ix (ixL K) (pv 6) pe_int (fun _ _ => rfl)) (pa_cons (pe_ix (ixL K) (pv 5) pe_int (fun _ _ => rfl)) pa_nil)))))))) pss_nil)
      (pss_cons (ps_if (pt_cmpR op_eq (pv 4) pe_int (nomark _)) (pss_one (ps_ret (pe_tup (pa_cons pe_str (pa_cons (pe_callTy (tupO K) rfl T.b_tuple (by decide +kernel) (pa_cons (pv 5) pa_nil)) pa_nil))))) pss_nil)
      (pss_cons (ps_if (pt_cmpR op_eq (pv 4) pe_int (nomark _)) (pss_one (ps_ret (pe_tup (pa_cons pe_str (pa_cons (pe_callTy (tupO K) rfl T.b_tuple (by decide +kernel) (pa_cons (pv 5) pa_nil)) pa_nil))))) pss_nil)
      (pss_cons (ps_if (PW.pt (pw_or (pt_cmpR op_eq (pv 4) pe_int (nomark _)) (pw_or1 (pt_not (pt_val (pv 3)))))) (pss_one (ps_ret (pe_tup (pa_cons pe_str (pa_cons (pe_op op_add pe_int (pe_c c_L_draw hr (by first | decide | omega) rfl (pa_cons (pv 0) (pa_cons (pe_callB (lenS K) rfl T.b_len (by decide +kernel) (pa_cons (pv 5) pa_nil)) pa_nil)))) (pa_cons (pe_callTy (tupO K) rfl T.b_tuple (by decide +kernel) (pa_cons (pv 5) pa_nil)) pa_nil)))))) pss_nil)
      (pss_one (ps_ret (pe_tup (pa_cons pe_str (pa_cons (pe_callTy (tupO K) rfl T.b_tuple (by decide +kernel) (pa_cons (pe_lc (own := [("_law_part", 8)]) (g := (gName 8)) rfl sc_L_term.nd (pi_list (pv 5)) (blkOk_by (own := [("_law_part", 8)]) (N := ["_law_dice_here", "_law_people", "_law_deep", "_law_means", "_law_kind", "_law_parts", "_law_ends", "_law_k", "_law_part"]) (sc := defScope zL_term) (by decide +kernel)) (fun _ _ _ _ _ => (pg_name (i := 8) sc_L_term.nd rfl (Or.inl rfl))) (fun _ _ _ _ _ => pts_nil) (fun _ _ _ _ _ => (pe_tup (pa_cons (pe_op op_add pe_int (pe_c c_L_draw hr (by first | decide | omega) rfl (pa_cons (pv 0) (pa_cons pe_int pa_nil)))) (pa_cons (pv 8) pa_nil))))) pa_nil)) pa_nil)))))))))))), ?_⟩
    obtain ⟨k, rfl⟩ : ∃ k, m = k + 1 := ⟨m - 1, by omega⟩
    refine ⟨_, rfl, d, c, 8, rfl, by decide, by decide, hD, fun H1 r1 k1 hD1 ⟨kd, e, kd0, kd1⟩ => ?_⟩
    subst e
    refine ⟨_, rfl, rfl, _, rfl, ite2 (fun ca => iteT ?leaf1) (fun ca => ⟨_, rfl, rfl, _, rfl, ite2 (fun cb => ?leaf2) (fun cb => ?rest)⟩)⟩
    case leaf1 | leaf2 =>
      refine ⟨_, rfl, d, c, 5, rfl, by decide, by decide, hD1, fun H2 r2 k2 hD2 ⟨z, e, z0, z1⟩ => ?_⟩
      subst e
      have k12 := k1.trans k2
      refine ⟨rfl, _, rfl, ite2 (fun cc => ?_) (fun cc => ?_)⟩
      · refine ⟨_, rfl, d, c, rfl, hD2, fun H3 r3 k3 hD3 ⟨f, hf, nf, bf⟩ => ⟨(by show 2 ≤ sizeLine; decide), fun p hp => ?_⟩⟩
        have st := same_new hp (.tup [.str "fixed", r3])
        exact q _ _ ((k12.trans k3).trans (Same.kq st)) (hD3.same st) ⟨.fixed f, ⟨p, r3, rfl, SqT.of upd_same, hf.keep (Same.keepT st)⟩, ⟨nf, bf⟩, Nat.le_add_right 1 _⟩
      · refine ⟨_, rfl, _, rfl, d, c, people, rfl, by omega, by omega, hD2, fun H3 r3 k3 hD3 ⟨j, e, j0, j1⟩ => ⟨(by show 2 ≤ sizeLine; decide), fun p hp => ?_⟩⟩
        subst e
        obtain ⟨j, rfl⟩ : ∃ i : Nat, j = (i : Int) := ⟨j.toNat, by omega⟩
        have st := same_new hp (.tup [.str "bid", .int j])
        exact q _ _ ((k12.trans k3).trans (Same.kq st)) (hD3.same st) ⟨.bid j, ⟨p, rfl, SqT.of upd_same⟩, (by show j < people; omega), Nat.le_add_right 1 _⟩
    case rest =>
      have hk : 1 ≤ k := Nat.pos_of_ne_zero fun e => ca (by subst e; rfl)
      refine ⟨_, rfl, d, c, 3, rfl, by decide, by decide, hD1, fun H2 r2 k2 hD2 ⟨z, e, z0, z1⟩ => ?_⟩
      subst e
      have z62 : 1 + z < 2 ^ 62 := by
        have : (4 : Int) < 2 ^ 62 := by decide
        omega
      have z62' : -(2 ^ 62) ≤ 1 + z := by
        have : -(2 ^ 62) ≤ (0 : Int) := by decide
        omega
      have hN1 : 1 ≤ (1 + z).toNat := by omega
      have hN3 : (1 + z).toNat ≤ 3 := by omega
      refine ⟨_, _, rfl, rfl, 1 + z, rfl, z62', z62, fun D hDn => ?_⟩
      obtain ⟨n1, n2⟩ := hD2.ne hDn
      refine lc_gen (K := K) (walk_range (lo := 0) (n := (1 + z).toNat)) (fun b => b = d) (fun H => DiAt H d c) (fun _ => true) (fun _ H y => ∃ t, PtAt K people k H y t) hDn n1 (len60 (by omega)) (fun H j => j.lst) (fun _ _ => trivial) hD2 (fun H o j => j.upd n1 n2) (fun _ _ _ _ s ⟨t, r⟩ => ⟨t, r.keep s⟩) ?_ ?_
      · rintro i x H0 H3 hi k3 hD3 ⟨rfl, rfl⟩ Q' N qq _
        have ek : ((k + 1 : Nat) : Int) - 1 = (k : Nat) := by omega
        exact ⟨rfl, _, rfl, _, rfl, _, rfl, _, _, rfl, rfl, _, rfl, d, c, people, k, (by show [V.ref d, V.int people, V.int (((k + 1 : Nat) : Int) - 1), V.bl true] = _; rw [ek]), hk, by omega, p1, p6, hD3, fun H4 r4 k4 hD4 hr => qq _ _ rfl k4 hD4 hr⟩
      · intro H3 us k3 hD3 hus ha
        rw [filt_true] at ha
        have lu := ha.len
        rw [List.length_range] at lu
        obtain ⟨ts, rs⟩ := pick (R := fun u t => PtAt K people k H3 u t) (us := us) fun u hu => by
          obtain ⟨i, hi⟩ := List.mem_iff_getElem?.mp hu
          obtain ⟨_, _, r⟩ := ha.get' hi
          exact r
        have lt := rs.len
        have wf := all_of rs
        have tne : ts ≠ [] := fun e => by
          rw [e] at lt
          have : us.length = 0 := lt
          omega
        have c3 : 1 + (ts.map (cnt k)).sum ≤ 1 + 3 * cB k := sum_le3 (fun t ht => (wf t ht).2) (by omega)
        have k13 := (k1.trans k2).trans k3
        have hS3 : SqL K H3 D us := SqL.of hus
        refine ⟨_, rfl, rfl, _, rfl, ite2 (fun c1 => ?_) (fun c1 => ?_)⟩
        · refine ⟨_, rfl, d, c, rfl, hD3, fun H4 r4 k4 hD4 ⟨f, hf, nf, bf⟩ => ⟨_, rfl, d, c, rfl, hD4, fun H5 r5 k5 hD5 ⟨g, hg, ng, bg⟩ => ⟨(by show 2 ≤ sizeLine; decide), fun p hp => ?_⟩⟩⟩
          have s6 := same_new hp (.lst [r4, r5])
          have kt6 : KeepT K H5 _ := Same.keepT s6
          refine ⟨_, [f, g], rfl, ⟨p, _, rfl, SqL.of upd_same, .cons ((hf.keep (hD4.kt k5)).keep kt6) (.cons (hg.keep kt6) .nil)⟩, by simp, fun y hy => ?_, fun H7 r7 s7 hr => ?_⟩
          · simp only [List.mem_cons, List.mem_nil_iff, or_false] at hy
            rcases hy with rfl | rfl
            · exact ⟨nf.1.1, bf.mono (by decide)⟩
            · exact ⟨ng.1.1, bg.mono (by decide)⟩
          · obtain ⟨l, ws, rfl, hb, hw⟩ := hr
            obtain ⟨lo, hi, ea, le, ⟨nlo, blo⟩, nhi, bhi⟩ := two_asc nf bf ng bg
            rw [ea] at hw
            cases hw with
            | @cons x _ ws _ rx hw =>
              cases hw with
              | @cons y _ ws _ ry hw =>
                cases hw with
                | nil =>
                  cases rs with
                  | nil => exact absurd rfl tne
                  | @cons u0 t0 us ts r0 rs =>
                    have s67 := s6.trans s7
                    have k37 : Ka d H3 H7 := (k4.trans k5).trans (Same.kq s67)
                    have hS7 : SqL K H7 D (u0 :: us) := SqL.of (k37 D _ hus n1)
                    refine ⟨_, rfl, l, _, 0, x, rfl, rfl, hb, rfl, _, rfl, l, _, 1, y, rfl, rfl, hb, rfl, _, rfl, D, _, 0, u0, rfl, rfl, hS7, atI_nat (j := 0) rfl, (by show 4 ≤ sizeLine; decide), fun p9 hp9 => ?_⟩
                    have s9 := same_new hp9 (.tup [.str "between", x, y, u0])
                    have k9 : KeepT K H7 _ := Same.keepT s9
                    have r07 := (r0.keep (hD3.kt k37)).keep k9
                    refine q _ _ ((k13.trans k37).trans (Same.kq s9)) ((hD5.same s67).same s9) ⟨.between lo hi t0, ⟨p9, x, y, u0, rfl, SqT.of upd_same, rx.keep k9, ry.keep k9, r07.1⟩, ⟨nlo, blo, nhi, bhi, le, r07.2.1⟩, ?_⟩
                    show 1 + cnt k t0 ≤ 1 + 3 * cB k
                    have := r07.2.2
                    omega
        · refine ⟨_, rfl, rfl, _, rfl, ite2 (fun c2 => ?_) (fun c2 => ?_)⟩
          · refine ⟨_, rfl, D, us, rfl, .inl ⟨hS3, fun t ht => ⟨(by show 2 ≤ sizeLine; decide), fun p hp => ?_⟩⟩⟩
            have st := same_new ht (.tup us)
            have sp := same_new hp (.tup [.str "least", .ref t])
            have s4 := st.trans sp
            refine q _ _ (k13.trans (Same.kq s4)) (hD3.same s4) ⟨.least ts, ⟨p, t, us, rfl, SqT.of upd_same, Same.keepT sp t _ (SqT.of upd_same), rs.imp fun _ _ r => (r.keep (Same.keepT s4)).1⟩, ⟨tne, by omega, fun t ht => (wf t ht).1⟩, c3⟩
          · refine ⟨_, rfl, rfl, _, rfl, ite2 (fun c3' => ?_) (fun c3' => ?_)⟩
            · refine ⟨_, rfl, D, us, rfl, .inl ⟨hS3, fun t ht => ⟨(by show 2 ≤ sizeLine; decide), fun p hp => ?_⟩⟩⟩
              have st := same_new ht (.tup us)
              have sp := same_new hp (.tup [.str "greatest", .ref t])
              have s4 := st.trans sp
              refine q _ _ (k13.trans (Same.kq s4)) (hD3.same s4) ⟨.greatest ts, ⟨p, t, us, rfl, SqT.of upd_same, Same.keepT sp t _ (SqT.of upd_same), rs.imp fun _ _ r => (r.keep (Same.keepT s4)).1⟩, ⟨tne, by omega, fun t ht => (wf t ht).1⟩, c3⟩
            · refine ⟨_, rfl, rfl, _, rfl, ite2 (fun c4 => iteT ?_) (fun c4 => ⟨_, rfl, true, rfl, iteF ?_⟩)⟩
              · refine ⟨_, rfl, _, rfl, D, us, rfl, .inl hS3, d, c, us.length, rfl, by omega, by omega, hD3, fun H4 r4 k4 hD4 ⟨y, e, y0, y1⟩ => ?_⟩
                subst e
                have hS4 : SqL K H4 D us := SqL.of (k4 D _ hus n1)
                refine ⟨_, _, rfl, rfl, _, rfl, D, us, rfl, .inl ⟨hS4, fun t ht => ⟨(by show 3 ≤ sizeLine; decide), fun p hp => ?_⟩⟩⟩
                have st := same_new ht (.tup us)
                have sp := same_new hp (.tup [.str "ranked", .int (1 + y), .ref t])
                have s5 := st.trans sp
                have ey : (1 + y) = (((1 + y).toNat : Nat) : Int) := by omega
                have kt := (hD3.kt k4).trans (Same.keepT s5 : KeepT K H4 _)
                refine q _ _ ((k13.trans k4).trans (Same.kq s5)) (hD4.same s5) ⟨.ranked (1 + y).toNat ts, ⟨p, t, us, rfl, ?_, Same.keepT sp t _ (SqT.of upd_same), rs.imp fun _ _ r => (r.keep kt).1⟩, ⟨by omega, by omega, by omega, fun t ht => (wf t ht).1⟩, c3⟩
                rw [← ey]
                exact SqT.of upd_same
              · refine ⟨_, rfl, D, rfl, ⟨_, hS3⟩, fun D2 hD2n => ?_⟩
                obtain ⟨m1, m2⟩ := hD3.ne hD2n
                refine lc_gen (K := K) (walk_list (K := K) (a := D) (xs := us)) (fun b => b = d) (fun H => DiAt H d c) (fun _ => true) (fun i H y => ∃ (w : Int) (cc : Addr) (u : V), y = .ref cc ∧ us[i]? = some u ∧ SqT K H cc [.int w, u] ∧ 1 ≤ w ∧ w ≤ 5) hD2n m1 (len60 (by omega)) (fun H j => j.lst) (fun H4 kk => SqL.of (kk D _ hus n1)) hD3 (fun H o j => j.upd m1 m2) (fun _ _ _ _ s ⟨w, cc, u, e1, e2, e3, e4⟩ => ⟨w, cc, u, e1, e2, s _ _ e3, e4⟩) ?_ ?_
                · rintro i x H0 H4 hi k4 hD4 ⟨rfl, hx⟩ Q' N qq _
                  refine ⟨rfl, _, rfl, d, c, 5, rfl, by decide, by decide, hD4, fun H5 r5 k5 hD5 ⟨y, e, y0, y1⟩ => ?_⟩
                  subst e
                  refine ⟨_, _, rfl, rfl, _, rfl, (by show 2 ≤ sizeLine; decide), fun p hp => ?_⟩
                  have sp := same_new hp (.tup [.int (1 + y), x])
                  exact qq _ _ rfl (k5.trans (Same.kq sp)) (hD5.same sp) ⟨1 + y, p, x, rfl, hx, SqT.of upd_same, by omega, by omega⟩
                · intro H4 ys k4 hD4 hys hb
                  rw [filt_true] at hb
                  have ly := hb.len
                  rw [List.length_range] at ly
                  have rs4 := rs.imp fun _ _ r => r.keep (hD3.kt k4)
                  obtain ⟨ps, rp⟩ := pick (R := fun y (p : Int × Tm) => ∃ cc u, y = .ref cc ∧ SqT K H4 cc [.int p.1, u] ∧ PtAt K people k H4 u p.2 ∧ 1 ≤ p.1 ∧ p.1 ≤ 5) (us := ys) fun y hy => by
                    obtain ⟨i, hi⟩ := List.mem_iff_getElem?.mp hy
                    obtain ⟨j, _, w, cc, u, e1, e2, e3, e4, e5⟩ := hb.get' hi
                    obtain ⟨t, _, r⟩ := rs4.get e2
                    exact ⟨(w, t), cc, u, e1, e3, r, e4, e5⟩
                  have lp := rp.len
                  have wp : ∀ p ∈ ps, (1 ≤ p.1 ∧ p.1 ≤ 99 ∧ Wf people k p.2) ∧ cnt k p.2 ≤ cB k := fun p hp => by
                    obtain ⟨i, hi⟩ := List.mem_iff_getElem?.mp hp
                    obtain ⟨_, _, cc, u, e1, e2, e3, e4, e5⟩ := rp.get' hi
                    exact ⟨⟨e4, by omega, e3.2.1⟩, e3.2.2⟩
                  refine ⟨D2, ys, rfl, .inl ⟨SqL.of hys, fun t ht => ⟨(by show 2 ≤ sizeLine; decide), fun p hp => ?_⟩⟩⟩
                  have st := same_new ht (.tup ys)
                  have sp := same_new hp (.tup [.str "mean", .ref t])
                  have s5 := st.trans sp
                  have kt : KeepT K H4 _ := Same.keepT s5
                  refine q _ _ ((k13.trans k4).trans (Same.kq s5)) (hD4.same s5) ⟨.mean ps, ⟨p, t, ys, rfl, SqT.of upd_same, Same.keepT sp t _ (SqT.of upd_same), rp.imp fun _ _ ⟨cc, u, e1, e2, e3, _⟩ => ⟨cc, u, e1, kt _ _ e2, (e3.keep kt).1⟩⟩, ⟨fun e => ?_, by omega, fun p hp => (wp p hp).1⟩, sum_le3 (f := fun p : Int × Tm => cnt k p.2) (fun p hp => (wp p hp).2) (by omega)⟩
                  rw [e] at lp
                  have : ys.length = 0 := lp
                  omega
end
end Cb
namespace Cb
open PySem PySem.Spec PyProof.Rows L2
open C8 (Cal Mak pe_c pe_mk pe_gc)
section
variable {P : Program} {w : World} {K : PySem.W.Frag} {mg : Str → Option Value} {base : Heap}
theorem TmAt.up {H : Hp} : ∀ (n : Nat) {v : V} {t : Tm}, TmAt K H n v t → TmAt K H (n + 1) v t
  | 0, _, _, h => h.elim
  | n + 1, v, .bid p, h => h
  | n + 1, v, .fixed f, h => h
  | n + 1, v, .mean ps, h => let ⟨a, b, us, e, q, r, s⟩ := h; ⟨a, b, us, e, q, r, s.imp fun _ _ ⟨c, x, e, q, r⟩ => ⟨c, x, e, q, TmAt.up n r⟩⟩
  | n + 1, v, .least ts, h => let ⟨a, b, us, e, q, r, s⟩ := h; ⟨a, b, us, e, q, r, s.imp fun _ _ r => TmAt.up n r⟩
  | n + 1, v, .greatest ts, h => let ⟨a, b, us, e, q, r, s⟩ := h; ⟨a, b, us, e, q, r, s.imp fun _ _ r => TmAt.up n r⟩
  | n + 1, v, .ranked _ ts, h => let ⟨a, b, us, e, q, r, s⟩ := h; ⟨a, b, us, e, q, r, s.imp fun _ _ r => TmAt.up n r⟩
  | n + 1, v, .between lo hi t, h => let ⟨a, x, y, z, e, q, r1, r2, r⟩ := h; ⟨a, x, y, z, e, q, r1, r2, TmAt.up n r⟩
theorem Wf.up {people : Nat} : ∀ (n : Nat) {t : Tm}, Wf people n t → Wf people (n + 1) t
  | 0, _, h => h.elim
  | n + 1, .bid p, h => h
  | n + 1, .fixed f, h => h
  | n + 1, .mean ps, h => ⟨h.1, h.2.1, fun p hp => ⟨(h.2.2 p hp).1, (h.2.2 p hp).2.1, Wf.up n (h.2.2 p hp).2.2⟩⟩
  | n + 1, .least ts, h => ⟨h.1, h.2.1, fun t ht => Wf.up n (h.2.2 t ht)⟩
  | n + 1, .greatest ts, h => ⟨h.1, h.2.1, fun t ht => Wf.up n (h.2.2 t ht)⟩
  | n + 1, .ranked _ ts, h => ⟨h.1, h.2.1, h.2.2.1, fun t ht => Wf.up n (h.2.2.2 t ht)⟩
  | n + 1, .between lo hi t, h => ⟨h.1, h.2.1, h.2.2.1, h.2.2.2.1, h.2.2.2.2.1, Wf.up n h.2.2.2.2.2⟩
theorem cnt_up {people : Nat} : ∀ (n : Nat) {t : Tm}, Wf people n t → cnt (n + 1) t = cnt n t
  | 0, _, h => h.elim
  | n + 1, .bid p, h => rfl
  | n + 1, .fixed f, h => rfl
  | n + 1, .mean ps, h => congrArg (fun l => 1 + List.sum l) (List.map_congr_left fun p hp => cnt_up n (h.2.2 p hp).2.2)
  | n + 1, .least ts, h => congrArg (fun l => 1 + List.sum l) (List.map_congr_left fun t ht => cnt_up n (h.2.2 t ht))
  | n + 1, .greatest ts, h => congrArg (fun l => 1 + List.sum l) (List.map_congr_left fun t ht => cnt_up n (h.2.2 t ht))
  | n + 1, .ranked _ ts, h => congrArg (fun l => 1 + List.sum l) (List.map_congr_left fun t ht => cnt_up n (h.2.2.2 t ht))
  | n + 1, .between lo hi t, h => congrArg (fun l => 1 + l) (cnt_up n h.2.2.2.2.2)
/-- a term of a fuel, with a bound of its count -/
def TkAt (K : PySem.W.Frag) (people k B : Nat) (H : Hp) (u : V) (t : Tm) : Prop := TmAt K H k u t ∧ Wf people k t ∧ cnt k t ≤ B
theorem TkAt.up {people k B : Nat} {H : Hp} {u : V} {t : Tm} (h : TkAt K people k B H u t) : TkAt K people (k + 1) B H u t := ⟨TmAt.up k h.1, Wf.up k h.2.1, by rw [cnt_up k h.2.1]; exact h.2.2⟩
theorem TkAt.keep {people k B : Nat} {H H' : Hp} {u : V} {t : Tm} (h : TkAt K people k B H u t) (s : KeepT K H H') : TkAt K people k B H' u t := ⟨TmAt.keep s k h.1, h.2⟩
theorem PtAt.four {people m : Nat} {H : Hp} {u : V} {t : Tm} (h : PtAt K people m H u t) (h1 : 1 ≤ m) (h4 : m ≤ 4) : TkAt K people 4 40 H u t := by
  have h' : TkAt K people m 40 H u t := ⟨h.1, h.2.1, Nat.le_trans h.2.2 (by
    match m, h1, h4 with
    | 1, _, _ => decide
    | 2, _, _ => decide
    | 3, _, _ => decide
    | 4, _, _ => decide)⟩
  match m, h1, h4, h' with
  | 1, _, _, h' => exact h'.up.up.up
  | 2, _, _, h' => exact h'.up.up
  | 3, _, _, h' => exact h'.up
  | 4, _, _, h' => exact h'
def RpAt (K : PySem.W.Frag) (H : Hp) (r : V) (people : Nat) (u : V) (t : Tm) : Prop := ∃ a, r = .ref a ∧ SqT K H a [.int people, u] ∧ TkAt K people 6 60 H u t ∧ 1 ≤ people ∧ people ≤ 6
def spRParts (K : PySem.W.Frag) : Sp := fun vs H Q _ => ∃ (d c : Addr), vs = [.ref d, .int 6] ∧ DiAt H d c ∧ RetD H d c Q (fun H' r => ∃ people u t, RpAt K H' r people u t)
theorem sc_L_rule_parts : FnScope ["_law_dice_here", "_law_most", "_law_people", "_law_term_here", "_law_bids", "_law_person"] ["_law_dice_here", "_law_most"] (defScope zL_rule_parts) := ⟨rfl, rfl, rfl, by decide +kernel, rfl, by decide +kernel, by decide +kernel⟩
theorem ok_L_rule_parts (T : Tx K mg) (c_L_term : Cal P w K mg base 6 "_law_term" (spTerm K 4) []) (c_L_draw : Cal P w K mg base 1 "_law_draw" spDraw []) : Cal P w K mg base 7 "_law_rule_parts" (spRParts K) [] := by
  refine mk_cal (k := 6) T 43 rfl rfl sc_L_rule_parts (fun _ _ _ _ _ _ us hl => match us, hl with | [_, _], _ => rfl) (fun vs H Q E h => ?_) (fun f cdv A outer s H vs Q E hr h => ?_)
  · obtain ⟨d, c, rfl, _⟩ := h
    rfl
  · obtain ⟨d, c, rfl, hD, q⟩ := h
    refine ⟨_, (pss_cons (ps_set (i := 2) sc_L_rule_parts.nd rfl (Or.inl rfl) (pe_op op_add pe_int (pe_c c_L_draw hr (by first | decide | omega) rfl (pa_cons (pv 0) (pa_cons (pv 1) pa_nil)))))
      (pss_cons (ps_set (i := 3) sc_L_rule_parts.nd rfl (Or.inl rfl) (pe_c c_L_term hr (by first | decide | omega) rfl (pa_cons (pv 0) (pa_cons (pv 2) (pa_cons (pe_op op_add pe_int (pe_c c_L_draw hr (by first | decide | omega) rfl (pa_cons (pv 0) (pa_cons pe_int pa_nil)))) (pa_cons pe_bl pa_nil))))))
      (C8.pss_cut (ps_if (pt_cmpR op_eq (pe_c c_L_draw hr (by first | decide | omega) rfl (pa_cons (pv 0) (pa_cons pe_int pa_nil))) pe_int (nomark _)) (pss_cons (ps_set (i := 4) sc_L_rule_parts.nd rfl (Or.inl rfl) (pe_callTy (tupO K) rfl T.b_tuple (by decide +kernel) (pa_cons (pe_lc (own := [("_law_person", 5)]) (g := (gName 5)) rfl sc_L_rule_parts.nd (pi_range1 rfl T.b_range (pa_cons (pv 2) pa_nil)) (blkOk_by (own := [("_law_person", 5)]) (N := ["_law_dice_here", "_law_most", "_law_people", "_law_term_here", "_law_bids", "_law_person"]) (sc := defScope zL_rule_parts) (by decide +kernel)) (fun _ _ _ _ _ => (pg_name (i := 5) sc_L_rule_parts.nd rfl (Or.inl rfl))) (fun _ _ _ _ _ => pts_nil) (fun _ _ _ _ _ => (pe_tup (pa_cons (pe_op op_add pe_int (pe_c c_L_draw hr (by first | decide | omega) rfl (pa_cons (pv 0) (pa_cons pe_int pa_nil)))) (pa_cons (pe_tup (pa_cons pe_str (pa_cons (pv 5) pa_nil))) pa_nil))))) pa_nil)))
      (pss_one (ps_set (i := 3) sc_L_rule_parts.nd rfl (Or.inl rfl) (pe_tup (pa_cons pe_str (pa_cons (pe_tup (pa_cons (pe_tup (pa_cons (pe_op op_add pe_int (pe_c c_L_draw hr (by first | decide | omega) rfl (pa_cons (pv 0) (pa_cons pe_int pa_nil)))) (pa_cons (pv 3) pa_nil))) (pa_cons (pe_tup (pa_cons (pe_op op_add pe_int (pe_c c_L_draw hr (by first | decide | omega) rfl (pa_cons (pv 0) (pa_cons pe_int pa_nil)))) (pa_cons (pe_tup (pa_cons pe_str (pa_cons (pv 4) pa_nil))) pa_nil))) pa_nil))) pa_nil)))))) pss_nil)
      (pss_one (ps_ret (pe_tup (pa_cons (pv 2) (pa_cons (pv 3) pa_nil)))))))), ?_⟩
    refine ⟨_, rfl, _, rfl, d, c, 6, rfl, by decide, by decide, hD, fun H1 r1 k1 hD1 ⟨z, e, z0, z1⟩ => ?_⟩
    subst e
    obtain ⟨j, rfl⟩ : ∃ j : Nat, z = (j : Int) := ⟨z.toNat, by omega⟩
    have ej : (1 : Int) + (j : Int) = ((1 + j : Nat) : Int) := by omega
    refine ⟨_, _, rfl, rfl, ?_⟩
    refine ⟨_, rfl, _, rfl, _, rfl, d, c, 4, rfl, by decide, by decide, hD1, fun H2 r2 k2 hD2 ⟨z, e, z20, z21⟩ => ?_⟩
    subst e
    obtain ⟨m, rfl⟩ : ∃ m : Nat, z = (m : Int) := ⟨z.toNat, by omega⟩
    have em : (1 : Int) + (m : Int) = ((1 + m : Nat) : Int) := by omega
    refine ⟨_, _, rfl, rfl, d, c, 1 + j, 1 + m, (by show [V.ref d, V.int (1 + (j : Int)), V.int (1 + (m : Int)), V.bl true] = _; rw [ej, em]), by omega, by omega, by omega, by omega, hD2, fun H3 r3 k3 hD3 ⟨t, ht⟩ => ?_⟩
    have t4 := ht.four (by omega) (by omega)
    have k13 := (k1.trans k2).trans k3
    refine ⟨fun σ H' => ∃ u t x, σ = [some (.ref d), some (.int 6), some (.int (1 + (j : Int))), some u, x, none] ∧ Ka d H H' ∧ DiAt H' d c ∧ TkAt K (1 + j) 6 60 H' u t, ?_, ?_⟩
    · refine ⟨_, rfl, d, c, 2, rfl, by decide, by decide, hD3, fun H4 r4 k4 hD4 ⟨z, e, z40, z41⟩ => ?_⟩
      subst e
      have t44 := t4.keep (hD3.kt k4)
      refine ⟨rfl, _, rfl, ite2 (fun ca => ?_) (fun ca => ⟨r3, t, _, rfl, k13.trans k4, hD4, t44.up.up.1, t44.up.up.2.1, Nat.le_trans t44.up.up.2.2 (by decide)⟩)⟩
      have z62 : 1 + (j : Int) < 2 ^ 62 := by
        have : (7 : Int) < 2 ^ 62 := by decide
        omega
      have z62' : -(2 ^ 62) ≤ 1 + (j : Int) := by
        have : -(2 ^ 62) ≤ (0 : Int) := by decide
        omega
      have eN : (1 + (j : Int)).toNat = 1 + j := by omega
      refine ⟨_, rfl, 1 + (j : Int), rfl, z62', z62, fun D hDn => ?_⟩
      obtain ⟨n1, n2⟩ := hD4.ne hDn
      refine lc_gen (K := K) (walk_range (lo := 0) (n := (1 + (j : Int)).toNat)) (fun b => b = d) (fun H => DiAt H d c) (fun _ => true) (fun i H y => ∃ (w : Int) (cc : Addr) (u : V), y = .ref cc ∧ SqT K H cc [.int w, u] ∧ TmAt K H 4 u (.bid i) ∧ 1 ≤ w ∧ w ≤ 3) hDn n1 (len60 (by omega)) (fun H j => j.lst) (fun _ _ => trivial) hD4 (fun H o j => j.upd n1 n2) (fun _ _ _ _ s ⟨w, cc, u, e1, e2, e3, e4⟩ => ⟨w, cc, u, e1, s _ _ e2, TmAt.keep s 4 e3, e4⟩) ?_ ?_
      · rintro i x H0 H5 hi k5 hD5 ⟨rfl, rfl⟩ Q' N qq _
        refine ⟨rfl, _, rfl, d, c, 3, rfl, by decide, by decide, hD5, fun H6 r6 k6 hD6 ⟨y, e, y0, y1⟩ => ?_⟩
        subst e
        refine ⟨_, _, rfl, rfl, _, rfl, (by show 2 ≤ sizeLine; decide), fun p hp => ⟨(by show 2 ≤ sizeLine; decide), fun p2 hp2 => ?_⟩⟩
        have sp := same_new hp (.tup [.str "bid", .int (0 + (i : Int))])
        have sp2 := same_new hp2 (.tup [.int (1 + y), .ref p])
        have s := sp.trans sp2
        refine qq _ _ rfl (k6.trans (Same.kq s)) (hD6.same s) ⟨1 + y, p2, .ref p, rfl, SqT.of upd_same, ⟨p, rfl, ?_⟩, by omega, by omega⟩
        have ei : (0 : Int) + (i : Int) = (i : Nat) := Int.zero_add _
        rw [← ei]
        exact Same.keepT sp2 p _ (SqT.of upd_same)
      · intro H5 ys k5 hD5 hys hb
        rw [filt_true] at hb
        obtain ⟨ly, fy⟩ := hb.of_range
        rw [eN] at ly
        obtain ⟨ps, rp⟩ := pick (R := fun y (p : Int × Tm) => ∃ cc u, y = .ref cc ∧ SqT K H5 cc [.int p.1, u] ∧ TkAt K (1 + j) 4 1 H5 u p.2 ∧ 1 ≤ p.1 ∧ p.1 ≤ 3) (us := ys) fun y hy => by
          obtain ⟨i, hi⟩ := List.mem_iff_getElem?.mp hy
          obtain ⟨w, cc, u, e1, e2, e3, e4⟩ := fy i y hi
          have := (List.getElem?_eq_some_iff.mp hi).1
          exact ⟨(w, .bid i), cc, u, e1, e2, ⟨e3, (by show i < 1 + j; omega), Nat.le_refl 1⟩, e4⟩
        have lp := rp.len
        have wp : ∀ p ∈ ps, (1 ≤ p.1 ∧ p.1 ≤ 99 ∧ Wf (1 + j) 4 p.2) ∧ cnt 4 p.2 ≤ 1 := fun p hp => by
          obtain ⟨i, hi⟩ := List.mem_iff_getElem?.mp hp
          obtain ⟨_, _, cc, u, e1, e2, e3, e4, e5⟩ := rp.get' hi
          exact ⟨⟨e4, by omega, e3.2.1⟩, e3.2.2⟩
        have cp := sum_le (fun p : Int × Tm => cnt 4 p.2) 1 ps fun p hp => (wp p hp).2
        refine ⟨D, ys, rfl, .inl ⟨SqL.of hys, fun bb hbb => ?_⟩⟩
        have sb := same_new hbb (.tup ys)
        refine ⟨_, rfl, d, c, 3, rfl, by decide, by decide, hD5.same sb, fun H6 r6 k6 hD6 ⟨y, e, y0, y1⟩ => ?_⟩
        subst e
        refine ⟨_, _, rfl, rfl, _, rfl, (by show 2 ≤ sizeLine; decide), fun p1 hp1 => ?_⟩
        have s1 := same_new hp1 (.tup [.int (1 + y), r3])
        refine ⟨_, rfl, d, c, 3, rfl, by decide, by decide, hD6.same s1, fun H7 r7 k7 hD7 ⟨y2, e, y20, y21⟩ => ?_⟩
        subst e
        refine ⟨_, _, rfl, rfl, _, rfl, (by show 2 ≤ sizeLine; decide), fun p2 hp2 => ⟨(by show 2 ≤ sizeLine; decide), fun p3 hp3 => ⟨(by show 2 ≤ sizeLine; decide), fun p4 hp4 => ⟨(by show 2 ≤ sizeLine; decide), fun p5 hp5 => ?_⟩⟩⟩⟩
        have s2 := same_new hp2 (.tup [.str "mean", .ref bb])
        have s3 := same_new hp3 (.tup [.int (1 + y2), .ref p2])
        have s4 := same_new hp4 (.tup [.ref p1, .ref p3])
        have s5 := same_new hp5 (.tup [.str "mean", .ref p4])
        have s25 := ((s2.trans s3).trans s4).trans s5
        have kb : KeepT K H5 _ := Same.keepT sb
        have k6t : KeepT K _ H6 := (hD5.same sb).kt k6
        have k1t : KeepT K H6 _ := Same.keepT s1
        have k7t : KeepT K _ H7 := (hD6.same s1).kt k7
        have kt2 : KeepT K H7 _ := Same.keepT s25
        have kAll := (((kb.trans k6t).trans k1t).trans k7t).trans kt2
        have t4f := (t44.keep (hD4.kt k5)).keep kAll
        refine ⟨.ref p5, .mean [(1 + y, t), (1 + y2, .mean ps)], _, rfl, ?_, ((hD7.same s25)), ?_, ⟨by simp, by simp, fun p hp => ?_⟩, ?_⟩
        · exact (((((k13.trans k4).trans k5).trans (Same.kq sb)).trans k6).trans (Same.kq s1)).trans (k7.trans (Same.kq s25))
        · refine ⟨p5, p4, [.ref p1, .ref p3], rfl, SqT.of upd_same, Same.keepT s5 p4 _ (SqT.of upd_same), .cons ⟨p1, r3, rfl, ?_, t4f.up.1⟩ (.cons ⟨p3, .ref p2, rfl, Same.keepT (s4.trans s5) p3 _ (SqT.of upd_same), p2, bb, ys, rfl, Same.keepT ((s3.trans s4).trans s5) p2 _ (SqT.of upd_same), ?_, rp.imp fun _ _ ⟨cc, u, e1, e2, e3, _⟩ => ⟨cc, u, e1, kAll _ _ e2, (e3.keep kAll).1⟩⟩ .nil)⟩
          · exact (k7t.trans kt2) p1 _ (SqT.of upd_same)
          · exact (((k6t.trans k1t).trans k7t).trans kt2) bb _ (SqT.of upd_same)
        · simp only [List.mem_cons, List.mem_nil_iff, or_false] at hp
          rcases hp with rfl | rfl
          · exact ⟨by show 1 ≤ 1 + y; omega, by show 1 + y ≤ 99; omega, t4f.up.2.1⟩
          · refine ⟨by show 1 ≤ 1 + y2; omega, by show 1 + y2 ≤ 99; omega, fun e => ?_, by omega, fun p hp => (wp p hp).1⟩
            rw [e] at lp
            have : ys.length = 0 := lp
            omega
        · show 1 + (cnt 5 t + ((1 + (ps.map fun p => cnt 4 p.2).sum) + 0)) ≤ 60
          have : cnt 5 t ≤ 40 := t4f.up.2.2
          omega
    · rintro σ H' ⟨u, t, x, rfl, k, hD', hT⟩
      refine ⟨_, rfl, _, rfl, (by show 2 ≤ sizeLine; decide), fun p hp => ?_⟩
      have s := same_new hp (.tup [.int (1 + (j : Int)), u])
      refine q _ _ (k.trans (Same.kq s)) (hD'.same s) ⟨1 + j, u, t, p, rfl, ?_, hT.keep (Same.keepT s), by omega, by omega⟩
      rw [← ej]
      exact SqT.of upd_same
end
end Cb
namespace Cb
open PySem PySem.Spec PyProof.Rows L2
open C8 (Cal Mak pe_c pe_mk pe_gc)
section
variable {P : Program} {w : World} {K : PySem.W.Frag} {mg : Str → Option Value} {base : Heap}
/-- what a step that writes lists alone keeps -/
structure Kp (K : PySem.W.Frag) (H H' : Hp) : Prop where
  t : KeepT K H H'
  r : ∀ (a C dx : Addr) (f : List (Str × V)), H a = some (.ins C dx f) → H' a = some (.ins C dx f)
theorem Kp.trans {H H1 H2 : Hp} (x : Kp K H H1) (y : Kp K H1 H2) : Kp K H H2 := ⟨x.t.trans y.t, fun a C dx f e => y.r a C dx f (x.r a C dx f e)⟩
theorem Kp.same {H H' : Hp} (s : Same H H') : Kp K H H' := ⟨Same.keepT s, fun a C dx f e => s _ _ e⟩
theorem Kp.kq {H H' : Hp} {M : Addr → Prop} (k : Kq M H H') (l : ∀ b, M b → ∃ zs, H b = some (.lst zs)) : Kp K H H' := ⟨k.keepT l, fun a C dx f e => k a _ e fun m => by
  obtain ⟨zs, q⟩ := l a m
  rw [e] at q
  cases q⟩
theorem RuOk.kp {H H' : Hp} {v : V} {n : Nat} {t : Tm} (h : RuOk K H v n t) (k : Kp K H H') : RuOk K H' v n t :=
  let ⟨u, ⟨a, dx, e, q⟩, b⟩ := h.ex; ⟨⟨u, ⟨a, dx, e, k.r _ _ _ _ q⟩, TmAt.keep k.t 6 b⟩, h.wf, h.ct, h.p1, h.p6⟩
theorem DiAt.kq {H H' : Hp} {d c : Addr} {M : Addr → Prop} (h : DiAt H d c) (k : Kq M H H') (n1 : ¬ M d) (n2 : ¬ M c) : DiAt H' d c := by
  obtain ⟨cells, pos, big, x, m, h1, h2, r⟩ := h
  exact ⟨cells, pos, big, x, m, k _ _ h1 n1, k _ _ h2 n2, r⟩
theorem sql_farM {H H' : Hp} {L : Addr} {ls : List V} {M : Addr → Prop} (h : SqL K H L ls) (hM : ∀ b, M b → H b = some (.lst [])) (hd : ([] : List V) ≠ ls) (k : Kq M H H') : SqL K H' L ls := by
  rcases h with (h | ⟨o, h⟩) | h
  · refine .inl (.inl (k _ _ h fun m => hd ?_))
    rw [hM L m] at h
    injection h with h
    injection h
  · refine .inl (.inr ⟨o, k _ _ h fun m => ?_⟩)
    rw [hM L m] at h
    cases h
  · exact .inr h
theorem All2.set {α β : Type} {R : α → β → Prop} : ∀ {as : List α} {bs : List β} (j : Nat) {a : α} {b : β}, All2 R as bs → R a b → All2 R (as.set j a) (bs.set j b)
  | _, _, _, _, _, .nil, _ => .nil
  | _, _, 0, _, _, .cons _ t, r => .cons r t
  | _, _, j + 1, _, _, .cons r t, r' => .cons r (All2.set j t r')
theorem ix_here {n j : Nat} (h : j < n) : ixN n ((0 : Int) + (j : Int)) = some j := by
  unfold ixN
  rw [Int.zero_add, if_pos (by omega), if_pos (by omega), Int.toNat_natCast]
theorem none_left {g : Nat → Bool} {l : Lot} : (l.filter g).length = 0 ↔ (l.all fun p => !g p) = true := by
  rw [List.length_eq_zero_iff, List.filter_eq_nil_iff, List.all_eq_true]
  exact ⟨fun h p hp => by have := h p hp; cases e : g p <;> simp_all, fun h p hp => by have := h p hp; cases e : g p <;> simp_all⟩
theorem filt_snoc {α : Type} {L : List α} {i : Nat} {l : α} (g : α → Bool) (h : L[i]? = some l) : (L.take (i + 1)).filter g = (L.take i).filter g ++ if g l = true then [l] else [] := by
  rw [take_snoc h, List.filter_append]
  cases e : g l with
  | true => rw [List.filter_cons_of_pos e, List.filter_nil, if_pos rfl]
  | false => rw [List.filter_cons_of_neg (by rw [e]; decide), List.filter_nil, if_neg Bool.false_ne_true]
theorem head_found {α : Type} {L : List α} {g : α → Bool} {l : α} (h : L.find? g = some l) : (L.filter g)[0]? = some l := by
  rw [← h, ← List.head?_filter, List.head?_eq_getElem?]
def lotD (l : Lot) : PyData := .tuple ((iLot l).map PyData.int)
theorem dp_all {H : Hp} : ∀ l : List Int, DpAll K H (l.map V.int) (l.map PyData.int)
  | [] => .nil
  | i :: l => .cons (.int i) (dp_all l)
theorem dp_lot {H : Hp} {v : V} {l : Lot} (h : LtAt K H v l) : Dp K H v (lotD l) := by
  obtain ⟨a, rfl, hS⟩ := h
  exact .tup hS (dp_all (iLot l))
theorem lay_all : ∀ l : List Int, PyData.canLayAll0 (l.map PyData.int) = true
  | [] => rfl
  | i :: l => by
    show (true && PyData.canLayAll0 (l.map PyData.int)) = true
    rw [lay_all l] <;> rfl
theorem deep_all : ∀ l : List Int, PyData.depthAll (l.map PyData.int) = 0
  | [] => rfl
  | i :: l => by
    show max 0 (PyData.depthAll (l.map PyData.int)) = 0
    rw [deep_all l] <;> rfl
theorem lot_can (l : Lot) : (lotD l).canLay0 = true := lay_all (iLot l)
theorem lot_shaped (l : Lot) : SeqAt.shaped (lotD l) = true := by
  unfold SeqAt.shaped
  rw [lot_can]
  show (true && decide (PyData.depthAll ((iLot l).map PyData.int) + 1 ≤ 64)) = true
  rw [deep_all] <;> rfl
theorem lot_same (l : Lot) : (!PyData.eqv (lotD l) (lotD l)) = false := by
  rw [SeqAt.eqv_refl _ (lot_can l)] <;> rfl
def spLaw (K : PySem.W.Frag) : Sp := fun vs H Q _ => ∃ (a : Addr) (ns : List Int), vs = [.ref a] ∧ SqL K H a (ns.map V.int) ∧ ns.length ≤ 63 ∧ ∀ H' : Hp, Q (.bl true) H'
theorem sc_law : FnScope ["_law_script", "_law_dice_here", "_law_turn", "_law_people", "_law_term_here", "_law_rule", "_law_wishes", "_law_person", "_law_number_here", "_law_up", "_law_down", "_law_lot", "_law_others"] ["_law_script"] (defScope zlaw) := ⟨rfl, rfl, rfl, by decide +kernel, rfl, by decide +kernel, by decide +kernel⟩
theorem body_law (T : Tx K mg) (c_L_dice : Cal P w K mg base 1 "_law_dice" (spDice K) []) (c_L_rule_parts : Cal P w K mg base 7 "_law_rule_parts" (spRParts K) []) (c_Rule : Mak P w K mg base 13 "Rule" (He.ga K "Rule") (spInit K) []) (c_L_outcome : Cal P w K mg base 10 "_law_outcome" (spLOut K) []) (c_L_lots : Cal P w K mg base 2 "_law_lots" (spLLots K) []) (c_L_numbers : Cal P w K mg base 3 "_law_numbers" (spNumbers K) []) (c_L_draw : Cal P w K mg base 1 "_law_draw" spDraw []) (c_holding : Cal P w K mg base 13 "holding" (spHold K) []) (c_pressing : Cal P w K mg base 13 "pressing" (spPress K) []) (c_L_less : Cal P w K mg base 1 "_law_less" (spLess K) []) (c_L_corner : Cal P w K mg base 9 "_law_corner" (spLCorner K) []) (f : Addr) (cdv : Value) (A : Around) (outer : List Env) (s : Shared) (H : Hp) (vs : List V) (Q : VK) (E : XK) (hr : Room 19 (A.deeper (envOfC "law" (defScope zlaw) s.heap.objs.size f cdv))) (h : (spLaw K) vs H Q E) :
    ∃ t, PSs (cxOf CX0 P w K mg base ["_law_script", "_law_dice_here", "_law_turn", "_law_people", "_law_term_here", "_law_rule", "_law_wishes", "_law_person", "_law_number_here", "_law_up", "_law_down", "_law_lot", "_law_others"] "law" (defScope zlaw) f cdv A outer s H E).nox (defBody zlaw) t ∧ t { nx := fun _ H' => Q .non H', rt := Q } (start ["_law_script", "_law_dice_here", "_law_turn", "_law_people", "_law_term_here", "_law_rule", "_law_wishes", "_law_person", "_law_number_here", "_law_up", "_law_down", "_law_lot", "_law_others"] vs) H := by
  · obtain ⟨a, ns, rfl, hS, hl, q⟩ := h
    refine ⟨_, (pss_cons (ps_set (i := 1) sc_law.nd rfl (Or.inl rfl) (pe_c c_L_dice hr (by first | decide | omega) rfl (pa_cons (pv 0) pa_nil)))
      (pss_cons (ps_for PassesOwn.never rfl (pi_range1 rfl T.b_range (pa_cons pe_int pa_nil)) (pg_name (i := 2) sc_law.nd rfl (Or.inl rfl)) (pss_cons (ps_asg (pe_c c_L_rule_parts hr (by first | decide | omega) rfl (pa_cons (pv 1) (pa_cons pe_int pa_nil))) (pg_tup rfl (pgs_cons (pg_name (i := 3) sc_law.nd rfl (Or.inl rfl)) (pgs_cons (pg_name (i := 4) sc_law.nd rfl (Or.inl rfl)) pgs_nil))))
      (pss_cons (ps_set (i := 5) sc_law.nd rfl (Or.inl rfl) (pe_mk c_Rule hr (by first | decide | omega) rfl (pa_cons (pv 3) (pa_cons (pv 4) pa_nil))))
      (pss_cons (ps_set (i := 6) sc_law.nd rfl (Or.inr rfl) (pe_callTy (lstO K) rfl T.b_list (by decide +kernel) (pa_cons (pe_c c_L_numbers hr (by first | decide | omega) rfl (pa_cons (pv 1) (pa_cons (pv 3) pa_nil))) pa_nil)))
      (pss_cons (ps_for PassesOwn.never rfl (pi_range1 rfl T.b_range (pa_cons (pv 3) pa_nil)) (pg_name (i := 7) sc_law.nd rfl (Or.inl rfl)) (pss_one (ps_if (pt_cmpR op_eq (pe_c c_L_draw hr (by first | decide | omega) rfl (pa_cons (pv 1) (pa_cons pe_int pa_nil))) pe_int (nomark _)) (pss_one (ps_asg (pe_ix (ixL K) (pv 6) pe_int (fun _ _ => rfl)) (pg_sub (pv 6) (pv 7) set_list))) pss_nil)))
      (pss_cons (ps_set (i := 6) sc_law.nd rfl (Or.inr rfl) (pe_callTy (tupO K) rfl T.b_tuple (by decide +kernel) (pa_cons (pv 6) pa_nil)))
      (pss_cons (ps_set (i := 8) sc_law.nd rfl (Or.inr rfl) (pe_c c_L_outcome hr (by first | decide | omega) rfl (pa_cons (pv 3) (pa_cons (pv 4) (pa_cons (pv 6) pa_nil)))))
      (pss_cons (ps_set (i := 9) sc_law.nd rfl (Or.inl rfl) (pe_lst pa_nil))
      (pss_cons (ps_set (i := 10) sc_law.nd rfl (Or.inl rfl) (pe_lst pa_nil))
      (pss_cons (ps_for PassesOwn.never rfl (pi_list (pe_c c_L_lots hr (by first | decide | omega) rfl (pa_cons (pv 3) pa_nil))) (pg_name (i := 11) sc_law.nd rfl (Or.inr rfl)) (pss_cons (ps_set (i := 12) sc_law.nd rfl (Or.inl rfl) (pe_callTy (tupO K) rfl T.b_tuple (by decide +kernel) (pa_cons (pe_lc (own := [("_law_person", 7)]) (g := (gName 7)) rfl sc_law.nd (pi_range1 rfl T.b_range (pa_cons (pv 3) pa_nil)) (blkOk_by (own := [("_law_person", 7)]) (N := ["_law_script", "_law_dice_here", "_law_turn", "_law_people", "_law_term_here", "_law_rule", "_law_wishes", "_law_person", "_law_number_here", "_law_up", "_law_down", "_law_lot", "_law_others"]) (sc := defScope zlaw) (by decide +kernel)) (fun _ _ _ _ _ => (pg_name (i := 7) sc_law.nd rfl (Or.inl rfl))) (fun _ _ _ _ _ => (pts_one (pt_cmpR (ninS K) (pv 7) (pv 11) rfl))) (fun _ _ _ _ _ => (pv 7))) pa_nil)))
      (C8.pss_cut (ps_if (pt_cmpR op_eq (pe_callB (lenS K) rfl T.b_len (by decide +kernel) (pa_cons (pe_lc (own := [("_law_person", 7)]) (g := (gName 7)) rfl sc_law.nd (pi_tup (pv 11)) (blkOk_by (own := [("_law_person", 7)]) (N := ["_law_script", "_law_dice_here", "_law_turn", "_law_people", "_law_term_here", "_law_rule", "_law_wishes", "_law_person", "_law_number_here", "_law_up", "_law_down", "_law_lot", "_law_others"]) (sc := defScope zlaw) (by decide +kernel)) (fun _ _ _ _ _ => (pg_name (i := 7) sc_law.nd rfl (Or.inl rfl))) (fun _ _ _ _ _ => (pts_one (pt_val (pe_c c_L_less hr (by first | decide | omega) rfl (pa_cons (pe_ix (ixT K) (pv 6) (pv 7) (fun _ _ => rfl)) (pa_cons (pv 8) pa_nil)))))) (fun _ _ _ _ _ => (pv 7))) pa_nil)) pe_int (nomark _)) (pss_one (ps_if (pt_not (pt_val (pe_c c_L_less hr (by first | decide | omega) rfl (pa_cons (pe_c c_L_corner hr (by first | decide | omega) rfl (pa_cons (pv 3) (pa_cons (pv 4) (pa_cons (pv 11) pa_nil)))) (pa_cons (pv 8) pa_nil))))) (pss_one (ps_expr (pe_bm PySem.F.plainAttrs_list PySem.F.slot_list_append PySem.F.type_list_append mt_append (pv 9) (pa_cons (pv 11) pa_nil)))) pss_nil)) pss_nil)
      (pss_one (ps_if (pt_cmpR op_eq (pe_callB (lenS K) rfl T.b_len (by decide +kernel) (pa_cons (pe_lc (own := [("_law_person", 7)]) (g := (gName 7)) rfl sc_law.nd (pi_tup (pv 11)) (blkOk_by (own := [("_law_person", 7)]) (N := ["_law_script", "_law_dice_here", "_law_turn", "_law_people", "_law_term_here", "_law_rule", "_law_wishes", "_law_person", "_law_number_here", "_law_up", "_law_down", "_law_lot", "_law_others"]) (sc := defScope zlaw) (by decide +kernel)) (fun _ _ _ _ _ => (pg_name (i := 7) sc_law.nd rfl (Or.inl rfl))) (fun _ _ _ _ _ => (pts_one (pt_val (pe_c c_L_less hr (by first | decide | omega) rfl (pa_cons (pv 8) (pa_cons (pe_ix (ixT K) (pv 6) (pv 7) (fun _ _ => rfl)) pa_nil)))))) (fun _ _ _ _ _ => (pv 7))) pa_nil)) pe_int (nomark _)) (pss_one (ps_if (pt_not (pt_val (pe_c c_L_less hr (by first | decide | omega) rfl (pa_cons (pv 8) (pa_cons (pe_c c_L_corner hr (by first | decide | omega) rfl (pa_cons (pv 3) (pa_cons (pv 4) (pa_cons (pv 12) pa_nil)))) pa_nil))))) (pss_one (ps_expr (pe_bm PySem.F.plainAttrs_list PySem.F.slot_list_append PySem.F.type_list_append mt_append (pv 10) (pa_cons (pv 11) pa_nil)))) pss_nil)) pss_nil)))))
      (pss_one (ps_if (PW.pt (pw_or (pt_cmpR (neD K hr.units) (pe_c c_holding hr (by first | decide | omega) rfl (pa_cons (pv 5) (pa_cons (pv 6) pa_nil))) (pe_ix (ixL K) (pv 9) pe_int (fun _ _ => rfl)) (nomark _)) (pw_or1 (pt_cmpR (neD K hr.units) (pe_c c_pressing hr (by first | decide | omega) rfl (pa_cons (pv 5) (pa_cons (pv 6) pa_nil))) (pe_ix (ixL K) (pv 10) pe_int (fun _ _ => rfl)) (nomark _))))) (pss_one (ps_ret pe_bl)) pss_nil))))))))))))
      (pss_one (ps_ret pe_bl)))), ?_⟩
    refine ⟨_, rfl, a, ns, rfl, hS, hl, fun H0 d c s0 hdn hD0 => ?_⟩
    refine ⟨2, rfl, by decide, by decide, for_range (lo := 0) (n := 2) (fun i σ H' => ∃ x2 x3 x4 x5 x6 x7 x8 x9 x10 x11 x12, σ = [some (.ref a), some (.ref d), x2, x3, x4, x5, x6, x7, x8, x9, x10, x11, x12] ∧ DiAt H' d c)
      ⟨none, none, none, none, none, none, none, none, none, none, none, rfl, hD0⟩ ?_ ?_⟩
    · rintro tn σ H1 htn ⟨x2, x3, x4, x5, x6, x7, x8, x9, x10, x11, x12, rfl, hD1⟩
      refine ⟨_, rfl, d, c, rfl, hD1, fun H2 r2 k2 hD2 ⟨np, u, t, p0, e, hp0, ⟨hT2, hW, hc⟩, P1, P6⟩ => ?_⟩
      subst e
      have n62 : (np : Int) < 2 ^ 62 := by
        have : (6 : Int) < 2 ^ 62 := by decide
        omega
      have n62' : -(2 ^ 62) ≤ (np : Int) := by
        have : -(2 ^ 62) ≤ (0 : Int) := by decide
        omega
      refine ⟨p0, [.int np, u], rfl, hp0, rfl, _, _, rfl, _, _, rfl, rfl, ?_⟩
      -- the rule
      refine ⟨_, rfl, _, rfl, fun R dx hR hdx hne => ?_⟩
      have sm : Same H2 (upd (upd H2 dx (.own R)) R (.ins (He.ga K "Rule") dx [])) := (same_new hdx _).trans (same_new (by rw [upd_ne (Ne.symm hne)]; exact hR) _)
      refine ⟨R, dx, np, u, t, rfl, upd_same, P1, P6, TmAt.keep (Same.keepT sm) 6 hT2, hW, hc, fun H3 h3a h3b => ⟨rfl, ?_⟩⟩
      have s23 : Same H2 H3 := fun b o e => h3a b o (sm b o e) (ne_of_none e hR)
      have hT3 : TmAt K H3 6 u t := TmAt.keep (Same.keepT s23) 6 hT2
      have hRu3 : RuOk K H3 (.ref R) np t := ⟨⟨u, ⟨R, dx, rfl, h3b⟩, hT3⟩, hW, hc, P1, P6⟩
      have hD3 := hD2.same s23
      -- the wishes
      refine ⟨_, rfl, _, rfl, d, c, np, rfl, P6, hD3, fun H4 r4 k4 hD4 ⟨fs, ⟨a4, us, e, hT4, rT4⟩, lf, hf⟩ => ?_⟩
      subst e
      refine ⟨a4, us, rfl, .inr hT4, fun W hW4 => ?_⟩
      have s5 := same_new hW4 (.lst us)
      obtain ⟨nW1, nW2⟩ := hD4.ne hW4
      have kp35 : Kp K H3 (upd H4 W (.lst us)) := (Kp.kq k4 hD3.lst).trans (Kp.same s5)
      refine ⟨_, rfl, (np : Int), rfl, n62', n62, for_range (lo := 0) (n := np) (fun i σ H' => ∃ us fs y7, σ = [some (.ref a), some (.ref d), some (.int (0 + (tn : Int))), some (.int np), some u, some (.ref R), some (.ref W), y7, x8, x9, x10, x11, x12] ∧ DiAt H' d c ∧ RuOk K H' (.ref R) np t ∧ TmAt K H' 6 u t ∧ H' W = some (.lst us) ∧ Frs K H' us fs ∧ fs.length = np ∧ ∀ f ∈ fs, Num f ∧ Bt 20 f)
        ⟨us, fs, x7, rfl, hD4.same s5, hRu3.kp kp35, TmAt.keep kp35.t 6 hT3, upd_same, rT4.keep (Same.keepT s5), lf, hf⟩ ?_ ?_⟩
      · rintro j σ H5 hj ⟨us, fs, y7, rfl, hD5, hRu5, hT5, hW5, rW5, lf, hf⟩
        refine ⟨_, rfl, d, c, 3, rfl, by decide, by decide, hD5, fun H6 r6 k6 hD6 ⟨z, e, z0, z1⟩ => ?_⟩
        subst e
        have kp6 : Kp K H5 H6 := Kp.kq k6 hD5.lst
        have hW6 : H6 W = some (.lst us) := k6 W _ hW5 nW1
        have rW6 := rW5.keep kp6.t
        refine ⟨rfl, _, rfl, ite2 (fun ca => ?_) (fun ca => ⟨us, fs, _, rfl, hD6, hRu5.kp kp6, TmAt.keep kp6.t 6 hT5, hW6, rW6, lf, hf⟩)⟩
        have lu := rW6.len
        have h0 : 0 < us.length := by omega
        have hu0 := List.getElem?_eq_getElem h0
        obtain ⟨f0, hf0, r0⟩ := rW6.get hu0
        have kl : Kp K H6 (upd H6 W (.lst (us.set j us[0]))) := Kp.kq (M := fun b => b = W) (fun b o e nb => by rw [upd_ne nb]; exact e) fun b e => ⟨us, e ▸ hW6⟩
        refine ⟨_, rfl, W, us, 0, us[0], rfl, rfl, SqL.of hW6, atI_nat (j := 0) hu0, _, rfl, _, rfl, W, us, _, j, rfl, rfl, hW6, ix_here (by omega), us.set j us[0], fs.set j f0, _, rfl, hD6.upd nW1 nW2, (hRu5.kp kp6).kp kl, TmAt.keep (kp6.trans kl).t 6 hT5, upd_same, (rW6.keep kl.t).set j (r0.keep kl.t), by rw [List.length_set]; exact lf, fun f hf' => ?_⟩
        rcases List.mem_or_eq_of_mem_set hf' with h | h
        · exact hf f h
        · rw [h]
          exact hf f0 (List.mem_of_getElem? hf0)
      · rintro σ H6 ⟨us, fs, y7, rfl, hD6, hRu6, hT6, hW6, rW6, lf, hf⟩
        refine ⟨_, rfl, W, us, rfl, .inl ⟨SqL.of hW6, fun tW htW => ?_⟩⟩
        have s7 := same_new htW (.tup us)
        have hX7 : TpAt K (upd H6 tW (.tup us)) (.ref tW) fs := ⟨tW, us, rfl, SqT.of upd_same, rW6.keep (Same.keepT s7)⟩
        have hWs : WsOk fs := ⟨by omega, fun f hf' => ⟨(hf f hf').1, (hf f hf').2.mono (by decide)⟩⟩
        have lo := ws_lo hWs
        have oe := out_eq (d := 6) (t := t) P1 P6 hW lf lo
        have bF : Bt 4000 (lOut np 6 t fs) := oe ▸ pOut_bt hW hc hWs
        refine ⟨_, rfl, _, rfl, _, rfl, np, u, .ref tW, t, fs, rfl, P1, P6, TmAt.keep (Same.keepT s7) 6 hT6, hW, hc, hX7, lf, hWs, fun H8 r8 s8 h8 => ?_⟩
        refine ⟨(by show 0 ≤ sizeLine; decide), fun U hU => ⟨(by show 0 ≤ sizeLine; decide), fun Z hZ => ?_⟩⟩
        have s9 := same_new hU (.lst [])
        have s10 := same_new hZ (.lst [])
        have nUZ : U ≠ Z := ne_of_none (upd_same : upd H8 U (.lst []) U = _) hZ
        refine ⟨_, rfl, np, rfl, P1, P6, fun H11 r11 s11 ⟨L, ls, e, hL, rL⟩ => ?_⟩
        subst e
        have lL := rL.len
        have hdiff : ([] : List V) ≠ ls := fun e => LL_ne P1 P6 (by
          rw [← e] at lL
          exact List.eq_nil_of_length_eq_zero lL.symm)
        have hU11 : H11 U = some (.lst []) := s11 _ _ (s10 _ _ upd_same)
        have hZ11 : H11 Z = some (.lst []) := s11 _ _ upd_same
        have s8_11 := (s9.trans s10).trans s11
        have s6_11 := (s7.trans s8).trans s8_11
        have hX11 := hX7.keep (Same.keepT (s8.trans s8_11))
        have hT11 := TmAt.keep (Same.keepT s6_11) 6 hT6
        have hRu11 := hRu6.same s6_11
        have h11 := h8.keep (Same.keepT s8_11 : KeepT K H8 H11)
        have hD8 := (hD6.same s7).same s8
        obtain ⟨nU1, nU2⟩ := hD8.ne hU
        obtain ⟨nZ1, nZ2⟩ := (hD8.same s9).ne hZ
        have hD11 := hD6.same s6_11
        have lM : ∀ b, (b = U ∨ b = Z) → H11 b = some (.lst []) := fun b e => by
          rcases e with rfl | rfl
          · exact hU11
          · exact hZ11
        refine ⟨L, rfl, ⟨_, hL⟩, for_list (K := K) (a := L) (xs := ls) (fun i σ H' => ∃ y7 y11 y12 ul dl, σ = [some (.ref a), some (.ref d), some (.int (0 + (tn : Int))), some (.int np), some u, some (.ref R), some (.ref tW), y7, some r8, some (.ref U), some (.ref Z), y11, y12] ∧ Kq (fun b => b = U ∨ b = Z) H11 H' ∧ H' U = some (.lst ul) ∧ H' Z = some (.lst dl) ∧ Lts K H' ul (((LL np).take i).filter (upB np 6 t fs (lOut np 6 t fs))) ∧ Lts K H' dl (((LL np).take i).filter (dnB np 6 t fs (lOut np 6 t fs))))
          ⟨_, _, _, [], [], rfl, Kq.refl, hU11, hZ11, .nil, .nil⟩ (fun i σ H' _ ⟨_, _, _, _, _, _, kq, _⟩ => sql_farM hL lM hdiff kq) ?_ ?_⟩
        · rintro i y σ H12 hy ⟨y7, y11, y12, ul, dl, rfl, kq, hU12, hZ12, rU, rZ⟩
          have kp12 : Kp K H11 H12 := Kp.kq kq fun b e => ⟨_, lM b e⟩
          obtain ⟨l, hl, cl, rfl, hcl⟩ := rL.get hy
          have hm := List.mem_of_getElem? hl
          have hll := LL_lot P1 P6 hl
          have hlp : ∀ p ∈ l, p < np := fun p hp => LL_mem P1 P6 hm hp
          have hc12 := kp12.t cl _ hcl
          have ei : i < 64 := by
            have := (List.getElem?_eq_some_iff.mp hl).1
            have := LL_64 np P1 P6
            omega
          have lUu := rU.len
          have lUz := rZ.len
          have bU := List.length_filter_le (upB np 6 t fs (lOut np 6 t fs)) ((LL np).take i)
          have bZ := List.length_filter_le (dnB np 6 t fs (lOut np 6 t fs)) ((LL np).take i)
          have bT : ((LL np).take i).length ≤ 64 := by rw [List.length_take]; omega
          refine ⟨_, rfl, (np : Int), rfl, n62', n62, fun D0 hD0n => ?_⟩
          refine lc_gen (K := K) (walk_range (lo := 0) (n := np)) (fun _ => False) (fun _ => True) (fun p => !l.contains p) (fun p _ y => y = V.int (p : Nat)) hD0n (fun z => z) (len60 (by omega)) (fun _ _ _ z => z.elim) (fun _ _ => trivial) trivial (fun _ _ _ => trivial) (fun _ _ _ _ _ r => r) ?_ ?_
          · rintro p z H0' H13 hp k13 _ ⟨rfl, rfl⟩ Q' N qq nn
            have ep : V.int (0 + (p : Int)) = V.int (p : Nat) := by rw [Int.zero_add]
            refine ⟨rfl, _, rfl, _, rfl, cl, _, rfl, .inr (Same.keepT k13.same cl _ hc12), rfl, lotV_flat l, _, rfl, ?_⟩
            show if (!inV (V.int (0 + (p : Int))) (lotV l)) = true then _ else _
            rw [ep, lotV_in]
            cases cc : l.contains p with
            | true => exact iteF (nn _ (by rw [cc]; rfl) Kq.refl trivial)
            | false => exact iteT ⟨_, rfl, qq _ _ (by rw [cc]; rfl) Kq.refl trivial ep⟩
          · intro H13 os k13 _ hos ha
            have s13 := k13.same
            have eo : os = lotV (othersOf np l) := lotV_filter ha
            refine ⟨D0, os, rfl, .inl ⟨SqL.of hos, fun t6 ht6 => ?_⟩⟩
            have s14 := same_new ht6 (.tup os)
            have hO14 : LtAt K (upd H13 t6 (.tup os)) (.ref t6) (othersOf np l) := ⟨t6, rfl, by rw [← eo]; exact SqT.of upd_same⟩
            have s12_14 := s13.trans s14
            generalize eH : upd H13 t6 (.tup os) = H14 at hO14 s12_14
            clear s14
            have kp14 : Kp K H11 H14 := kp12.trans (Kp.same s12_14)
            have hU14 := s12_14 _ _ hU12
            have hZ14 := s12_14 _ _ hZ12
            have hX14 := hX11.keep kp14.t
            have h14 := h11.keep kp14.t
            have hT14 := TmAt.keep kp14.t 6 hT11
            have hc14 : SqT K H14 cl (lotV l) := kp14.t cl _ hcl
            have rU14 := rU.keep (Same.keepT s12_14)
            have rZ14 := rZ.keep (Same.keepT s12_14)
            obtain ⟨tw, us2, etw, hus2, rus2⟩ := hX14
            cases etw
            -- the number of a wish
            have wish : ∀ (H' : Hp) (p : Nat), KeepT K H14 H' → p ∈ l → ∃ w, us2[p]? = some w ∧ SqT K H' tW us2 ∧ FrAt K H' w (wi fs p) ∧ Bt 4000 (wi fs p) := fun H' p k hp => by
              obtain ⟨f, ef, e, _⟩ := getD_of (l := fs) (d := ((0, 1) : Fr)) (i := p) (by have := hlp p hp; omega)
              obtain ⟨w, hw, r⟩ := rus2.get' ef
              have e2 : wi fs p = f := wi_at ef
              refine ⟨w, hw, k _ _ hus2, ?_, ?_⟩
              · rw [e2]
                exact r.keep k
              · rw [e2]
                exact (hWs.2 f (List.mem_of_getElem? ef)).2.mono (by decide)
            refine ⟨fun σ' H' => ∃ y7 ul', σ' = [some (.ref a), some (.ref d), some (.int (0 + (tn : Int))), some (.int np), some u, some (.ref R), some (.ref tW), y7, some r8, some (.ref U), some (.ref Z), some (.ref cl), some (.ref t6)] ∧ Kq (fun b => b = U) H14 H' ∧ H' U = some (.lst ul') ∧ Lts K H' ul' (((LL np).take (i + 1)).filter (upB np 6 t fs (lOut np 6 t fs))), ?_, ?_⟩
            · refine ⟨_, rfl, cl, rfl, ⟨_, hc14⟩, fun D hDn => ?_⟩
              refine lc_gen (K := K) (walk_tup (K := K) (a := cl) (xs := lotV l)) (fun _ => False) (fun _ => True) (fun j => (fun p => fLess (wi fs p) (lOut np 6 t fs)) (l.getD j 0)) (fun _ _ _ => True) hDn (fun z => z) (by rw [lotV_len]; exact small1000 (by omega)) (fun _ _ _ z => z.elim) (fun H1 k => Same.keepT k.same cl _ hc14) trivial (fun _ _ _ => trivial) (fun _ _ _ _ _ r => r) ?_ ?_
              · rintro j z H0' H15 hj k15 _ ⟨rfl, hz⟩ Q' N qq nn
                obtain ⟨p, hp, rfl⟩ := lotV_of hz
                obtain ⟨w, hw, hS', hF', bW⟩ := wish H15 p (Same.keepT k15.same) (List.mem_of_getElem? hp)
                have ej : l.getD j 0 = p := getD_get hp
                refine ⟨rfl, _, rfl, _, rfl, tW, us2, _, w, rfl, rfl, hS', atI_nat hw, _, rfl, w, r8, _, _, rfl, hF', h14.keep (Same.keepT k15.same), bW, bF, _, rfl, ?_⟩
                cases cc : fLess (wi fs p) (lOut np 6 t fs) with
                | true => exact iteT ⟨_, rfl, qq _ _ (by show fLess (wi fs (l.getD j 0)) _ = true; rw [ej, cc]) Kq.refl trivial trivial⟩
                | false => exact iteF (nn _ (by show fLess (wi fs (l.getD j 0)) _ = false; rw [ej, cc]) Kq.refl trivial)
              · intro H15 o2 k15 _ ho2 ha2
                have s15 := k15.same
                have lo2 : o2.length = (l.filter fun p => fLess (wi fs p) (lOut np 6 t fs)).length := by
                  rw [← ha2.len, lotV_len]
                  exact idx_count l 0 fun p => fLess (wi fs p) (lOut np 6 t fs)
                have hU15 := s15 _ _ hU14
                have rU15 := rU14.keep (Same.keepT s15)
                refine ⟨D, o2, rfl, .inl (SqL.of ho2), rfl, _, rfl, ?_⟩
                cases ca : (l.all fun p => !fLess (wi fs p) (lOut np 6 t fs)) with
                | false =>
                  have ne : ¬ (V.int (o2.length : Nat) = V.int 0) := fun z => by
                    injection z with z
                    have := none_left.mp (show (l.filter fun p => fLess (wi fs p) (lOut np 6 t fs)).length = 0 by omega)
                    rw [this] at ca
                    cases ca
                  have up : upB np 6 t fs (lOut np 6 t fs) l = false := by
                    unfold upB
                    rw [ca] <;> rfl
                  refine ifF ne ⟨_, ul, rfl, Same.kq s15, hU15, ?_⟩
                  rw [filt_snoc _ hl, up, if_neg Bool.false_ne_true, List.append_nil]
                  exact rU15
                | true =>
                  have eq : V.int (o2.length : Nat) = V.int 0 := by
                    rw [lo2, none_left.mpr ca] <;> rfl
                  refine ifT eq ⟨_, rfl, _, rfl, _, rfl, np, u, .ref cl, t, l, rfl, TmAt.keep (Same.keepT s15) 6 hT14, hW, hc, P6, ⟨cl, rfl, Same.keepT s15 cl _ hc14⟩, fun H16 r16 s16 h16 => ?_⟩
                  have s1416 := s15.trans s16
                  refine ⟨_, rfl, r16, r8, _, _, rfl, h16, h14.keep (Same.keepT s1416), corn_bt hW hc _, bF, _, rfl, ?_⟩
                  have hU16 := s16 _ _ hU15
                  have rU16 := rU15.keep (Same.keepT s16)
                  cases cb : fLess (corn np 6 t l) (lOut np 6 t fs) with
                  | true =>
                    have up : upB np 6 t fs (lOut np 6 t fs) l = false := by
                      unfold upB
                      rw [ca, cb] <;> rfl
                    refine iteF ⟨_, ul, rfl, Same.kq s1416, hU16, ?_⟩
                    rw [filt_snoc _ hl, up, if_neg Bool.false_ne_true, List.append_nil]
                    exact rU16
                  | false =>
                    have up : upB np 6 t fs (lOut np 6 t fs) l = true := by
                      unfold upB
                      rw [ca, cb] <;> rfl
                    refine iteT ⟨_, rfl, .inl ⟨rfl, _, SqL.of hU16⟩, _, rfl, U, ul, .ref cl, rfl, rfl, hU16, small1000 (by omega), _, ul ++ [.ref cl], rfl, (Same.kq s1416).trans fun b o e nb => by rw [upd_ne nb]; exact e, upd_same, ?_⟩
                    have kU : KeepT K H16 (upd H16 U (.lst (ul ++ [.ref cl]))) := keepT_lst hU16 _
                    rw [filt_snoc _ hl, up, if_pos rfl]
                    exact (rU16.keep kU).app (.cons ⟨cl, rfl, kU _ _ (Same.keepT s1416 cl _ hc14)⟩ .nil)
            · rintro σ' H20 ⟨z7, ul', rfl, kq20, hU20, rU20⟩
              have kp20 : Kp K H14 H20 := Kp.kq kq20 fun b e => ⟨_, e ▸ hU14⟩
              have hZ20 := kq20 _ _ hZ14 (Ne.symm nUZ)
              have rZ20 := rZ14.keep kp20.t
              have h20 := h14.keep kp20.t
              have hc20 := kp20.t cl _ hc14
              have kqA : Kq (fun b => b = U ∨ b = Z) H11 H20 := (kq.trans (Same.kq s12_14)).trans fun b o e nb => kq20 b o e fun z => nb (.inl z)
              -- what is left as it is
              have stay : ∀ (y7 : Option V) (H' : Hp), Same H20 H' → dnB np 6 t fs (lOut np 6 t fs) l = false → ∃ w7 w11 w12 ul dl, ([some (.ref a), some (.ref d), some (.int (0 + (tn : Int))), some (.int np), some u, some (.ref R), some (.ref tW), y7, some r8, some (.ref U), some (.ref Z), some (.ref cl), some (.ref t6)] : L2.St) = [some (.ref a), some (.ref d), some (.int (0 + (tn : Int))), some (.int np), some u, some (.ref R), some (.ref tW), w7, some r8, some (.ref U), some (.ref Z), w11, w12] ∧ Kq (fun b => b = U ∨ b = Z) H11 H' ∧ H' U = some (.lst ul) ∧ H' Z = some (.lst dl) ∧ Lts K H' ul (((LL np).take (i + 1)).filter (upB np 6 t fs (lOut np 6 t fs))) ∧ Lts K H' dl (((LL np).take (i + 1)).filter (dnB np 6 t fs (lOut np 6 t fs))) := fun y7 H' s dn => by
                refine ⟨_, _, _, ul', dl, rfl, kqA.trans (Same.kq s), s _ _ hU20, s _ _ hZ20, rU20.keep (Same.keepT s), ?_⟩
                rw [filt_snoc (dnB np 6 t fs (lOut np 6 t fs)) hl, dn, if_neg Bool.false_ne_true, List.append_nil]
                exact rZ20.keep (Same.keepT s)
              refine ⟨_, rfl, cl, rfl, ⟨_, hc20⟩, fun D hDn => ?_⟩
              refine lc_gen (K := K) (walk_tup (K := K) (a := cl) (xs := lotV l)) (fun _ => False) (fun _ => True) (fun j => (fun p => fLess (lOut np 6 t fs) (wi fs p)) (l.getD j 0)) (fun _ _ _ => True) hDn (fun z => z) (by rw [lotV_len]; exact small1000 (by omega)) (fun _ _ _ z => z.elim) (fun H1 k => Same.keepT k.same cl _ hc20) trivial (fun _ _ _ => trivial) (fun _ _ _ _ _ r => r) ?_ ?_
              · rintro j z H0' H15 hj k15 _ ⟨rfl, hz⟩ Q' N qq nn
                obtain ⟨p, hp, rfl⟩ := lotV_of hz
                obtain ⟨w, hw, hS', hF', bW⟩ := wish H15 p (kp20.t.trans (Same.keepT k15.same)) (List.mem_of_getElem? hp)
                have ej : l.getD j 0 = p := getD_get hp
                refine ⟨rfl, _, rfl, _, rfl, _, rfl, tW, us2, _, w, rfl, rfl, hS', atI_nat hw, r8, w, _, _, rfl, h20.keep (Same.keepT k15.same), hF', bF, bW, _, rfl, ?_⟩
                cases cc : fLess (lOut np 6 t fs) (wi fs p) with
                | true => exact iteT ⟨_, rfl, qq _ _ (by show fLess _ (wi fs (l.getD j 0)) = true; rw [ej, cc]) Kq.refl trivial trivial⟩
                | false => exact iteF (nn _ (by show fLess _ (wi fs (l.getD j 0)) = false; rw [ej, cc]) Kq.refl trivial)
              · intro H15 o2 k15 _ ho2 ha2
                have s15 := k15.same
                have lo2 : o2.length = (l.filter fun p => fLess (lOut np 6 t fs) (wi fs p)).length := by
                  rw [← ha2.len, lotV_len]
                  exact idx_count l 0 fun p => fLess (lOut np 6 t fs) (wi fs p)
                refine ⟨D, o2, rfl, .inl (SqL.of ho2), rfl, _, rfl, ?_⟩
                cases ca : (l.all fun p => !fLess (lOut np 6 t fs) (wi fs p)) with
                | false =>
                  have ne : ¬ (V.int (o2.length : Nat) = V.int 0) := fun z => by
                    injection z with z
                    have := none_left.mp (show (l.filter fun p => fLess (lOut np 6 t fs) (wi fs p)).length = 0 by omega)
                    rw [this] at ca
                    cases ca
                  have dn : dnB np 6 t fs (lOut np 6 t fs) l = false := by
                    unfold dnB
                    rw [ca] <;> rfl
                  exact ifF ne (stay _ _ s15 dn)
                | true =>
                  have eq : V.int (o2.length : Nat) = V.int 0 := by
                    rw [lo2, none_left.mpr ca] <;> rfl
                  refine ifT eq ⟨_, rfl, _, rfl, _, rfl, _, rfl, np, u, .ref t6, t, othersOf np l, rfl, TmAt.keep (kp20.t.trans (Same.keepT s15)) 6 hT14, hW, hc, P6, hO14.keep (kp20.t.trans (Same.keepT s15)), fun H16 r16 s16 h16 => ?_⟩
                  have s1416 := s15.trans s16
                  refine ⟨r8, r16, _, _, rfl, h20.keep (Same.keepT s1416), h16, bF, corn_bt hW hc _, _, rfl, ?_⟩
                  cases cb : fLess (lOut np 6 t fs) (corn np 6 t (othersOf np l)) with
                  | true =>
                    have dn : dnB np 6 t fs (lOut np 6 t fs) l = false := by
                      unfold dnB
                      rw [ca, cb] <;> rfl
                    exact iteF (stay _ _ s1416 dn)
                  | false =>
                    have dn : dnB np 6 t fs (lOut np 6 t fs) l = true := by
                      unfold dnB
                      rw [ca, cb] <;> rfl
                    have hZ16 := s1416 _ _ hZ20
                    have kU : KeepT K H16 (upd H16 Z (.lst (dl ++ [.ref cl]))) := keepT_lst hZ16 _
                    refine iteT ⟨_, rfl, .inl ⟨rfl, _, SqL.of hZ16⟩, _, rfl, Z, dl, .ref cl, rfl, rfl, hZ16, small1000 (by omega), _, _, _, ul', dl ++ [.ref cl], rfl, (kqA.trans (Same.kq s1416)).trans fun b o e nb => by rw [upd_ne fun z => nb (.inr z)]; exact e, ?_, upd_same, (rU20.keep (Same.keepT s1416)).keep kU, ?_⟩
                    · rw [upd_ne nUZ]
                      exact s1416 _ _ hU20
                    · rw [filt_snoc (dnB np 6 t fs (lOut np 6 t fs)) hl, dn, if_pos rfl]
                      exact ((rZ20.keep (Same.keepT s1416)).keep kU).app (.cons ⟨cl, rfl, kU _ _ (Same.keepT s1416 cl _ hc20)⟩ .nil)
        · rintro σ H12 ⟨y7, y11, y12, ul, dl, rfl, kq, hU12, hZ12, rU, rZ⟩
          rw [lL, List.take_length] at rU rZ
          have kp12 : Kp K H11 H12 := Kp.kq kq fun b e => ⟨_, lM b e⟩
          obtain ⟨lu, hfu⟩ := up_some (d := 6) (t := t) P1 P6 hW lf lo
          obtain ⟨ld, hfd⟩ := dn_some (d := 6) (t := t) P1 P6 hW lf lo
          obtain ⟨u0, hu0, ru0⟩ := rU.get' (head_found hfu)
          obtain ⟨d0, hd0, rd0⟩ := rZ.get' (head_found hfd)
          have hRu12 := hRu11.kp kp12
          have hX12 := hX11.keep kp12.t
          have hD12 : DiAt H12 d c := hD11.kq kq (fun e => by
            rcases e with e | e
            · exact nU1 e.symm
            · exact nZ1 e.symm) (fun e => by
            rcases e with e | e
            · exact nU2 e.symm
            · exact nZ2 e.symm)
          refine ⟨_, rfl, _, rfl, np, .ref R, .ref tW, t, fs, lu, rfl, hRu12, hX12, lf, hWs, by rw [AL_LL np P1 P6, oe]; exact hfu, fun H13 r13 s13 hr13 => ?_⟩
          refine ⟨_, rfl, U, ul, 0, u0, rfl, rfl, SqL.of (s13 _ _ hU12), atI_nat (j := 0) hu0, lotD lu, lotD lu, dp_lot hr13, dp_lot (ru0.keep (Same.keepT s13)), lot_shaped lu, lot_shaped lu, ?_⟩
          rw [lot_same]
          refine ⟨_, rfl, iteF ?_⟩
          refine ⟨_, rfl, _, rfl, np, .ref R, .ref tW, t, fs, ld, rfl, hRu12.same s13, hX12.keep (Same.keepT s13), lf, hWs, by rw [AL_LL np P1 P6, oe]; exact hfd, fun H14 r14 s14 hr14 => ?_⟩
          refine ⟨_, rfl, Z, dl, 0, d0, rfl, rfl, SqL.of (s14 _ _ (s13 _ _ hZ12)), atI_nat (j := 0) hd0, lotD ld, lotD ld, dp_lot hr14, dp_lot (rd0.keep (Same.keepT (s13.trans s14))), lot_shaped ld, lot_shaped ld, ?_⟩
          rw [lot_same]
          refine ⟨_, rfl, iteF ?_⟩
          exact ⟨_, _, _, _, _, _, _, _, _, _, _, rfl, (hD12.same s13).same s14⟩
    · rintro σ H1 ⟨x2, x3, x4, x5, x6, x7, x8, x9, x10, x11, x12, rfl, hD1⟩
      exact q _
end
end Cb
namespace Cb
open PySem PySem.Spec PyProof.Rows L2
open C8 (Cal Mak pe_c pe_mk pe_gc)
theorem in3 {f : He.Fa} (h : f ∈ fa3) : f ∈ fa := List.mem_append_right _ (List.mem_append_right _ h)
theorem tx_of {K : PySem.W.Frag} {mg : Str → Option Value} {h : Heap} (X : K.In h) (G : h.Ns mainGlobals mg) (c : He.SaysD fa fn K) (m : ex K = true) : Tx K mg := by
  obtain ⟨m1, m2⟩ := He.ba m
  have fact : ∀ {f : He.Fa}, f ∈ fa3 → f.ok K = true := fun h => c.facts (in3 h)
  have num : ∀ {x : Str} {i : Int}, He.Fa.int x i ∈ fa3 → ∃ u, mg x = some u ∧ RelV (.int i) u := fun h => by
    obtain ⟨t, e⟩ := He.int_ok X G (fact h)
    exact ⟨_, e, ⟨t, rfl⟩⟩
  exact {
    says := c
    glo := fun x h => He.glo_ok X G (c.facts h)
    b_len := He.free_ok X G (fact (List.mem_of_getElem? (i := 0) rfl))
    b_range := He.free_ok X G (fact (List.mem_of_getElem? (i := 1) rfl))
    b_isinstance := He.free_ok X G (fact (List.mem_of_getElem? (i := 2) rfl))
    b_int := He.free_ok X G (fact (List.mem_of_getElem? (i := 3) rfl))
    b_bool := He.free_ok X G (fact (List.mem_of_getElem? (i := 4) rfl))
    b_tuple := He.free_ok X G (fact (List.mem_of_getElem? (i := 5) rfl))
    b_str := He.free_ok X G (fact (List.mem_of_getElem? (i := 6) rfl))
    b_abs := He.free_ok X G (fact (List.mem_of_getElem? (i := 7) rfl))
    b_sum := He.free_ok X G (fact (List.mem_of_getElem? (i := 8) rfl))
    b_list := He.free_ok X G (fact (List.mem_of_getElem? (i := 9) rfl))
    b_sorted := He.free_ok X G (fact (List.mem_of_getElem? (i := 10) rfl))
    b_zip := He.free_ok X G (fact (List.mem_of_getElem? (i := 11) rfl))
    b_enumerate := He.free_ok X G (fact (List.mem_of_getElem? (i := 12) rfl))
    b_all := He.free_ok X G (fact (List.mem_of_getElem? (i := 13) rfl))
    b_any := He.free_ok X G (fact (List.mem_of_getElem? (i := 14) rfl))
    MOST_PEOPLE := num (List.mem_of_getElem? (i := 18) rfl)
    MOST_DEEP := num (List.mem_of_getElem? (i := 19) rfl)
    MOST_TERMS := num (List.mem_of_getElem? (i := 20) rfl)
    MOST_PARTS := num (List.mem_of_getElem? (i := 21) rfl)
    MOST_WEIGHT := num (List.mem_of_getElem? (i := 22) rfl)
    ZERO := ⟨_, He.glo_ok X G (fact (List.mem_of_getElem? (i := 16) rfl)), rfl⟩
    ONE := ⟨_, He.glo_ok X G (fact (List.mem_of_getElem? (i := 17) rfl)), rfl⟩
    zero_at := fun H => He.tupB_ok m1 H
    one_at := fun H => He.tupB_ok m2 H
    clR := He.cls_ok (fact (List.mem_of_getElem? (i := 23) rfl))
    nPe := He.noat_ok (fact (List.mem_of_getElem? (i := 24) rfl))
    nTe := He.noat_ok (fact (List.mem_of_getElem? (i := 25) rfl))
    mkR := He.mkr_ok (fact (List.mem_of_getElem? (i := 26) rfl))
    mgR := He.glo_ok X G (fact (List.mem_of_getElem? (i := 15) rfl)) }
theorem law_fn {P : Program} {w : World} {K : PySem.W.Frag} {mg : Str → Option Value} (T : Tx K mg) : ∃ fd : FuncData, (∀ (s : Shared) (v : Value), BindsTo s fd ⟨[v], []⟩ [("_law_script", v)]) ∧ ∀ base : Heap, FnOk P w K mg base CX0 20 (He.ga K "law") fd ["_law_script"] (spLaw K) := by
  obtain ⟨fd, F⟩ := T.says.def_ 50 (d := dzlaw) rfl
  have F' : FunD K "law" "law" (defArgs zlaw) (defBody zlaw) (defScope zlaw) [] [] (He.ga K "law") fd := F
  have b := FunD.bindsA (ps := ["_law_script"]) F' fun _ _ _ _ _ _ us hl => match us, hl with | [_], _ => rfl
  refine ⟨fd, fun s v => b s [v] rfl, fun base => ?_⟩
  have c_L_dice : Cal P w K mg base 1 "_law_dice" (spDice K) [] := ok_L_dice T 
  have c_L_draw : Cal P w K mg base 1 "_law_draw" spDraw [] := ok_L_draw T 
  have c_L_less : Cal P w K mg base 1 "_law_less" (spLess K) [] := ok_L_less T 
  have c_L_sorted : Cal P w K mg base 2 "_law_sorted" (spAsc K) [] := ok_L_sorted T c_L_less
  have c_L_lowest : Cal P w K mg base 1 "_law_lowest" (spMade K) [] := ok_L_lowest T 
  have c_L_number : Cal P w K mg base 2 "_law_number" (spNumber K) [] := ok_L_number T c_L_lowest c_L_draw
  have c_L_term : ∀ n : Nat, Cal P w K mg base (2 + n) "_law_term" (spTerm K n) [] := fun n => by
    induction n with
    | zero =>
      refine mk_cal (k := 1) T 42 rfl rfl sc_L_term (fun _ _ _ _ _ _ us hl => match us, hl with | [_, _, _, _], _ => rfl) (fun vs H Q E h => ?_) (fun f cdv A outer s H vs Q E hr h => ?_)
      · exfalso; obtain ⟨d, c, people, m, rfl, m1, m2, _⟩ := h; omega
      · exfalso; obtain ⟨d, c, people, m, rfl, m1, m2, _⟩ := h; omega
    | succ n ih => exact ok_L_term T ih c_L_draw c_L_sorted c_L_number
  have c_L_rule_parts : Cal P w K mg base 7 "_law_rule_parts" (spRParts K) [] := ok_L_rule_parts T (c_L_term 4) c_L_draw
  have c_is_integer : Cal P w K mg base 1 "is_integer" spIsInt [] := ok_is_integer T 
  have c_is_within : Cal P w K mg base 2 "is_within" spWithin [] := ok_is_within T c_is_integer
  have c_divisor : Cal P w K mg base 1 "divisor" spDiv [] := ok_divisor T 
  have c_is_fraction : Cal P w K mg base 2 "is_fraction" (spIsFr K) [] := ok_is_fraction T c_divisor c_is_integer
  have c_is_number : Cal P w K mg base 3 "is_number" (spIsNum K) [] := ok_is_number T c_is_fraction
  have c_is_leaf : Cal P w K mg base 4 "is_leaf" (spLeaf K) [] := ok_is_leaf T c_is_within c_is_number
  have c_are_parts : Cal P w K mg base 1 "are_parts" (spAreParts K) [] := ok_are_parts T 
  have c_is_less : Cal P w K mg base 1 "is_less" (spLess K) [] := ok_is_less T 
  have c_is_bound : Cal P w K mg base 4 "is_bound" (spIsBound K) [] := ok_is_bound T c_is_less c_is_number
  have c_is_weighted : Cal P w K mg base 3 "is_weighted" (spIsW K) [] := ok_is_weighted T c_is_within
  have c_parts_told : Cal P w K mg base 5 "parts_told" (spParts K) [] := ok_parts_told T c_are_parts c_is_bound c_is_within c_is_weighted
  have c_terms_told : ∀ n : Nat, Cal P w K mg base (6 + n) "terms_told" (spTold K n) [] := fun n => by
    induction n with
    | zero =>
      refine mk_cal (k := 5) T 32 rfl rfl sc_terms_told (fun _ _ _ _ _ _ us hl => match us, hl with | [_, _, _], _ => rfl) (fun vs H Q E h => ?_) (fun f cdv A outer s H vs Q E hr h => ?_)
      · exfalso; obtain ⟨people, deep, v, t, rfl, hT, _⟩ := h; exact hT.elim
      · exfalso; obtain ⟨people, deep, v, t, rfl, hT, _⟩ := h; exact hT.elim
    | succ n ih => exact ok_terms_told T ih c_is_leaf c_parts_told
  have c_Rule : Mak P w K mg base 13 "Rule" (He.ga K "Rule") (spInit K) [] := ok_Init T (c_terms_told 6) c_is_within
  have c_L_by_size : Cal P w K mg base 1 "_law_by_size" (spBySize K) [] := ok_L_by_size T 
  have c_L_lots : Cal P w K mg base 2 "_law_lots" (spLLots K) [] := ok_L_lots T c_L_by_size
  have c_L_product : Cal P w K mg base 2 "_law_product" (spTimes K) [] := ok_L_product T c_L_lowest
  have c_L_sum : Cal P w K mg base 2 "_law_sum" (spLSum K) [] := ok_L_sum T c_L_lowest
  have c_L_value : ∀ n : Nat, Cal P w K mg base (2 + n) "_law_value" (spVal K n) [] := fun n => by
    induction n with
    | zero =>
      refine mk_cal (k := 1) T 44 rfl rfl sc_L_value (fun _ _ _ _ _ _ us hl => match us, hl with | [_, _], _ => rfl) (fun vs H Q E h => ?_) (fun f cdv A outer s H vs Q E hr h => ?_)
      · exfalso; obtain ⟨people, v, b, us, t, bids, rfl, hT, _⟩ := h; exact hT.elim
      · exfalso; obtain ⟨people, v, b, us, t, bids, rfl, hT, _⟩ := h; exact hT.elim
    | succ n ih => exact ok_L_value T ih c_L_sorted c_L_product c_L_sum
  have c_L_at_ends : Cal P w K mg base 1 "_law_at_ends" (spAtEnds K) [] := ok_L_at_ends T 
  have c_L_corner : Cal P w K mg base 9 "_law_corner" (spLCorner K) [] := ok_L_corner T (c_L_value 6) c_L_at_ends
  have c_L_outcome : Cal P w K mg base 10 "_law_outcome" (spLOut K) [] := ok_L_outcome T c_L_lots c_L_sorted c_L_corner
  have c_L_numbers : Cal P w K mg base 3 "_law_numbers" (spNumbers K) [] := ok_L_numbers T c_L_number
  have c_are_numbers : Cal P w K mg base 4 "are_numbers" (spAreNums K) [] := ok_are_numbers T c_is_number
  have c_check_wishes : Cal P w K mg base 5 "check_wishes" (spCheck K) [] := ok_check_wishes T c_are_numbers
  have c_greatest_of : Cal P w K mg base 2 "greatest_of" (spGreatest K) [] := ok_greatest_of T c_is_less
  have c_made : Cal P w K mg base 2 "made" (spMade K) [] := ok_made T c_divisor
  have c_times : Cal P w K mg base 3 "times" (spTimes K) [] := ok_times T c_made
  have c_plus : Cal P w K mg base 3 "plus" (spPlus K) [] := ok_plus T c_made
  have c_mean_of : Cal P w K mg base 4 "mean_of" (spMean K) [] := ok_mean_of T c_times c_plus c_made
  have c_ascending : Cal P w K mg base 2 "ascending" (spAsc K) [] := ok_ascending T c_is_less
  have c_middle : Cal P w K mg base 3 "middle" (spMid K) [] := ok_middle T c_ascending
  have c_ranked_of : Cal P w K mg base 3 "ranked_of" (spRanked K) [] := ok_ranked_of T c_ascending
  have c_least_of : Cal P w K mg base 2 "least_of" (spLeast K) [] := ok_least_of T c_is_less
  have c_value_of : ∀ n : Nat, Cal P w K mg base (4 + n) "value_of" (spVal K n) [] := fun n => by
    induction n with
    | zero =>
      refine mk_cal (k := 3) T 17 rfl rfl sc_value_of (fun _ _ _ _ _ _ us hl => match us, hl with | [_, _], _ => rfl) (fun vs H Q E h => ?_) (fun f cdv A outer s H vs Q E hr h => ?_)
      · exfalso; obtain ⟨people, v, b, us, t, bids, rfl, hT, _⟩ := h; exact hT.elim
      · exfalso; obtain ⟨people, v, b, us, t, bids, rfl, hT, _⟩ := h; exact hT.elim
    | succ n ih => exact ok_value_of T ih c_mean_of c_middle c_ranked_of c_least_of c_greatest_of
  have c_ends_for : Cal P w K mg base 1 "ends_for" (spEnds K) [] := ok_ends_for T 
  have c_wishing : Cal P w K mg base 2 "wishing" (spWish K) [] := ok_wishing T c_is_less
  have c_outcome_among : Cal P w K mg base 11 "outcome_among" (spAmong K) [] := ok_outcome_among T c_greatest_of (c_value_of 6) c_ends_for c_least_of c_wishing
  have c_outcome_of : Cal P w K mg base 12 "outcome_of" (spOutcome K) [] := ok_outcome_of T c_outcome_among
  have c_all_lots : Cal P w K mg base 1 "all_lots" (spLots K) [] := ok_all_lots T 
  have c_corner_of : Cal P w K mg base 11 "corner_of" (spCorner K) [] := ok_corner_of T (c_value_of 6) c_ends_for
  have c_holding : Cal P w K mg base 13 "holding" (spHold K) [] := ok_holding T c_check_wishes c_outcome_of c_wishing c_all_lots c_is_less c_corner_of
  have c_wishing_more : Cal P w K mg base 2 "wishing_more" (spWishM K) [] := ok_wishing_more T c_is_less
  have c_pressing : Cal P w K mg base 13 "pressing" (spPress K) [] := ok_pressing T c_check_wishes c_outcome_of c_wishing_more c_all_lots c_is_less c_corner_of
  refine F'.ok sc_law (fun vs H Q E h => ?_) (fun cdv A outer s H vs Q E hr h => ?_)
  · obtain ⟨a, ns, rfl, _⟩ := h
    rfl
  · obtain ⟨t, h1, h2⟩ := body_law T c_L_dice c_L_rule_parts c_Rule c_L_outcome c_L_lots c_L_numbers c_L_draw c_holding c_pressing c_L_less c_L_corner (He.ga K "law") cdv A outer s H vs Q E hr h
    exact ⟨t, h1.nox, h2⟩
end Cb
open PySem PySem.W PySem.Calls PyProof.Rows
theorem PySem.Challenge.cw_cornerbids_k13_whole_who_holds_and_press_holds : PySem.Challenge.rw_cornerbids_k13_whole_who_holds_and_press.Holds := by
  w_on; o_law
  refine HandSHeadRun.head_any (r := OpenLaw.row PySem.Challenge.rw_cornerbids_k13_whole_who_holds_and_press) (q := view (OpenLaw.row PySem.Challenge.rw_cornerbids_k13_whole_who_holds_and_press).prog [69]) (H := Cb.hk) (ob := Cb.ob) (M := 3000) (loose := Cb.lo) (d := HandSHeadRun.topDef (OpenLaw.row PySem.Challenge.rw_cornerbids_k13_whole_who_holds_and_press).prog 69) (kwd := []) Cb.ob_eq
    (by kernel_rfl) (fun s => by kernel_rfl) Cb.run (by kernel_rfl) (by kernel_rfl) (by kernel_rfl) (by rfl) (by first | assumption | decide +kernel) (by decide +kernel) ⟨rfl, rfl, rfl, rfl, rfl, by decide +kernel⟩ ?hw ?hc
  case hw => w_witness2
  case hc =>
    refine L2.walk_ofE (l := PySem.Challenge.rw_cornerbids_k13_whole_who_holds_and_press) (n := 63) (k := 20) (x := "_law_script") (CX := L2.CX0) rfl (by decide) (by kernel_rfl) ⟨rfl, by decide, by decide⟩ ?F (fun _ _ _ _ z => z)
    intro w mg fa h Y G hmg0
    obtain ⟨K, KX, c⟩ := Y
    have hmg : mg ("law" : PySem.Str) = some (.ref fa) := by
      have e : (HandSHeadRun.topDef (OpenLaw.row PySem.Challenge.rw_cornerbids_k13_whole_who_holds_and_press).prog 69).name = ("law" : PySem.Str) := by kernel_rfl
      rw [← e]
      exact hmg0
    have T := Cb.tx_of KX G c.t.d c.more
    have e := hmg.symm.trans (T.glo "law" (List.mem_of_getElem? (i := 50) rfl))
    cases e
    obtain ⟨fd, hb, hF⟩ := Cb.law_fn (P := (PySem.Challenge.rw_cornerbids_k13_whole_who_holds_and_press).prog) (w := w) T
    exact ⟨K, fd, Cb.spLaw K, KX, hb, fun H a ns hl _ hS => ⟨a, ns, rfl, hS, hl, fun _ => rfl⟩, fun base _ _ => hF base⟩
