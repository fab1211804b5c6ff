import PyProof.Rows.All
import Wide.All
import OpenK.AllK
import Wide.FinOn
import PySem.Challenge.RW_markspass_k11_known_questions
import HandS.ForMost
import HandS.Deep
import HandS.Flow
import HandS.Style
import HandS.TupMul
import HandS.TupAny
import HandS.TupLe
import HandS.Conv
import HandS.TupLen
import HandS.IsInst
import HandS.Iter
import HandS.Flt
import HandS.TupSets
import HandS.SetKeys
import HandS.GenBody
import HandS.AnyAll
import HandS.DictComp
import HandS.Comp
import HandS.ForList
import HandS.ForDict
import PyProof.DictMoreH
import KE.KDictDisplayH
import KE.GoesMore
import HandS.GenList
import HandS.Lambda
import HandS.GenOver
import HandS.SetFor
import KE.KeyNested
import KE.KDictKeyed
import KE.SortData
import KE.DataMinMax
import KE.KDictWalk
import KE.KDictExact
import HandS.ListItems
import HandS.Zip
import KE.SortData
import HandS.Strs
import HandS.Defaults
import HandS.Head0
import HandS.Head1
import HandS.Head2
import HandS.HeadEnd
import HandS.HeadHook1
import HandS.HeadHook2
import HandS.HeadHook3
import HandS.HeadHook4
import HandS.EndTab
import HandS.HeadWalk
set_option Elab.async false
set_option linter.all false
set_option maxRecDepth 100000
namespace MiS
open PySem PySem.Spec PyProof.Rows L2
/-- a constant of a tuple -/
def toDv : PyData → He.Dv
  | .int i => .int i
  | .str x => .str x
  | _ => .non
/-- the constants' tuples stand, and no list among what stands -/
def exT (tup : List (Str × List PyData)) (K : PySem.W.Frag) : Bool := (tup.all fun p => He.tupB K p.1 (p.2.map toDv)) && K.all fun q => !decide (q.2.cls = .type "list")
end MiS
namespace MiK
open PySem PySem.Spec PyProof.Rows L2 MiS
def top (i : Nat) : Stmt := PySem.Challenge.pw_markspass_k11_known_questions.main.body.getD i (.Pass ⟨0, 0, 0, 0⟩)
def tup : List (Str × List PyData) := [(Str.ofString "MANNERS", [(.str (PySem.Str.ofString "blind")), (.str (PySem.Str.ofString "named"))]), (Str.ofString "WORDS", [(.str (PySem.Str.ofString "and")), (.str (PySem.Str.ofString "first")), (.str (PySem.Str.ofString "one")), (.str (PySem.Str.ofString "or"))])]
def defD (x : String) (i : Nat) (dfl : List He.Dv) : He.DefD := ⟨(Str.ofString x, none), Str.ofString x, Str.ofString x, defArgs (top i), defBody (top i), defScope (top i), dfl, []⟩
abbrev D_is_number : He.DefD := defD "is_number" 16 []
abbrev D_are_steps : He.DefD := defD "are_steps" 17 []
abbrev D_need_question : He.DefD := defD "need_question" 18 []
abbrev D_names_of : He.DefD := defD "names_of" 19 []
abbrev D_is_path : He.DefD := defD "is_path" 20 []
abbrev D_led : He.DefD := defD "led" 21 []
abbrev D_answered : He.DefD := defD "answered" 22 []
abbrev D_ways_of : He.DefD := defD "ways_of" 23 []
abbrev D_lots_by : He.DefD := defD "lots_by" 24 []
abbrev D_least_of : He.DefD := defD "least_of" 25 []
abbrev D_lots_below : He.DefD := defD "lots_below" 26 []
abbrev D_below_lots : He.DefD := defD "below_lots" 27 []
abbrev D_parting_path : He.DefD := defD "parting_path" 28 []
abbrev D_wrong_tag : He.DefD := defD "wrong_tag" 33 []
abbrev D_need_row : He.DefD := defD "need_row" 34 []
abbrev D_open_path : He.DefD := defD "open_path" 35 []
abbrev D_left_open : He.DefD := defD "left_open" 36 []
abbrev D_due_in : He.DefD := defD "due_in" 37 []
abbrev D_answers_due : He.DefD := defD "answers_due" 38 []
abbrev D_marks_in : He.DefD := defD "marks_in" 39 []
abbrev D_need_forest : He.DefD := defD "need_forest" 40 []
abbrev D_forest_of : He.DefD := defD "forest_of" 41 []
abbrev D_told_forest : He.DefD := defD "told_forest" 42 []
abbrev D_told_from : He.DefD := defD "told_from" 43 []
abbrev D_need_manner : He.DefD := defD "need_manner" 46 []
abbrev D_width : He.DefD := defD "width" 47 []
abbrev D_is_opening : He.DefD := defD "is_opening" 48 []
abbrev D_need_reader : He.DefD := defD "need_reader" 49 [.int 6]
abbrev D_need_all : He.DefD := defD "need_all" 50 []
abbrev D_closed : He.DefD := defD "closed" 51 []
abbrev D_shorten : He.DefD := defD "shorten" 53 []
abbrev D_whole_marks : He.DefD := defD "whole_marks" 54 []
abbrev D_whole_row : He.DefD := defD "whole_row" 55 []
abbrev D_places : He.DefD := defD "places" 56 []
abbrev D_place_row : He.DefD := defD "place_row" 57 []
abbrev D_fault_of : He.DefD := defD "fault_of" 58 []
abbrev D_fault : He.DefD := defD "fault" 59 []
abbrev D_is_right : He.DefD := defD "is_right" 60 []
abbrev D_next_pairs : He.DefD := defD "next_pairs" 62 []
abbrev D_words_to_meet : He.DefD := defD "words_to_meet" 63 []
abbrev D_pairs_meeting : He.DefD := defD "pairs_meeting" 64 []
abbrev D_need_two : He.DefD := defD "need_two" 65 []
abbrev D_meetings : He.DefD := defD "meetings" 66 []
abbrev D_bad_pair : He.DefD := defD "bad_pair" 67 []
abbrev D_can_read : He.DefD := defD "can_read" 68 []
abbrev D_is_paper : He.DefD := defD "is_paper" 69 []
abbrev D_shows_paper : He.DefD := defD "shows_paper" 70 []
abbrev D_count_below : He.DefD := defD "count_below" 71 []
abbrev D_fewest_states : He.DefD := defD "fewest_states" 72 []
abbrev D_made_reader : He.DefD := defD "made_reader" 73 []
abbrev D_reader_for : He.DefD := defD "reader_for" 74 []
abbrev D_joined_answer : He.DefD := defD "joined_answer" 78 []
abbrev D_both : He.DefD := defD "both" 79 []
abbrev D_inside : He.DefD := defD "inside" 80 []
abbrev D_all_rows : He.DefD := defD "all_rows" 81 []
abbrev D_count_readable : He.DefD := defD "count_readable" 82 []
abbrev D_write_row : He.DefD := defD "write_row" 85 []
abbrev D_need_names : He.DefD := defD "need_names" 86 []
abbrev D_read_row : He.DefD := defD "read_row" 87 []
abbrev D_words_of : He.DefD := defD "words_of" 88 []
abbrev D_write_question : He.DefD := defD "write_question" 89 []
abbrev D_trap_of : He.DefD := defD "trap_of" 93 []
abbrev D_trap : He.DefD := defD "trap" 94 []
abbrev D_is_trap : He.DefD := defD "is_trap" 95 []
abbrev D_shows_trap : He.DefD := defD "shows_trap" 96 []
abbrev D_trap_rows : He.DefD := defD "trap_rows" 97 []
abbrev D__law_ring : He.DefD := defD "_law_ring" 99 []
abbrev D_law : He.DefD := defD "law" 100 []
abbrev D_lots_below_t : He.DefD := defD "lots_below" 26 []
def fn : List He.DefD := [D_is_number, D_are_steps, D_need_question, D_names_of, D_is_path, D_led, D_answered, D_ways_of, D_lots_by, D_least_of, D_lots_below, D_below_lots, D_parting_path, D_wrong_tag, D_need_row, D_open_path, D_left_open, D_due_in, D_answers_due, D_marks_in, D_need_forest, D_forest_of, D_told_forest, D_told_from, D_need_manner, D_width, D_is_opening, D_need_reader, D_need_all, D_closed, D_shorten, D_whole_marks, D_whole_row, D_places, D_place_row, D_fault_of, D_fault, D_is_right, D_next_pairs, D_words_to_meet, D_pairs_meeting, D_need_two, D_meetings, D_bad_pair, D_can_read, D_is_paper, D_shows_paper, D_count_below, D_fewest_states, D_made_reader, D_reader_for, D_joined_answer, D_both, D_inside, D_all_rows, D_count_readable, D_write_row, D_need_names, D_read_row, D_words_of, D_write_question, D_trap_of, D_trap, D_is_trap, D_shows_trap, D_trap_rows, D__law_ring, D_law, D_lots_below_t]
def fa : List He.Fa := [.glo (Str.ofString "is_number"), .glo (Str.ofString "are_steps"), .glo (Str.ofString "need_question"), .glo (Str.ofString "names_of"), .glo (Str.ofString "is_path"), .glo (Str.ofString "led"), .glo (Str.ofString "answered"), .glo (Str.ofString "ways_of"), .glo (Str.ofString "lots_by"), .glo (Str.ofString "least_of"), .glo (Str.ofString "lots_below"), .glo (Str.ofString "below_lots"), .glo (Str.ofString "parting_path"), .glo (Str.ofString "wrong_tag"), .glo (Str.ofString "need_row"), .glo (Str.ofString "open_path"), .glo (Str.ofString "left_open"), .glo (Str.ofString "due_in"), .glo (Str.ofString "answers_due"), .glo (Str.ofString "marks_in"), .glo (Str.ofString "need_forest"), .glo (Str.ofString "forest_of"), .glo (Str.ofString "told_forest"), .glo (Str.ofString "told_from"), .glo (Str.ofString "need_manner"), .glo (Str.ofString "width"), .glo (Str.ofString "is_opening"), .glo (Str.ofString "need_reader"), .glo (Str.ofString "need_all"), .glo (Str.ofString "closed"), .glo (Str.ofString "shorten"), .glo (Str.ofString "whole_marks"), .glo (Str.ofString "whole_row"), .glo (Str.ofString "places"), .glo (Str.ofString "place_row"), .glo (Str.ofString "fault_of"), .glo (Str.ofString "fault"), .glo (Str.ofString "is_right"), .glo (Str.ofString "next_pairs"), .glo (Str.ofString "words_to_meet"), .glo (Str.ofString "pairs_meeting"), .glo (Str.ofString "need_two"), .glo (Str.ofString "meetings"), .glo (Str.ofString "bad_pair"), .glo (Str.ofString "can_read"), .glo (Str.ofString "is_paper"), .glo (Str.ofString "shows_paper"), .glo (Str.ofString "count_below"), .glo (Str.ofString "fewest_states"), .glo (Str.ofString "made_reader"), .glo (Str.ofString "reader_for"), .glo (Str.ofString "joined_answer"), .glo (Str.ofString "both"), .glo (Str.ofString "inside"), .glo (Str.ofString "all_rows"), .glo (Str.ofString "count_readable"), .glo (Str.ofString "write_row"), .glo (Str.ofString "need_names"), .glo (Str.ofString "read_row"), .glo (Str.ofString "words_of"), .glo (Str.ofString "write_question"), .glo (Str.ofString "trap_of"), .glo (Str.ofString "trap"), .glo (Str.ofString "is_trap"), .glo (Str.ofString "shows_trap"), .glo (Str.ofString "trap_rows"), .glo (Str.ofString "_law_ring"), .glo (Str.ofString "law"), .glo (Str.ofString "MarkError"), .glo (Str.ofString "BadQuestion"), .glo (Str.ofString "BadReader"), .glo (Str.ofString "BadManner"), .glo (Str.ofString "BadRow"), .glo (Str.ofString "BadForest"), .glo (Str.ofString "BadNumber"), .glo (Str.ofString "BadWord"), .glo (Str.ofString "BadTrap"), .glo (Str.ofString "BadText"), .glo (Str.ofString "TooMany"), .int (Str.ofString "MOST_STATES") 6, .int (Str.ofString "MOST_NAMES") 3, .int (Str.ofString "MOST_PATH") 2000, .int (Str.ofString "CLOSE") (-1), .int (Str.ofString "MOST_ROW") 2000, .int (Str.ofString "MOST_DEPTH") 40, .glo (Str.ofString "MANNERS"), .glo (Str.ofString "WORDS"), .int (Str.ofString "MOST_COUNTED") 3, .str (Str.ofString "SIGNS") (PySem.Str.ofString "abc"), .int (Str.ofString "ROUND") 60, .int (Str.ofString "MOST_PART") 20, .free (Str.ofString "len"), .free (Str.ofString "list"), .free (Str.ofString "tuple"), .free (Str.ofString "int"), .free (Str.ofString "str"), .free (Str.ofString "max"), .free (Str.ofString "min"), .free (Str.ofString "sorted"), .free (Str.ofString "isinstance"), .free (Str.ofString "range"), .free (Str.ofString "enumerate"), .free (Str.ofString "bool"), .free (Str.ofString "set"), .free (Str.ofString "all"), .free (Str.ofString "any"), .free (Str.ofString "zip")]
def tf : List He.Defn := [((Str.ofString "are_steps", none) : He.Defn), ((Str.ofString "need_question", none) : He.Defn), ((Str.ofString "is_path", none) : He.Defn), ((Str.ofString "need_reader", none) : He.Defn), ((Str.ofString "is_paper", none) : He.Defn), ((Str.ofString "is_trap", none) : He.Defn)]
abbrev R : PySem.W.OpenRow := PySem.W.OpenLaw.row PySem.Challenge.rw_markspass_k11_known_questions
abbrev hk : PySem.W.Hook := He.hookX 4 fa fn [] tf (exT tup)
def ob (s : PySem.W.SharedT) : He.AlX := He.obsX 4 fa fn [] tf (exT tup) (HandSHeadRun.getT s)
theorem ob_eq (s : PySem.W.SharedT) : ob s = hk.obs s.abs := He.obsX_eq (HandSHeadRun.getT_eq s)
def loose : List Str := [(Str.ofString "MarkError"), (Str.ofString "BadQuestion"), (Str.ofString "BadReader"), (Str.ofString "BadManner"), (Str.ofString "BadRow"), (Str.ofString "BadForest"), (Str.ofString "BadNumber"), (Str.ofString "BadWord"), (Str.ofString "BadTrap"), (Str.ofString "BadText"), (Str.ofString "TooMany"), (Str.ofString "MOST_STATES"), (Str.ofString "MOST_NAMES"), (Str.ofString "MOST_PATH"), (Str.ofString "is_number"), (Str.ofString "are_steps"), (Str.ofString "need_question"), (Str.ofString "names_of"), (Str.ofString "is_path"), (Str.ofString "led"), (Str.ofString "answered"), (Str.ofString "ways_of"), (Str.ofString "lots_by"), (Str.ofString "least_of"), (Str.ofString "lots_below"), (Str.ofString "below_lots"), (Str.ofString "parting_path"), (Str.ofString "CLOSE"), (Str.ofString "MOST_ROW"), (Str.ofString "MOST_DEPTH"), (Str.ofString "wrong_tag"), (Str.ofString "need_row"), (Str.ofString "open_path"), (Str.ofString "left_open"), (Str.ofString "due_in"), (Str.ofString "answers_due"), (Str.ofString "marks_in"), (Str.ofString "need_forest"), (Str.ofString "forest_of"), (Str.ofString "told_forest"), (Str.ofString "told_from"), (Str.ofString "MANNERS"), (Str.ofString "need_manner"), (Str.ofString "width"), (Str.ofString "is_opening"), (Str.ofString "need_reader"), (Str.ofString "need_all"), (Str.ofString "closed"), (Str.ofString "shorten"), (Str.ofString "whole_marks"), (Str.ofString "whole_row"), (Str.ofString "places"), (Str.ofString "place_row"), (Str.ofString "fault_of"), (Str.ofString "fault"), (Str.ofString "is_right"), (Str.ofString "next_pairs"), (Str.ofString "words_to_meet"), (Str.ofString "pairs_meeting"), (Str.ofString "need_two"), (Str.ofString "meetings"), (Str.ofString "bad_pair"), (Str.ofString "can_read"), (Str.ofString "is_paper"), (Str.ofString "shows_paper"), (Str.ofString "count_below"), (Str.ofString "fewest_states"), (Str.ofString "made_reader"), (Str.ofString "reader_for"), (Str.ofString "WORDS"), (Str.ofString "MOST_COUNTED"), (Str.ofString "joined_answer"), (Str.ofString "both"), (Str.ofString "inside"), (Str.ofString "all_rows"), (Str.ofString "count_readable"), (Str.ofString "SIGNS"), (Str.ofString "write_row"), (Str.ofString "need_names"), (Str.ofString "read_row"), (Str.ofString "words_of"), (Str.ofString "write_question"), (Str.ofString "ROUND"), (Str.ofString "MOST_PART"), (Str.ofString "trap_of"), (Str.ofString "trap"), (Str.ofString "is_trap"), (Str.ofString "shows_trap"), (Str.ofString "trap_rows"), (Str.ofString "_law_ring")]
def TI : Nat := 100
theorem run (w : World) : HandSHeadRun.RunEq R (PySem.W.view R.prog [100]) hk ob 6000 loose w := by
  intro os
  kernel_rfl
end MiK

namespace MiG
open PySem PySem.Spec PyProof.Rows L2
/-! ### sets of keys of whole numbers, nested -/
mutual
/-- no text in it -/
def numK : NestedKey → Bool
  | .none => true
  | .num _ => true
  | .text _ => false
  | .tup ks => numKs ks
def numKs : List NestedKey → Bool
  | [] => true
  | k :: ks => numK k && numKs ks
end
/-- the tuple at a is the key k -/
structure IsN (h : Heap) (k : NestedKey) (a : Addr) : Prop where
  is : NestedIs h k (.ref a)
  dp : k.depth ≤ 6
  nm : numK k = true
section
variable {P : Program} {w : World} {A : Around} {E : Value → Shared → Prop} {s : Shared}
theorem IsN.at {h h' : Heap} {k : NestedKey} {a : Addr} (x : IsN h k a) (hk : ∀ b o vs n, h.get? b = some o → o.data = .seq vs n → h'.get? b = some o) : IsN h' k a := ⟨x.is.at hk, x.dp, x.nm⟩
theorem IsN.grow {h h' : Heap} {k : NestedKey} {a : Addr} (x : IsN h k a) (hk : ∀ b o, h.get? b = some o → h'.get? b = some o) : IsN h' k a := x.at fun b o _ _ e _ => hk b o e
/-- a set object isn't one of the key's tuples -/
theorem IsN.but {h h' : Heap} {k : NestedKey} {a S : Addr} {o : Obj} {es : Array (Int × Value)} {ep : Nat} {t : SetTable} (x : IsN h k a) (ho : h.get? S = some o) (hd : o.data = .set es ep t) (hs : Heap.SameBut S h h') : IsN h' k a :=
  x.at fun b ob vs n e q => by
    by_cases z : b = S
    · subst z; rw [ho] at e; cases e; rw [hd] at q; cases q
    · rw [hs.2 b z]; exact e
theorem IsN.tup {h : Heap} {k : NestedKey} {a : Addr} (x : IsN h k a) : ∃ ks o vs n, k = .tup ks ∧ h.get? a = some o ∧ o.cls = .type "tuple" ∧ o.data = .seq vs n ∧ NestedAll h ks vs.toList := by
  have := x.is
  cases this with
  | tup e c d q => exact ⟨_, _, _, _, rfl, e, c, d, q⟩
theorem numKs_mem : ∀ {ks : List NestedKey} {vs : List Value} {h : Heap}, NestedAll h ks vs → numKs ks = true → ∀ v ∈ vs, ∃ k, NestedIs h k v ∧ numK k = true ∧ k.depth ≤ NestedKey.depthAll ks
  | _, _, _, .nil, _, v, hv => by cases hv
  | _, _, _, .cons (k := k) (ks := ks) a b, hn, v, hv => by
    have hn : (numK k && numKs ks) = true := hn
    obtain ⟨h1, h2⟩ := Bool.and_eq_true_iff.mp hn
    rcases List.mem_cons.mp hv with e | hv
    · rw [e]; exact ⟨k, a, h1, by simp only [NestedKey.depthAll]; omega⟩
    · obtain ⟨k', q1, q2, q3⟩ := numKs_mem b h2 v hv
      exact ⟨k', q1, q2, by simp only [NestedKey.depthAll]; omega⟩
/-- a loop over a tuple's items whose body says no each time -/
theorem quiet_loop {items : Array Value} {f : Value → Sem Bool} {Q : Option Bool × PUnit → Shared → Prop} {g : Value → Option Bool × PUnit → Sem (ForInStep (Option Bool × PUnit))}
    (hg : ∀ v ∈ items.toList, ∀ r : Option Bool × PUnit, r.1 = none → ∀ Q' : ForInStep (Option Bool × PUnit) → Shared → Prop, Q' (.yield r) s → wpAny (model P w) A (g v r) Q' E s) (h : Q (none, ⟨⟩) s) : wpAny (model P w) A (forIn items ((none : Option Bool), PUnit.unit) g) Q E s := by
  rw [← Array.forIn_toList]
  refine wpAny_forIn_list _ (fun rest r s' => r.1 = none ∧ s' = s ∧ ∀ v ∈ rest, v ∈ items.toList) _ ?_ ?_ _ _ ⟨rfl, rfl, fun v hv => hv⟩
  · rintro v rest r s' ⟨hr, rfl, hall⟩
    exact hg v (hall v List.mem_cons_self) r hr _ ⟨hr, rfl, fun u hu => hall u (List.mem_cons_of_mem _ hu)⟩
  · rintro ⟨r1, r2⟩ s' ⟨hr, rfl, _⟩
    simp only at hr
    subst hr
    exact h
/-- no class of the program's own stands in a key -/
theorem noClass : ∀ (n : Nat) {k : NestedKey} {v : Value} {A : Around} {E : Value → Shared → Prop} {Q : Bool → Shared → Prop}, NestedIs s.heap k v → k.depth ≤ n → numK k = true → Q false s → wpAny (model P w) A (ofAClassStatement n v) Q E s := by
  intro n
  induction n with
  | zero =>
    intro k v A E Q hk hd hn h
    cases hk with
    | tup _ _ _ _ => simp only [NestedKey.depth] at hd; omega
    | _ => exact wpAny_pure h
  | succ n ih =>
    intro k v A E Q hk hd hn h
    cases hk with
    | @tup a o vs m ks ho hc hdt hi =>
      unfold ofAClassStatement
      refine wpAny_bind (wpAny_typeOf (T := "tuple") ⟨o, ho, hc⟩ ?_)
      dsimp only
      have e : (("tuple" : String) == "tuple") = true := by decide
      simp only [e, if_true, Bool.not_true, Bool.false_eq_true, if_false]
      try refine wpAny_bind (wpAny_pure ?_)
      try simp only [Bool.not_true, Bool.false_eq_true, if_false]
      show wpAny _ _ (seqItems? (.ref a) >>= _) _ _ s
      refine wpAny_bind (wpAny_seqItems ho hdt ?_)
      dsimp only
      refine wpAny_bind (quiet_loop (f := fun _ => pure false) (fun v hv r hr Q' hq => ?_) ?_)
      · obtain ⟨k', q1, q2, q3⟩ := numKs_mem hi hn v hv
        refine wpAny_bind (ih q1 (by simp only [NestedKey.depth] at hd; omega) q2 ?_)
        simp only [Bool.false_eq_true, if_false]
        obtain ⟨r1, r2⟩ := r
        simp only at hr
        subst hr
        exact wpAny_pure hq
      · exact wpAny_pure h
    | _ => exact wpAny_pure h
/-- a key's hash goes by its value -/
theorem byValue : ∀ (n : Nat) {k : NestedKey} {v : Value} {A : Around} {E : Value → Shared → Prop} {Q : Bool → Shared → Prop}, NestedIs s.heap k v → k.depth ≤ n → numK k = true → Q true s → wpAny (model P w) A (hashByValue n v) Q E s := by
  intro n
  induction n with
  | zero =>
    intro k v A E Q hk hd hn h
    cases hk with
    | tup _ _ _ _ => simp only [NestedKey.depth] at hd; omega
    | text _ _ => cases hn
    | _ => exact wpAny_pure h
  | succ n ih =>
    intro k v A E Q hk hd hn h
    cases hk with
    | @tup a o vs m ks ho hc hdt hi =>
      unfold hashByValue
      refine wpAny_bind (wpAny_specialOf (T := "tuple") ⟨o, ho, hc⟩ F.slot_tuple_hash.lookup ?_)
      show wpAny _ _ (seqItems? (.ref a) >>= _) _ _ s
      refine wpAny_bind (wpAny_seqItems ho hdt ?_)
      refine wpAny_bind ?_
      show wpAny _ _ (forIn vs _ _) _ _ s
      refine quiet_loop (f := fun _ => pure false) (fun v hv r hr Q' hq => ?_) ?_
      · obtain ⟨k', q1, q2, q3⟩ := numKs_mem hi hn v hv
        refine wpAny_bind (ih q1 (by simp only [NestedKey.depth] at hd; omega) q2 ?_)
        simp only [Bool.not_true, Bool.false_eq_true, if_false]
        obtain ⟨r1, r2⟩ := r
        simp only at hr
        subst hr
        exact wpAny_pure hq
      · exact wpAny_pure h
    | text _ _ => cases hn
    | _ => exact wpAny_pure h
/-- a search among keys shows nothing -/
theorem unseen {k : NestedKey} {b : Addr} {Q : Bool → Shared → Prop} (hk : IsN s.heap k b) {ys : List Value} (hy : ∀ y ∈ ys, ∃ k' c, y = Value.ref c ∧ IsN s.heap k' c) (h : Q false s) : wpAny (model P w) A (searchCouldBeSeen (.ref b) ys) Q E s := by
  have d8 : ∀ {k : NestedKey} {c : Addr}, IsN s.heap k c → k.depth ≤ 8 := fun x => Nat.le_trans x.dp (by decide)
  unfold searchCouldBeSeen
  refine wpAny_bind ?_
  refine wpAny_forIn_list _ (fun rest r s' => r.1 = none ∧ s' = s ∧ ∀ y ∈ rest, ∃ k' c, y = Value.ref c ∧ IsN s.heap k' c) _ ?_ ?_ _ _ ⟨rfl, rfl, hy⟩
  · rintro v rest r s' ⟨hr, rfl, hall⟩
    obtain ⟨k', c, rfl, hc⟩ := hall v List.mem_cons_self
    have more : ∀ y ∈ rest, ∃ k' c, y = Value.ref c ∧ IsN s'.heap k' c := fun u hu => hall u (List.mem_cons_of_mem _ hu)
    dsimp only
    by_cases hv : (b == c || (carriedByValue (.ref b) && carriedByValue (.ref c))) = true
    · exact wp_if_pos hv (wpAny_pure ⟨rfl, rfl, more⟩)
    · refine wp_if_neg hv ?_
      refine wpAny_bind (quiet_key k _ 8 s' hk.is (d8 hk) _ _ _ ?_)
      simp only [Bool.not_true, Bool.false_eq_true, if_false]
      refine wpAny_bind (quiet_key k' _ 8 s' hc.is (d8 hc) _ _ _ ?_)
      simp only [Bool.not_true, Bool.false_eq_true, if_false]
      refine wpAny_bind (noClass 8 hk.is (d8 hk) hk.nm ?_)
      simp only [Bool.false_eq_true, if_false]
      refine wpAny_bind (noClass 8 hc.is (d8 hc) hc.nm ?_)
      simp only [Bool.false_eq_true, if_false]
      exact wpAny_pure ⟨rfl, rfl, more⟩
  · rintro ⟨r1, r2⟩ s' ⟨hr, rfl, _⟩
    simp only at hr
    subst hr
    exact wpAny_pure h
theorem eqb {x y : NestedKey} {a b : Addr} {Q : Bool → Shared → Prop} (hu : A.units + 8 < cLine) (hx : IsN s.heap x a) (hy : IsN s.heap y b) (h : Q (decide (x = y)) s) : wpAny (model P w) A (eqBool (.ref a) (.ref b)) Q E s :=
  (nestedKind P w).eqBool hu ⟨hx.is, Nat.le_trans hx.dp (by decide)⟩ ⟨hy.is, Nat.le_trans hy.dp (by decide)⟩ h
end
end MiG

namespace MiG
open PySem PySem.Spec PyProof.Rows L2
/-- an element of such a set: where it stands, its key -/
abbrev El := Addr × NestedKey
abbrev hs (w : World) (e : El) : Int := e.2.hash w
abbrev row (w : World) (e : El) : Int × Value := (hs w e, .ref e.1)
/-- the set at a has the elements L -/
structure NSet (w : World) (h : Heap) (a : Addr) (L : List El) (es : Array (Int × Value)) (ep : Nat) (t : SetTable) : Prop where
  ob : ∃ o, h.get? a = some o ∧ o.ExactSet ∧ o.data = .set es ep t
  rows : es.toList = L.map (row w)
  tab : TabOk t (L.map (hs w))
  nd : (L.map (·.2)).Nodup
  key : ∀ p ∈ L, IsN h p.2 p.1
  plain : t.plain = true
  led : w.params.followText "set-order" = true ∨ t.led = true
  room : L.length * 5 < t.mask * 3
  few : L.length < 64
section
variable {P : Program} {w : World} {A : Around} {E : Value → Shared → Prop} {s : Shared} {a : Addr} {L : List El} {es : Array (Int × Value)} {ep : Nat} {t : SetTable}
theorem NSet.size (R : NSet w s.heap a L es ep t) : es.size = L.length := by
  have h := congrArg List.length R.rows
  simpa using h
theorem fits_of (hd : t.dummies = #[]) (hz : t.place.size = es.size) (hm : es.size ≤ t.mask) : t.fits es.size = true := by
  unfold SetTable.fits SetTable.fill
  rw [hd, Bool.and_eq_true, beq_iff_eq, decide_eq_true_eq]
  exact ⟨hz, by show t.place.size + 0 ≤ t.mask; omega⟩
theorem NSet.fits (R : NSet w s.heap a L es ep t) : t.fits es.size = true := by
  have h1 := R.tab.sz
  have h2 := R.size
  have h3 := R.room
  rw [List.length_map] at h1
  exact fits_of R.tab.dm (h1.trans h2.symm) (by omega)
theorem NSet.entry (R : NSet w s.heap a L es ep t) {i : Nat} {p : El} (h : L[i]? = some p) : es[i]? = some (row w p) := by
  rw [← Array.getElem?_toList, R.rows, List.getElem?_map, h]; rfl
theorem NSet.at (R : NSet w s.heap a L es ep t) {i j : Nat} (h : t.place.toList[i]? = some j) : ∃ p, L[i]? = some p := by
  have h1 : i < t.place.toList.length := (List.getElem?_eq_some_iff.mp h).1
  have h2 := R.tab.sz
  rw [List.length_map] at h2
  rw [Array.length_toList] at h1
  exact ⟨_, List.getElem?_eq_getElem (by omega)⟩
theorem NSet.gw (R : NSet w s.heap a L es ep t) : ¬ t.gaveWay = true := by
  unfold SetTable.gaveWay
  rw [mask_odd R.tab.mok]
  decide
/-- the c-th probe of a hash's way -/
abbrev prb (t : SetTable) (h : Int) (c : Nat) : SetTable.Probe := L2.nth t.mask (runAt t.mask (SetTable.bits h % (t.mask + 1)) (SetTable.bits h)) c
theorem nth_dummy (m : Nat) : ∀ (n : Nat) (p : SetTable.Probe), p.dummy = none → (L2.nth m p n).dummy = none
  | 0, _, h => h
  | n + 1, p, h => nth_dummy m n (adv m p) (by unfold adv; split <;> exact h)
theorem prb_add {h : Int} {c q : Nat} : L2.nth t.mask (prb t h c) q = prb t h (c + q) := (nth_add t.mask c _ q).symm
/-- looking for a key, from the c-th probe on -/
theorem look_from (R : NSet w s.heap a L es ep t) {x : Addr} {k : NestedKey} (hx : IsN s.heap k x) (hu : A.units + 8 < cLine) {K : Nat} (hKf : K < 10 * SetTable.turns t.mask)
    (hK : way t.mask (k.hash w) K ∉ t.place.toList) (hKb : ∀ c, c < K → way t.mask (k.hash w) c ∈ t.place.toList) {Q : SetFound → Shared → Prop}
    (yes : k ∈ L.map (·.2) → Q (.there none) s) (no : k ∉ L.map (·.2) → Q (.free (way t.mask (k.hash w) K) false) s) :
    ∀ (f c : Nat) (stand : Option SetTable.Probe), stand.getD (t.probeStart (k.hash w)) = prb t (k.hash w) c → c ≤ K → K - c < f →
      (∀ (i : Nat) (p : El), L[i]? = some p → p.2 = k → ∃ c', c ≤ c' ∧ c' < K ∧ t.place.toList[i]? = some (way t.mask (k.hash w) c')) →
      wpAny (model P w) A (setSearchFrom a (.ref x) (k.hash w) true f stand) Q E s
  | 0, _, _, _, _, hf, _ => absurd hf (Nat.not_lt_zero _)
  | f + 1, c, stand, hst, hc, hf, ahead => by
    obtain ⟨o, ho, hex, hd⟩ := R.ob
    rw [setSearchFrom_succ]
    refine wpAny_bind (wpAny_setState_of ho hd R.fits ?_)
    dsimp only
    refine wp_if_neg R.gw ?_
    try refine wpAny_bind (wpAny_pure ?_)
    have ej : ∀ q, (L2.nth t.mask (prb t (k.hash w) c) q).j = way t.mask (k.hash w) (c + q) := fun q => congrArg SetTable.Probe.j prb_add
    have hash_at : ∀ (i : Nat) (p : El), L[i]? = some p → (es[i]?.map (·.1)).getD 0 = p.2.hash w := fun i p hp => by rw [R.entry hp]; rfl
    have eK : c + (K - c) = K := by omega
    rcases go_spec t R.tab.ris R.tab.dm (fun i => (es[i]?.map (·.1)).getD 0) (k.hash w) (10 * SetTable.turns t.mask) (K - c) (prb t (k.hash w) c) (nth_dummy _ _ _ rfl) (by omega)
      (fun q hq => by rw [ej]; exact hKb (c + q) (by omega)) (by rw [ej, eK]; exact hK) with ⟨q, i, hq, hi, _, hno, hpr⟩ | ⟨hno, hpr⟩
    · rw [ej] at hi
      have pr : t.probe (fun i => (es[i]?.map (·.1)).getD 0) (k.hash w) (stand.getD (t.probeStart (k.hash w))) = some (.candidate (way t.mask (k.hash w) (c + q)) i (prb t (k.hash w) (c + (q + 1)))) := by
        rw [hst, ← ej, ← prb_add]
        exact hpr
      rw [pr]
      dsimp only
      obtain ⟨p, hp⟩ := R.at hi
      have hmem : p ∈ L := List.mem_of_getElem? hp
      have behind : wpAny (model P w) A (searchRest a (.ref x) (k.hash w) true f es t (way t.mask (k.hash w) (c + q)) i (prb t (k.hash w) (c + (q + 1)))) Q E s := by
        unfold searchRest
        rw [R.entry hp]
        dsimp only
        refine wpAny_bind (wpAny_holding (eqb hu (R.key p hmem) hx ?_))
        refine wpAny_bind (wpAny_setState_of ho hd R.fits ?_)
        dsimp only
        by_cases hk : p.2 = k
        · exact wp_if_pos (by simp [hk]) (wpAny_pure (yes (List.mem_map.mpr ⟨p, hmem, hk⟩)))
        · refine wp_if_neg (by simp [hk]) ?_
          try refine wpAny_bind (wpAny_pure ?_)
          rw [sameMem]
          dsimp only
          have live : t.slot (way t.mask (k.hash w) (c + q)) = .live i := slot_live R.tab.ris hi
          simp only [if_true, live, R.entry hp]
          refine wpAny_bind (wpAny_isSame_ref_self (wpAny_bind (wpAny_pure ?_)))
          simp only [if_true]
          refine wp_if_neg (by simp [hk]) ?_
          refine look_from R hx hu hKf hK hKb yes no f (c + (q + 1)) _ rfl (by omega) (by omega) fun i0 p0 h0 k0 => ?_
          obtain ⟨c', c1, c2, c3⟩ := ahead i0 p0 h0 k0
          refine ⟨c', ?_, c2, c3⟩
          rcases Nat.lt_trichotomy c' (c + q) with z | z | z
          · exact absurd ((hash_at i0 p0 h0).trans (by rw [k0])) (hno (c' - c) i0 (by omega) (by rw [ej, show c + (c' - c) = c' by omega]; exact c3))
          · rw [z] at c3
            have l2 := slot_live R.tab.ris c3
            rw [live] at l2
            injection l2 with l2
            rw [← l2, hp] at h0
            cases h0
            exact absurd k0 hk
          · omega
      by_cases hl : t.led = true
      · refine wp_if_neg (by simp [hl]) ?_
        try refine wpAny_bind (wpAny_pure ?_)
        exact behind
      · refine wp_if_pos (by simp [hl]) ?_
        refine wpAny_bind (unseen hx (fun y hy => ?_) ?_)
        · obtain ⟨e, he, rfl⟩ := List.mem_map.mp hy
          have he : e ∈ es.toList := by
            have : e ∈ es ∧ e.1 = k.hash w := by simpa using he
            simpa using this.1
          rw [R.rows] at he
          obtain ⟨p2, hp2, rfl⟩ := List.mem_map.mp he
          exact ⟨p2.2, p2.1, rfl, R.key p2 hp2⟩
        · refine wp_if_neg (by decide) ?_
          try refine wpAny_bind (wpAny_pure ?_)
          exact behind
    · have pr : t.probe (fun i => (es[i]?.map (·.1)).getD 0) (k.hash w) (stand.getD (t.probeStart (k.hash w))) = some (.empty (way t.mask (k.hash w) K) none) := by
        have e2 : way t.mask (k.hash w) K = (L2.nth t.mask (prb t (k.hash w) c) (K - c)).j := by rw [ej, eK]
        rw [hst, e2]
        exact hpr
      rw [pr]
      dsimp only
      refine wpAny_pure (no fun hm => ?_)
      obtain ⟨p0, h0, k0⟩ := List.mem_map.mp hm
      obtain ⟨i0, hi0, e0⟩ := List.getElem_of_mem h0
      have h00 : L[i0]? = some p0 := by rw [List.getElem?_eq_getElem hi0, e0]
      obtain ⟨c', c1, c2, c3⟩ := ahead i0 p0 h00 k0
      exact hno (c' - c) i0 (by omega) (by rw [ej, show c + (c' - c) = c' by omega]; exact c3) ((hash_at i0 p0 h00).trans (by rw [k0]))
/-- looking for a key that may be added -/
theorem look_for (R : NSet w s.heap a L es ep t) {x : Addr} {k : NestedKey} (hx : IsN s.heap k x) (hu : A.units + 8 < cLine) {Q : SetFound → Shared → Prop} (yes : k ∈ L.map (·.2) → Q (.there none) s)
    (no : ∀ K, k ∉ L.map (·.2) → way t.mask (k.hash w) K ∉ t.place.toList → (∀ c, c < K → way t.mask (k.hash w) c ∈ t.place.toList) → Q (.free (way t.mask (k.hash w) K) false) s) :
    wpAny (model P w) A (setSearch a (.ref x) (k.hash w) true) Q E s := by
  have room := R.room
  obtain ⟨K, hKf, hK, hKb⟩ := R.tab.first (by rw [List.length_map]; omega) (k.hash w)
  have small : K < 100000 := by
    have : 10 * SetTable.turns t.mask ≤ 1420 := by
      unfold SetTable.turns
      rcases R.tab.mok with e | e | e <;> omega
    omega
  unfold setSearch
  refine look_from R hx hu hKf hK hKb yes (fun hn => no K hn hK hKb) 100000 0 none rfl (Nat.zero_le _) (by omega) fun i p hp hk => ?_
  have hi : (L.map (hs w))[i]? = some (k.hash w) := by rw [List.getElem?_map, hp, ← hk]; rfl
  have hil : i < t.place.toList.length := by
    have h1 : i < L.length := (List.getElem?_eq_some_iff.mp hp).1
    have h2 := R.tab.sz
    rw [List.length_map] at h2
    rw [Array.length_toList]
    omega
  obtain ⟨c, hc, e⟩ := R.tab.before hK hi (List.getElem?_eq_getElem hil)
  exact ⟨c, Nat.zero_le _, hc, by rw [List.getElem?_eq_getElem hil, e]⟩
end
end MiG

namespace MiG
open PySem PySem.Spec PyProof.Rows L2
section
variable {P : Program} {w : World} {A : Around} {E : Value → Shared → Prop} {s : Shared} {a : Addr} {L : List El} {es : Array (Int × Value)} {ep : Nat} {t : SetTable}
/-- entries picked by places: the elements picked so -/
theorem picked {L : List El} {es : Array (Int × Value)} (hr : es.toList = L.map (row w)) : ∀ l : List Nat, (∀ i ∈ l, i < L.length) → ∃ L2 : List El, l.filterMap (fun i => es[i]?) = L2.map (row w) ∧ L2 = l.filterMap (fun i => L[i]?) ∧ (L2.map (hs w)) = l.map fun i => (es.map (·.1)).getD i 0
  | [], _ => ⟨[], rfl, rfl, rfl⟩
  | i :: l, hl => by
    have hi := hl i List.mem_cons_self
    obtain ⟨L2, e1, e2, e3⟩ := picked hr l fun j hj => hl j (List.mem_cons_of_mem _ hj)
    have e0 : es[i]? = some (row w L[i]) := by
      rw [← Array.getElem?_toList, hr, List.getElem?_map, List.getElem?_eq_getElem hi]; rfl
    have e5 : (es.map (·.1))[i]? = some (hs w L[i]) := by rw [Array.getElem?_map, e0]; rfl
    refine ⟨L[i] :: L2, by rw [List.filterMap_cons_some e0, e1]; rfl, by rw [List.filterMap_cons_some (List.getElem?_eq_getElem hi), e2], ?_⟩
    rw [List.map_cons, List.map_cons, e3]
    congr 1
    simp [Array.getD_eq_getD_getElem?, e5]
theorem range_get {α : Type} (L : List α) : (List.range L.length).filterMap (fun i => L[i]?) = L := by
  have key : ∀ n, n ≤ L.length → (List.range n).filterMap (fun i => L[i]?) = L.take n := by
    intro n
    induction n with
    | zero => intro _; rfl
    | succ n ih =>
      intro hn
      rw [List.range_succ, List.filterMap_append, ih (Nat.le_of_lt hn), List.take_add_one, List.getElem?_eq_getElem (show n < L.length from hn)]
      simp [List.getElem?_eq_getElem (show n < L.length from hn)]
  rw [key _ (Nat.le_refl _), List.take_length]
/-- the table laid anew -/
theorem anew {o : Obj} (ho : s.heap.get? a = some o) (hex : o.ExactSet) (hd : o.data = .set es ep t) (hr : es.toList = L.map (row w)) (hz : t.place.size = es.size) (hdm : t.dummies = #[]) (hfl : es.size ≤ t.mask)
    (nd : (L.map (·.2)).Nodup) (key : ∀ p ∈ L, IsN s.heap p.2 p.1) (pl : t.plain = true) (ld : w.params.followText "set-order" = true ∨ t.led = true) (few : L.length < 64) {wanted M : Nat}
    (hw : SetTable.sizeAbove wanted - 1 = M) (hM : MaskOk M) (hw2 : SetTable.sizeAbove wanted ≤ 128) (hn : L.length * 5 < M * 3) {Q : Unit → Shared → Prop}
    (hQ : ∀ h' L' es' ep' t', Heap.SameBut a s.heap h' → NSet w h' a L' es' ep' t' → L'.Perm L → Q () { s with heap := h' }) : wpAny (model P w) A (setRelay a wanted) Q E s := by
  have hl : es.size = L.length := by simpa using congrArg List.length hr
  obtain ⟨t', order, e, hp, T, em, el, ep', _⟩ := relaid_ok t (hs := es.map (·.1)) (wanted := wanted) hw hM (by rw [Array.size_map, hl]; omega)
  rw [Array.size_map, hl] at hp
  obtain ⟨L2, r1, r2, r3⟩ := picked hr order.toList fun i hi => List.mem_range.mp (hp.mem_iff.mp hi)
  rw [← r3] at T
  have pm : L2.Perm L := by
    have h1 : L2.Perm ((List.range L.length).filterMap fun i => L[i]?) := by rw [r2]; exact hp.filterMap _
    rw [range_get] at h1
    exact h1
  have r1' : (order.filterMap (es[·]?)).toList = L2.map (row w) := by rw [Array.toList_filterMap]; exact r1
  have hz2 : (order.filterMap (es[·]?)).size = es.size := by
    have h := congrArg List.length r1'
    rw [Array.length_toList, List.length_map] at h
    rw [h, pm.length_eq, hl]
  rw [setRelay_eq]
  refine wpAny_bind (wpAny_setState_of ho hd (fits_of hdm hz hfl) ?_)
  dsimp only
  refine wp_if_neg (by rw [sizeLine_eq]; omega) ?_
  try refine wpAny_bind (wpAny_pure ?_)
  rw [e]
  dsimp only
  refine wpAny_bind ?_
  refine wp_if_neg (by rw [hz2]; simp) ?_
  try refine wpAny_bind (wpAny_pure ?_)
  refine wpAny_pure ?_
  dsimp only
  refine wpAny_storeSet_of ho hd ?_ (by rw [hz2, hl, sizeLine_eq]; omega)
  have sb : Heap.SameBut a s.heap (s.heap.update a (Obj.putSet (order.filterMap (es[·]?)) t')) := Heap.SameBut.update ..
  exact hQ _ L2 _ (ep + 1) t' sb ⟨⟨_, store_at ho hd, ⟨hex.1, hex.2.1, hex.2.2⟩, rfl⟩, r1', T, (pm.map (·.2)).nodup_iff.mpr nd, fun p hp => (key p (pm.mem_iff.mp hp)).but ho hd sb, by rw [ep']; exact pl, by rw [el]; exact ld, by rw [pm.length_eq, em]; exact hn, by rw [pm.length_eq]; exact few⟩ pm
/-- adding an element -/
theorem plus (R : NSet w s.heap a L es ep t) {x : Addr} {k : NestedKey} (hx : IsN s.heap k x) (hu : A.units + 8 < cLine) (few : L.length + 1 < 64) {Q : Bool → Shared → Prop}
    (hQ : ∀ b h' L' es' ep' t', Heap.SameBut a s.heap h' → NSet w h' a L' es' ep' t' → (k ∈ L.map (·.2) → L' = L) → (k ∉ L.map (·.2) → L'.Perm ((x, k) :: L)) → Q b { s with heap := h' }) :
    wpAny (model P w) A (setAddHashed a (.ref x) (k.hash w)) Q E s := by
  obtain ⟨o, ho, hex, hd⟩ := R.ob
  have hl := R.size
  have room := R.room
  unfold setAddHashed
  refine wpAny_holding ?_
  rw [show (100000 : Nat) = 99999 + 1 from rfl, setAddHashedIn_succ]
  refine wpAny_bind (wpAny_setState_of ho hd R.fits ?_)
  dsimp only
  refine wp_if_neg (by simp [byScan, Value.scannable]) ?_
  try refine wpAny_bind (wpAny_pure ?_)
  refine wpAny_bind (look_for R hx hu (fun hm => ?_) fun K hm hK hb => ?_)
  · exact wpAny_pure (hQ false s.heap L es ep t (Heap.SameBut.refl a s.heap) R (fun _ => rfl) fun z => absurd hm z)
  · dsimp only
    refine wpAny_bind (wpAny_setState_of ho hd R.fits ?_)
    dsimp only
    obtain ⟨q1, q2, q3, q4, q5, q6, _, _, q9⟩ := R.tab.put hK hb
    have plain1 : (t.put (way t.mask (k.hash w) K)).1.plain = true := by rw [q6]; exact R.plain
    generalize hpt : t.put (way t.mask (k.hash w) K) = pt at q1 q3 q4 q5 q6 q9 plain1 ⊢
    obtain ⟨t1, p⟩ := pt
    dsimp only at q1 q3 q4 q5 q6 q9 plain1 ⊢
    subst q1
    have d8 : k.depth ≤ 8 := Nat.le_trans hx.dp (by decide)
    first
      | (refine wpAny_bind ?_; refine wp_if_pos plain1 ?_; refine byValue 8 hx.is d8 hx.nm ?_)
      | refine wp_if_pos plain1 (wpAny_bind (byValue 8 hx.is d8 hx.nm ?_))
    simp only [if_true]
    generalize hpp : SetTable.below t.place (way t.mask (k.hash w) K) = p at q2 q3 ⊢
    have rows1 : (SetTable.insertAt es p (k.hash w, Value.ref x)).toList = (L.take p ++ (x, k) :: L.drop p).map (row w) := by
      rw [SetTable.toList_insertAt, R.rows, List.map_append, List.map_cons, List.map_take, List.map_drop]
    have pm : (L.take p ++ (x, k) :: L.drop p).Perm ((x, k) :: L) := put_perm L p (x, k)
    have len1 : (L.take p ++ (x, k) :: L.drop p).length = L.length + 1 := pm.length_eq
    have tab1 : TabOk t1 ((L.take p ++ (x, k) :: L.drop p).map (hs w)) := by
      rw [List.map_append, List.map_cons, List.map_take, List.map_drop]
      exact q3
    have nd1 : ((L.take p ++ (x, k) :: L.drop p).map (·.2)).Nodup := by
      refine (pm.map (·.2)).nodup_iff.mpr ?_
      rw [List.map_cons]
      exact List.nodup_cons.mpr ⟨hm, R.nd⟩
    generalize SetTable.insertAt es p (k.hash w, Value.ref x) = es1 at rows1 ⊢
    generalize L.take p ++ (x, k) :: L.drop p = L1 at pm len1 tab1 nd1 rows1
    have hes : es1.size = L.length + 1 := by
      have h : es1.size = L1.length := by simpa using congrArg List.length rows1
      rw [h, len1]
    refine wpAny_bind (wpAny_storeSet_of ho hd ?_ (by rw [hes, sizeLine_eq]; omega))
    have sb : Heap.SameBut a s.heap (s.heap.update a (Obj.putSet es1 t1)) := Heap.SameBut.update ..
    have ho1 := store_at (es' := es1) (t' := t1) ho hd
    generalize s.heap.update a (Obj.putSet es1 t1) = h1 at sb ho1 ⊢
    have key1 : ∀ p ∈ L1, IsN h1 p.2 p.1 := fun p hp => by
      rcases List.mem_cons.mp (pm.mem_iff.mp hp) with e | hp
      · rw [e]; exact hx.but ho hd sb
      · exact (R.key p hp).but ho hd sb
    have led1 : w.params.followText "set-order" = true ∨ t1.led = true := by rw [q5]; exact R.led
    have full_iff : t1.tooFull = decide ((L.length + 1) * 5 ≥ t1.mask * 3) := by
      unfold SetTable.tooFull
      rw [q9, List.length_map]
    by_cases hf : t1.tooFull = true
    · first
        | (refine wpAny_bind ?_; refine wp_if_pos (by simp [hf]) ?_)
        | (refine wp_if_pos (by simp [hf]) ?_; refine wpAny_bind ?_)
      have hfull : (L.length + 1) * 5 ≥ t1.mask * 3 := of_decide_eq_true (full_iff ▸ hf)
      rw [hl]
      have hz1 : t1.place.size = es1.size := by
        have h := tab1.sz
        rw [List.length_map, len1] at h
        rw [h, hes]
      have which : (t.mask = 7 ∧ L.length = 4) ∨ (t.mask = 31 ∧ L.length = 18) := by
        rcases R.tab.mok with e | e | e
        · left; rw [q4, e] at hfull; rw [e] at room; exact ⟨e, by omega⟩
        · right; rw [q4, e] at hfull; rw [e] at room; exact ⟨e, by omega⟩
        · exfalso; rw [q4, e] at hfull; omega
      have go : ∀ M, SetTable.sizeAbove (SetTable.grown (L.length + 1)) - 1 = M → MaskOk M → SetTable.sizeAbove (SetTable.grown (L.length + 1)) ≤ 128 → (L.length + 1) * 5 < M * 3 →
          wpAny (model P w) A (setRelay a (SetTable.grown (L.length + 1))) (fun _ s' => wpAny (model P w) A (pure true) Q E s') E { s with heap := h1 } := fun M m1 m2 m3 m4 =>
        anew (s := { s with heap := h1 }) ho1 ⟨hex.1, hex.2.1, hex.2.2⟩ rfl rows1 hz1 tab1.dm (by rw [hes, q4]; rcases which with ⟨e, e2⟩ | ⟨e, e2⟩ <;> omega) nd1 key1 plain1 led1 (by rw [len1]; exact few) m1 m2 m3 (by rw [len1]; exact m4)
          fun h2 L2 es2 ep2 t2 sb2 R2 pm2 => wpAny_pure (hQ true h2 L2 es2 ep2 t2 (sb.trans sb2) R2 (fun z => absurd z hm) fun _ => pm2.trans pm)
      rcases which with ⟨_, e2⟩ | ⟨_, e2⟩
      · exact go 31 (by rw [e2, size_20]) (.inr (.inl rfl)) (by rw [e2, size_20]; decide) (by omega)
      · exact go 127 (by rw [e2, size_76]) (.inr (.inr rfl)) (by rw [e2, size_76]; decide) (by omega)
    · have hnf : ¬ (L.length + 1) * 5 ≥ t1.mask * 3 := fun z => hf (by rw [full_iff]; exact decide_eq_true z)
      first
        | refine wp_if_neg (by simp [hf]) ?_
        | (refine wpAny_bind ?_; refine wp_if_neg (by simp [hf]) ?_; refine wpAny_pure ?_)
      exact wpAny_pure (hQ true h1 L1 es1 (ep + 1) t1 sb ⟨⟨_, ho1, ⟨hex.1, hex.2.1, hex.2.2⟩, rfl⟩, rows1, tab1, nd1, key1, plain1, led1, by rw [len1]; omega, by rw [len1]; exact few⟩ (fun z => absurd z hm) fun _ => pm)
end
end MiG

namespace MiG
open PySem PySem.Spec PyProof.Rows L2
/-- one element more -/
structure Gn (ks : List El) (i : Nat) (L : List El) : Prop where
  sub : ∀ p ∈ L, p ∈ ks.take i
  all : ∀ p ∈ ks.take i, p.2 ∈ L.map (·.2)
  len : L.length ≤ i
theorem Gn.zero (ks : List El) : Gn ks 0 [] := ⟨fun p h => (by cases h), fun p h => (by simp at h), Nat.le_refl _⟩
theorem Gn.same {ks L : List El} {i : Nat} {x : El} (g : Gn ks i L) (h : ks[i]? = some x) (hm : x.2 ∈ L.map (·.2)) : Gn ks (i + 1) L := by
  refine ⟨fun p hp => ?_, fun p hp => ?_, Nat.le_succ_of_le g.len⟩
  · rw [take_next h]
    exact List.mem_append_left _ (g.sub p hp)
  · rw [take_next h] at hp
    rcases List.mem_append.mp hp with z | z
    · exact g.all p z
    · rw [List.mem_singleton.mp z]; exact hm
theorem Gn.more {ks L L' : List El} {i : Nat} {x : El} (g : Gn ks i L) (h : ks[i]? = some x) (pm : L'.Perm (x :: L)) : Gn ks (i + 1) L' := by
  refine ⟨fun p hp => ?_, fun p hp => ?_, ?_⟩
  · rw [take_next h]
    rcases List.mem_cons.mp (pm.mem_iff.mp hp) with e | z
    · rw [e]; exact List.mem_append_right _ (List.mem_singleton.mpr rfl)
    · exact List.mem_append_left _ (g.sub p z)
  · rw [(pm.map (·.2)).mem_iff, List.map_cons]
    rw [take_next h] at hp
    rcases List.mem_append.mp hp with z | z
    · exact List.mem_cons_of_mem _ (g.all p z)
    · rw [List.mem_singleton.mp z]; exact List.mem_cons_self
  · rw [pm.length_eq]
    exact Nat.succ_le_succ g.len
abbrev seed (w : World) : SetTable := .fresh 0 0 (!w.params.followText "set-order")
abbrev seedO (w : World) : Obj := { cls := .type "set", dict := none, data := .set #[] 0 (seed w) }
section
variable {P : Program} {w : World} {A : Around} {E : Value → Shared → Prop} {s : Shared}
theorem NSet.keep {h h' : Heap} {a : Addr} {L : List El} {es : Array (Int × Value)} {ep : Nat} {t : SetTable} (R : NSet w h a L es ep t) (ha : ∀ o, h.get? a = some o → h'.get? a = some o) (hk : ∀ p ∈ L, IsN h' p.2 p.1) : NSet w h' a L es ep t := by
  obtain ⟨o, ho, r⟩ := R.ob
  exact ⟨⟨o, ha o ho, r⟩, R.rows, R.tab, R.nd, hk, R.plain, R.led, R.room, R.few⟩
theorem nset_new {h : Heap} {a : Addr} (ho : h.get? a = some (seedO w)) : NSet w h a [] #[] 0 (seed w) where
  ob := ⟨_, ho, ⟨rfl, rfl, rfl⟩, rfl⟩
  rows := rfl
  tab := ⟨List.Pairwise.nil, rfl, rfl, .inl rfl, fun x hx => (by cases hx), fun i h j hi => (by simp at hi)⟩
  nd := List.nodup_nil
  key := fun p hp => (by cases hp)
  plain := rfl
  led := by
    show _ ∨ (!w.params.followText "set-order") = true
    cases w.params.followText "set-order"
    · exact .inr rfl
    · exact .inl rfl
  room := by
    show 0 * 5 < 7 * 3
    decide
  few := by
    show 0 < 64
    decide
/-- the keys go in, one by one -/
theorem fill_set {I : Addr} {fp wr : List Addr} {G : Array GenState → Array GenState → Prop} {n : Nat} {Pv : Nat → Value → Prop} {St : Nat → Shared → Prop} {R : Result → Shared → Prop}
    (W : WalksS P w A.in1 I fp wr G n Pv St) (S : Addr) (hSf : S ∉ fp) (ks : List El) (hn : n = ks.length) (hfew : ks.length < 64) (hval : ∀ i v, Pv i v → ∃ p, ks[i]? = some p ∧ v = .ref p.1)
    (h0 : Heap) (hk : ∀ p ∈ ks, IsN h0 p.2 p.1) (hS0 : h0.get? S = none) (hw0 : ∀ b ∈ wr, h0.get? b = none) (hu : A.in1.units + 8 < cLine) :
    ∀ (k i : Nat) (s : Shared), n - i = k → i ≤ n → St i s → (∀ b o, h0.get? b = some o → s.heap.get? b = some o) → (∃ L es ep t, NSet w s.heap S L es ep t ∧ Gn ks i L) →
      (∀ s' L es ep t, Moved (S :: wr) G s s' → NSet w s'.heap S L es ep t → Gn ks n L → (∀ b o, h0.get? b = some o → s'.heap.get? b = some o) → R (.ok (.ret .none)) s') →
      codeAny (model P w) A (.builtin "set.update.loop" ⟨[.ref S, .ref I], []⟩) R s := by
  have hSw : S ∉ wr := fun h => hSf (W.sub _ h)
  have hsub : ∀ b ∈ wr, b ∈ S :: wr := fun b hb => List.mem_cons_of_mem _ hb
  have keepM : ∀ {s s' : Shared}, Moved wr G s s' → (∀ b o, h0.get? b = some o → s.heap.get? b = some o) → ∀ b o, h0.get? b = some o → s'.heap.get? b = some o := fun hm hkp b o e =>
    hm.heap b o (fun hb => by rw [hw0 b hb] at e; cases e) (hkp b o e)
  intro k
  induction k with
  | zero =>
    intro i s hk' hi hst hkp ⟨L, es, ep, t, hS, g⟩ hR
    have hin : i = n := by omega
    subst hin
    refine codeAny_builtin F.entry_set_update_loop ?_
    rw [Around.under_plainId F.plain_set_update_loop _]
    show wpAny _ A.in1 (pyNext (.ref I) >>= _) _ _ s
    refine wpAny_bind (W.done s _ _ hst fun s' hm => ?_)
    show wpAny _ A.in1 (ret Value.none) _ _ s'
    have hkp' := keepM hm hkp
    have sub : ∀ p ∈ L, p ∈ ks := fun p hp => List.mem_of_mem_take (g.sub p hp)
    exact wpAny_pure (hR s' L es ep t (hm.mono hsub) (hS.keep (fun o e => hm.heap S o hSw e) fun p hp => (hk p (sub p hp)).grow hkp') g hkp')
  | succ k ih =>
    intro i s hk' hi hst hkp ⟨L, es, ep, t, hS, g⟩ hR
    have hlt : i < n := by omega
    refine codeAny_builtin F.entry_set_update_loop ?_
    rw [Around.under_plainId F.plain_set_update_loop _]
    show wpAny _ A.in1 (pyNext (.ref I) >>= _) _ _ s
    refine wpAny_bind (W.item i s _ _ hlt hst fun v s' hP hst' hm => ?_)
    obtain ⟨p, hp, rfl⟩ := hval i v hP
    have hkp' := keepM hm hkp
    have sub : ∀ p ∈ L, p ∈ ks := fun p hp => List.mem_of_mem_take (g.sub p hp)
    have hS' : NSet w s'.heap S L es ep t := hS.keep (fun o e => hm.heap S o hSw e) fun q hq => (hk q (sub q hq)).grow hkp'
    have hx : IsN s'.heap p.2 p.1 := (hk p (List.mem_of_getElem? hp)).grow hkp'
    show wpAny _ A.in1 (holding [Value.ref p.1] (setAdd S (.ref p.1)) >>= _) _ _ s'
    refine wpAny_bind (wpAny_holding ?_)
    unfold setAdd
    refine wpAny_holding ?_
    have dd := hx.dp
    refine wpAny_bind (pyHash_key _ _ _ _ _ hx.is (by omega) ?_)
    refine plus (s := { s' with toks := s'.toks + p.2.draws }) hS' hx hu (by have := g.len; omega) fun b h' L' es' ep' t' hsb hS2 c1 c2 => ?_
    have g' : Gn ks (i + 1) L' := by
      rcases Classical.em (p.2 ∈ L.map (·.2)) with c | c
      · rw [c1 c]; exact g.same hp c
      · exact g.more hp (c2 c)
    have hkp2 : ∀ b o, h0.get? b = some o → h'.get? b = some o := fun b o e => (hsb.2 b (fun z => by rw [z, hS0] at e; cases e)).trans (hkp' b o e)
    refine wpAny_pure ⟨plainId_quiet F.plain_set_update_loop _, ih (i + 1) _ (by omega) hlt (W.frame _ s' _ _ hst' (Nat.le_add_right _ _) fun b hb o e => ?_) hkp2 ⟨L', es', ep', t', hS2, g'⟩ fun s'' L2 es2 ep2 t2 hm'' hS'' g'' hkp'' => ?_⟩
    · rw [hsb.2 b (fun h : b = S => hSf (by rw [← h]; exact hb))]; exact e
    · refine hR s'' L2 es2 ep2 t2 (Moved.trans W.gtrans ((hm.mono hsub).then_heap (Nat.le_add_right _ _) fun b o hb e => ?_) hm'') hS'' g'' hkp''
      rw [hsb.2 b (fun h : b = S => hb (by rw [h]; exact List.mem_cons_self))]; exact e
set_option maxRecDepth 100000 in
set_option maxHeartbeats 3200000 in
/-- set(xs), xs a list of such keys -/
theorem make_set {l : Addr} {items : Array Value} (ks : List El) {Q : Value → Shared → Prop} (hh : A.handled = none) (hl : s.heap.IsList l items) (hit : items.toList = ks.map fun p => Value.ref p.1)
    (hk : ∀ p ∈ ks, IsN s.heap p.2 p.1) (hfew : ks.length < 64) (hu : A.units + 16 < cLine)
    (h : ∀ (h' : Heap) (tk : Nat) L es ep t, NSet w h' s.heap.objs.size L es ep t → Gn ks ks.length L → (∀ b o, s.heap.get? b = some o → h'.get? b = some o) → Q (.ref s.heap.objs.size) { s with heap := h', toks := tk }) :
    wpAny (model P w) A (call (.type "set") [.ref l]) Q E s := by
  have hisz : items.size = ks.length := by
    have q := congrArg List.length hit
    rw [Array.length_toList, List.length_map] at q
    exact q
  obtain ⟨c, tl, hmro⟩ := F.called_set.mro
  have hmade := F.called_set.made
  have hsub := F.called_set.sub
  refine wpAny_call (codeAny_of_tree ?_)
  show wpAny _ _ (callAny (.type "set") _) _ _ _
  refine wpAny_pure ⟨Code.quiet_builtin _ (by decide +kernel), codeAny_builtin F.entry_type_call ?_⟩
  rw [Around.under_plain (weight_type_call_type "set" [.ref l] []) rfl]
  have h1 := F.called_set.notType
  have h2 := F.called_set.canCreate
  have hct := F.typeCall_set_1 (.ref l)
  repeat (any_goals (first | assumption | wp_step))
  refine codeAny_mono (code_set_led1 (.ref l) (E := E) (Q₁ := fun obj s₁ => obj = .ref s.heap.objs.size ∧ s₁ = { s with heap := s.heap.push (seedO w) }) ⟨rfl, rfl⟩) fun r s₁ hr => ?_
  cases r with
  | error e => exact hr
  | ok fl =>
    cases fl with
    | ret obj =>
      obtain ⟨rfl, rfl⟩ := hr
      have hS : (s.heap.push (seedO w)).get? s.heap.objs.size = some (seedO w) := Heap.get?_push_size _ rfl
      have hT : Shared.TypeIs { s with heap := s.heap.push (seedO w) } (.ref s.heap.objs.size) "set" := ⟨_, hS, rfl⟩
      have hli := F.called_set.init.lookup
      have hbi := F.called_set.init.bind (.ref s.heap.objs.size)
      repeat (any_goals (first | assumption | wp_step))
      refine codeAny_mono (codeAny_call_builtin (R := wants (fun r s₂ => r = .none ∧ ∃ h' tk L es ep t, s₂ = { s with heap := h', toks := tk } ∧ NSet w h' s.heap.objs.size L es ep t ∧ Gn ks ks.length L ∧
          (∀ b o, s.heap.get? b = some o → h'.get? b = some o)) E) F.called_set.init.plain F.entry_set_init (check_set_init_1 hT ?_)) fun r₂ s₂ hr₂ => ?_
      · obtain ⟨ol, hol, hcl, nl, hdl⟩ := hl
        obtain ⟨ocls, odict, odata, oslots⟩ := ol
        simp only at hcl hdl
        subst hcl; subst hdl
        have hol' : (s.heap.push (seedO w)).get? l = some { cls := .type "list", dict := odict, data := .seq items nl, slots := oslots } := Heap.get?_push_of_some _ hol
        have hsls := F.sub_list_set
        have hslf := F.sub_list_frozenset
        have hne : (Value.type "list" == Value.type "dict") = false := by decide
        have hl1 : (s.heap.push (seedO w)).IsList l items := ⟨_, hol', rfl, nl, rfl⟩
        unfold Builtin.«set.__init__» noKeywords Builtin.Frozenset.updateFrom
        generalize hPI : pyIter = PI
        wp_walk
        subst hPI
        refine wpAny_pyIter_list hl1 ?_
        refine wpAny_bind (wpAny_runValue ?_)
        have hlS : l < s.heap.objs.size := Heap.lt_size hol
        have hh3 : A.in1.in1.in1.handled = none := by simp [hh]
        have hz1 : (s.heap.push (seedO w)).objs.size = s.heap.objs.size + 1 := Heap.size_push ..
        have hneI : l ≠ (s.heap.push (seedO w)).objs.size := by
          rw [Heap.size_push]; exact Nat.ne_of_lt (Nat.lt_succ_of_lt hlS)
        have hSf : s.heap.objs.size ∉ [(s.heap.push (seedO w)).objs.size, l] := by
          rw [Heap.size_push]; simp only [List.mem_cons, List.mem_singleton, List.not_mem_nil, or_false, not_or]
          exact ⟨Nat.ne_of_lt (Nat.lt_succ_self _), Nat.ne_of_gt hlS⟩
        have hval : ∀ (i : Nat) (v : Value), items[i]? = some v → ∃ p, ks[i]? = some p ∧ v = .ref p.1 := fun i v hv => by
          have q : items.toList[i]? = some v := by rw [Array.getElem?_toList]; exact hv
          rw [hit, List.getElem?_map] at q
          cases hq : ks[i]? with
          | none => rw [hq] at q; cases q
          | some p =>
            rw [hq] at q
            exact ⟨p, rfl, (Option.some.inj q).symm⟩
        have none_of : ∀ b, s.heap.objs.size ≤ b → s.heap.get? b = none := fun b hb => by
          cases q : s.heap.get? b with
          | none => rfl
          | some o => exact absurd (Nat.lt_of_lt_of_le (Heap.lt_size q) hb) (Nat.lt_irrefl _)
        refine fill_set ((Walks.list hh3 _ l hneI items).toS) s.heap.objs.size
          hSf ks hisz hfew hval s.heap hk (none_of _ (Nat.le_refl _)) (fun b hb => none_of b (by
            rw [List.mem_singleton.mp hb, Heap.size_push]
            exact Nat.le_succ _)) (by simp only [Around.in1_units]; omega) (items.size - 0) 0 _ (by omega) (Nat.zero_le _)
          ⟨⟨_, Heap.get?_push_size _ rfl, rfl, rfl⟩, (hl1.push _)⟩ (fun b o e => Heap.get?_push_of_some _ (Heap.get?_push_of_some _ e)) ?hS0 ?hR
        case hS0 =>
          have hget : ((s.heap.push (seedO w)).push { cls := .type "list_iterator", data := .fields #[.ref l, .int 0 0] }).get? s.heap.objs.size = some (seedO w) := Heap.get?_push_of_some _ hS
          exact ⟨[], #[], 0, _, nset_new hget, Gn.zero ks⟩
        case hR =>
          intro s' L es ep t hm hS' g' hkp
          obtain ⟨h', g2, d', tk', os'⟩ := s'
          have eg : g2 = s.gens := hm.gens
          have ed : d' = s.drawn := hm.drawn
          have eo : os' = s.os := hm.os
          subst eg; subst ed; subst eo
          show wpAny _ _ _ _ _ _
          refine wpAny_pure ?_
          show wpAny _ _ (ret Value.none) _ _ _
          rw [hisz] at g'
          exact wpAny_pure ⟨rfl, h', tk', L, es, ep, t, rfl, hS', g', hkp⟩
      · cases r₂ with
        | error e => exact hr₂
        | ok fl₂ =>
          cases fl₂ with
          | ret r =>
            obtain ⟨rfl, h', tk, L, es, ep, t, rfl, hS', g', hk'⟩ := hr₂
            repeat (any_goals (first | assumption | wp_step))
            exact h _ _ _ _ _ _ hS' g' hk'
          | _ => exact hr₂.elim
    | _ => exact hr.elim
end
end MiG

namespace MiG
open PySem PySem.Spec PyProof.Rows L2
open PySem.W (alike alikeAll dataLt dataLe AllAlike EachIs keyToks TotalLe sort_pairwise sortLe_total list_sort_data)
/-! ### data as keys -/
mutual
/-- whole numbers and tuples of such -/
def nd : PyData → Bool
  | .int _ => true
  | .tuple xs => nds xs
  | _ => false
def nds : List PyData → Bool
  | [] => true
  | x :: xs => nd x && nds xs
end
mutual
def kN : PyData → NestedKey
  | .int i => .num i
  | .tuple xs => .tup (kNs xs)
  | _ => .none
def kNs : List PyData → List NestedKey
  | [] => []
  | x :: xs => kN x :: kNs xs
end
mutual
def ofN : NestedKey → PyData
  | .num i => .int i
  | .tup ks => .tuple (ofNs ks)
  | _ => .none
def ofNs : List NestedKey → List PyData
  | [] => []
  | k :: ks => ofN k :: ofNs ks
end
mutual
theorem ofN_kN : ∀ d : PyData, nd d = true → ofN (kN d) = d
  | .int _, _ => rfl
  | .tuple xs, h => by
    show PyData.tuple (ofNs (kNs xs)) = _
    rw [ofNs_kNs xs h]
  | .none, h => by cases h
  | .bool _, h => by cases h
  | .str _, h => by cases h
  | .list _, h => by cases h
  | .dict _, h => by cases h
theorem ofNs_kNs : ∀ ds : List PyData, nds ds = true → ofNs (kNs ds) = ds
  | [], _ => rfl
  | d :: ds, h => by
    have h : (nd d && nds ds) = true := h
    obtain ⟨h1, h2⟩ := Bool.and_eq_true_iff.mp h
    show ofN (kN d) :: ofNs (kNs ds) = _
    rw [ofN_kN d h1, ofNs_kNs ds h2]
end
theorem kN_inj {d e : PyData} (h : nd d = true) (h' : nd e = true) (q : kN d = kN e) : d = e := by
  rw [← ofN_kN d h, ← ofN_kN e h', q]
mutual
theorem numK_kN : ∀ d : PyData, nd d = true → numK (kN d) = true
  | .int _, _ => rfl
  | .tuple xs, h => numKs_kNs xs h
  | .none, h => by cases h
  | .bool _, h => by cases h
  | .str _, h => by cases h
  | .list _, h => by cases h
  | .dict _, h => by cases h
theorem numKs_kNs : ∀ ds : List PyData, nds ds = true → numKs (kNs ds) = true
  | [], _ => rfl
  | d :: ds, h => by
    have h : (nd d && nds ds) = true := h
    obtain ⟨h1, h2⟩ := Bool.and_eq_true_iff.mp h
    show (numK (kN d) && numKs (kNs ds)) = true
    rw [numK_kN d h1, numKs_kNs ds h2]; rfl
end
mutual
theorem depth_kN : ∀ d : PyData, nd d = true → (kN d).depth = d.depth
  | .int _, _ => rfl
  | .tuple xs, h => by
    show NestedKey.depthAll (kNs xs) + 1 = PyData.depth (.tuple xs)
    rw [depths_kNs xs h]
    simp only [PyData.depth]
    try omega
  | .none, h => by cases h
  | .bool _, h => by cases h
  | .str _, h => by cases h
  | .list _, h => by cases h
  | .dict _, h => by cases h
theorem depths_kNs : ∀ ds : List PyData, nds ds = true → NestedKey.depthAll (kNs ds) = PyData.depthAll ds
  | [], _ => by simp [NestedKey.depthAll, PyData.depthAll, kNs]
  | d :: ds, h => by
    have h : (nd d && nds ds) = true := h
    obtain ⟨h1, h2⟩ := Bool.and_eq_true_iff.mp h
    show max (kN d).depth (NestedKey.depthAll (kNs ds)) = PyData.depthAll (d :: ds)
    rw [depth_kN d h1, depths_kNs ds h2]
    simp only [PyData.depthAll]
end
mutual
theorem nest_of {h : Heap} : ∀ (d : PyData) (v : Value) (as : List Addr), nd d = true → Reads h v d as → NestedIs h (kN d) v ∧ as = []
  | .int _, _, _, _, r => by
    cases r
    exact ⟨.int _ _, rfl⟩
  | .tuple xs, _, _, hn, r => by
    cases r with
    | tuple a b c q =>
      obtain ⟨q1, q2⟩ := nests_of xs _ _ hn q
      exact ⟨.tup a b c q1, q2⟩
  | .none, _, _, h, _ => by cases h
  | .bool _, _, _, h, _ => by cases h
  | .str _, _, _, h, _ => by cases h
  | .list _, _, _, h, _ => by cases h
  | .dict _, _, _, h, _ => by cases h
theorem nests_of {h : Heap} : ∀ (ds : List PyData) (vs : List Value) (as : List Addr), nds ds = true → ReadsAll h vs ds as → NestedAll h (kNs ds) vs ∧ as = []
  | [], _, _, _, r => by
    cases r
    exact ⟨.nil, rfl⟩
  | d :: ds, _, _, hn, r => by
    have hn : (nd d && nds ds) = true := hn
    obtain ⟨h1, h2⟩ := Bool.and_eq_true_iff.mp hn
    cases r with
    | cons a b =>
      obtain ⟨a1, a2⟩ := nest_of d _ _ h1 a
      obtain ⟨b1, b2⟩ := nests_of ds _ _ h2 b
      subst a2; subst b2
      exact ⟨.cons a1 b1, rfl⟩
end
/-- an element: its place, its data -/
abbrev Ed := Addr × PyData
def kE (p : Ed) : El := (p.1, kN p.2)
theorem pull {α β : Type} {f : α → β} {ks : List α} : ∀ L0 : List β, (∀ p ∈ L0, p ∈ ks.map f) → ∃ L : List α, L.map f = L0 ∧ ∀ p ∈ L, p ∈ ks
  | [], _ => ⟨[], rfl, fun p hp => by cases hp⟩
  | q :: L0, h => by
    obtain ⟨p, hp, e⟩ := List.mem_map.mp (h q List.mem_cons_self)
    obtain ⟨L, e1, e2⟩ := pull L0 fun r hr => h r (List.mem_cons_of_mem _ hr)
    refine ⟨p :: L, by rw [List.map_cons, e, e1], fun r hr => ?_⟩
    rcases List.mem_cons.mp hr with z | z
    · rw [z]; exact hp
    · exact e2 r z
section
variable {P : Program} {w : World} {A : Around} {E : Value → Shared → Prop} {s : Shared}
theorem each_map {α β : Type} {R : α → β → Prop} {f : β → α} : ∀ {l : List β}, (∀ b ∈ l, R (f b) b) → EachIs R (l.map f) l
  | [], _ => .nil
  | b :: l, h => .cons (h b List.mem_cons_self) (each_map fun c hc => h c (List.mem_cons_of_mem _ hc))
theorem each_ref : ∀ {out : List Value} {L : List Ed}, EachIs (fun v (q : Ed) => v = Value.ref q.1) out L → out = L.map fun q => Value.ref q.1
  | _, _, .nil => rfl
  | _, _, .cons a b => by rw [a, each_ref b]; rfl
/-- sorted(set) -/
theorem sort_set {a : Addr} {L : List Ed} {es : Array (Int × Value)} {ep : Nat} {t : SetTable} {Q : Value → Shared → Prop} (R : NSet w s.heap a (L.map kE) es ep t) (hh : A.handled = none)
    (hr : ∀ p ∈ L, nd p.2 = true ∧ Reads s.heap (.ref p.1) p.2 []) (hal : AllAlike (L.map (·.2))) (hs : PySem.W.Sortable (L.map (·.2))) (hu : ∀ p ∈ L, A.units + 8 + p.2.depth < cLine)
    (hQ : ∀ s' p (out : Array Value) (c : Nat) (L' : List Ed), (∀ b o, s.heap.get? b = some o → s'.heap.get? b = some o) → s'.gens = s.gens → s'.os = s.os → s.heap.objs.size ≤ p →
      s'.heap.get? p = some (seqObj "list" out c) → out.toList = L'.map (fun q => Value.ref q.1) → L'.Perm L → L'.Pairwise (fun q r => dataLt r.2 q.2 = false) → Q (.ref p) s') :
    wpAny (model P w) A (call (.builtin "sorted") [.ref a]) Q E s := by
  obtain ⟨o, ho, hex, hd⟩ := R.ob
  have hsz : es.size = L.length := by have := R.size; rw [List.length_map] at this; exact this
  have hfew : L.length < 64 := by have := R.few; rw [List.length_map] at this; exact this
  refine Calls.call_function_entry kind_sorted plain_sorted entry_sorted (args_sorted1 _) ?_
  unfold Builtin.«sorted»
  refine wpAny_bind (m := checkCount "sorted" 1 1 _) (wpAny_pure ?_)
  refine wpAny_bind (collect_set (A := A.in1) hh ⟨o, ho, hex.1, hd⟩ R.fits (by unfold scanBound; omega) R.tab.ris R.led fun s1 vs k1 hz g1 o1 pm => ?_)
  have hes : es.toList.map (·.2) = L.map fun q => Value.ref q.1 := by
    rw [R.rows, List.map_map, List.map_map]; rfl
  rw [hes] at pm
  obtain ⟨L1, eL, sub⟩ := pull (f := fun q : Ed => Value.ref q.1) vs fun v hv => pm.mem_iff.mp hv
  subst eL
  generalize hvs : L1.map (fun q : Ed => Value.ref q.1) = vs at pm ⊢
  have one : ∀ q ∈ L, ∀ r ∈ L, q.1 = r.1 → q = r := fun q hq r hr' e => by
    have a1 := (nest_of _ _ _ (hr q hq).1 (hr q hq).2).1
    have a2 := (nest_of _ _ _ (hr r hr').1 (hr r hr').2).1
    rw [e] at a1
    exact Prod.ext e (kN_inj (hr q hq).1 (hr r hr').1 (NestedIs.inj _ _ _ a1 a2))
  have ndL : L.Nodup := nodup_of_map (f := fun p => (kE p).2) (by have := R.nd; rw [List.map_map] at this; exact this)
  have perm_of : ∀ L2 : List Ed, (∀ q ∈ L2, q ∈ L) → (L2.map (fun q => Value.ref q.1)).Perm (L.map fun q => Value.ref q.1) → L2.Perm L := by
    intro L2 hs pm1
    have nref : (L.map fun q => Value.ref q.1).Nodup := by
      refine List.pairwise_map.mpr (List.Pairwise.imp_of_mem (fun {q r} hq hr hne e => ?_) ndL)
      injection e with e
      exact hne (one q hq r hr e)
    have n1 : L2.Nodup := nodup_of_map (pm1.nodup_iff.mpr nref)
    refine (List.perm_ext_iff_of_nodup n1 ndL).mpr fun q => ⟨hs q, fun hq => ?_⟩
    have hm : Value.ref q.1 ∈ L2.map (fun q => Value.ref q.1) := pm1.mem_iff.mpr (List.mem_map.mpr ⟨q, hq, rfl⟩)
    obtain ⟨r, hr, e⟩ := List.mem_map.mp hm
    injection e with e
    rw [← one r (hs r hr) q hq e]
    exact hr
  have pL1 : L1.Perm L := perm_of L1 sub (by rw [hvs]; exact pm)
  have hvl : vs.length < 64 := by rw [pm.length_eq, List.length_map]; exact hfew
  have hl1 : L1.length < 64 := by rw [pL1.length_eq]; exact hfew
  refine wpAny_bind (wpAny_newList ?_ (by rw [sizeLine_eq]; omega))
  have hoL : (s1.heap.push (seqObj "list" vs.toArray 0)).get? s1.heap.objs.size = some (seqObj "list" vs.toArray 0) := Heap.get?_push_size _ rfl
  have rd : ∀ q ∈ L1, Reads (s1.heap.push (seqObj "list" vs.toArray 0)) (.ref q.1) q.2 [] := fun q hq => PyProof.Rows.Reads.keeps (fun b u e => Heap.get?_push_of_some _ (k1 b u e)) (hr q (sub q hq)).2
  have e1 : EachIs (fun v (q : Ed) => v = Value.ref q.1) vs L1 := by rw [← hvs]; exact each_map fun b _ => rfl
  have e2 : EachIs (fun v (q : Ed) => ∃ as, Reads (s1.heap.push (seqObj "list" vs.toArray 0)) v q.2 as ∧ s1.heap.objs.size ∉ as) vs L1 := by
    have : EachIs (fun v (q : Ed) => ∃ as, Reads (s1.heap.push (seqObj "list" vs.toArray 0)) v q.2 as ∧ s1.heap.objs.size ∉ as) (L1.map fun q : Ed => Value.ref q.1) L1 := each_map fun b hb => ⟨[], rd b hb, by simp⟩
    rw [hvs] at this
    exact this
  have m1 : ∀ d, d ∈ L1.map (fun q : Ed => q.2) → d ∈ L.map (fun q : Ed => q.2) := fun d hd => (pL1.map (fun q : Ed => q.2)).mem_iff.mp hd
  refine wpAny_bind (wpAny_holding (list_sort_data (s := { s1 with heap := s1.heap.push (seqObj "list" vs.toArray 0) }) (vs := vs) (bs := L1) (enc := fun q : Ed => q.2) (R := fun v (q : Ed) => v = Value.ref q.1) hoL e1
    e2 (fun d hd d' hd' => hal d (m1 d hd) d' (m1 d' hd')) (hs.elim (fun f => .inl fun d hd => f d (m1 d hd)) fun f => .inr fun d hd => f d (m1 d hd)) (by rw [sizeLine_eq]; omega)
    (fun b hb => by have := hu b (sub b hb); simp only [Around.in1_units]; omega) fun out a1 a2 => ?_))
  obtain ⟨c, hc⟩ := sortedHeap_at (vs := vs) (out := out.toArray) hoL
  refine wpAny_pure ⟨_, rfl, hQ _ s1.heap.objs.size out.toArray c (L1.mergeSort (dataLe false fun q : Ed => q.2)) (fun b u e => ?_) g1 o1 hz hc (by simpa using each_ref a2) ((List.mergeSort_perm _ _).trans pL1) ?_⟩
  · have q := k1 b u e
    have hlt := Heap.lt_size q
    show (sortedHeap (s1.heap.push (seqObj "list" vs.toArray 0)) s1.heap.objs.size vs out.toArray).get? b = some u
    rw [sortedHeap_old (Nat.ne_of_lt hlt) (by rw [size_push']; exact Nat.lt_succ_of_lt hlt)]
    exact Heap.get?_push_of_some _ q
  · refine (sort_pairwise (sortLe_total _ false _) L1).imp fun {q r} h => ?_
    have h : (!dataLt r.2 q.2) = true := h
    simpa using h
end
end MiG

namespace MiG
open PySem PySem.Spec PyProof.Rows L2
open PySem.W (alike alikeAll dataLt dataLe AllAlike alike_unique minD maxD AlikeAll min_list_data max_tuple_data)
theorem firstMet_nd (val : Nat → Int) : ∀ i, (firstMet val i).Nodup
  | 0 => by rw [firstMet_zero]; exact List.nodup_nil
  | i + 1 => by
    rw [firstMet_succ]
    unfold step_dedup
    have ih := firstMet_nd val i
    by_cases h : ((firstMet val i).any (· == val i)) = true
    · rw [if_pos h]; exact ih
    · rw [if_neg h, List.nodup_append]
      refine ⟨ih, List.pairwise_singleton _ _, fun a ha b hb => ?_⟩
      rw [List.mem_singleton.mp hb]
      rintro rfl
      exact h (List.any_eq_true.mpr ⟨_, ha, by simp⟩)
theorem firstMet_mem {ns : List Int} {k : Int} : k ∈ firstMet (fun i => ns.getD i 0) ns.length ↔ k ∈ ns := by
  have h := firstMet_any (fun i => ns.getD i 0) ns.length k
  have e : (List.range ns.length).map (fun i => ns.getD i 0) = ns := by
    refine List.ext_getElem (by simp) fun i h1 h2 => ?_
    rw [List.length_map, List.length_range] at h1
    rw [List.getElem_map, List.getElem_range]
    simp [List.getD_eq_getElem?_getD, h1]
  rw [e] at h
  constructor
  · intro hk
    have : (firstMet (fun i => ns.getD i 0) ns.length).any (· == k) = true := List.any_eq_true.mpr ⟨k, hk, by simp⟩
    rw [h] at this
    obtain ⟨y, hy, e⟩ := List.any_eq_true.mp this
    rw [← eq_of_beq e]; exact hy
  · intro hk
    have : ns.any (· == k) = true := List.any_eq_true.mpr ⟨k, hk, by simp⟩
    rw [← h] at this
    obtain ⟨y, hy, e⟩ := List.any_eq_true.mp this
    rw [← eq_of_beq e]; exact hy
theorem same_len {α : Type} {a b : List α} (ha : a.Nodup) (hb : b.Nodup) (h : ∀ k, k ∈ a ↔ k ∈ b) : a.length = b.length := ((List.perm_ext_iff_of_nodup ha hb).mpr h).length_eq
section
variable {X : Cx}
/-- len(set(xs)) of whole numbers -/
def tLenSetM (K : PySem.W.Frag) (ta : TA) : TE := fun σ H Q => ta σ H fun x H1 => ∃ (l : Addr) (ns us : List Int), x = [V.ref l] ∧ (SqL K H1 l (ns.map V.int) ∨ SqT K H1 l (ns.map V.int)) ∧ ns.length < 4000 ∧ us.Nodup ∧ (∀ k, k ∈ us ↔ k ∈ ns) ∧ Q (.int us.length) H1
theorem pe_lenSetM {a : Expr} {ta : TA} {p p2 q pos : Pos} (hc : X.calm = true) (hg : Gl X "len") (hm : X.mg "len" = none) (hg2 : Gl X "set") (hm2 : X.mg "set" = none) (ha : PA X [a] ta)
    (na : starEach [a] X.env = (false, eval a X.env) :: starEach [] X.env) : PE X (.Call (.Name "len" p) [.Call (.Name "set" p2) [a] [] q] [] pos) (tLenSetM X.K ta) := by
  refine ⟨fun pins s σ H Q I h => ?_⟩
  refine Call_ (ld_blt I hg hm PySem.boot_len ?_)
  refine PyProof.Rows.callWith_builtin1 (PyProof.Rows.args_cons ?_ rfl) rfl rfl
  refine Call_ (ld_blt I hg2 hm2 PyProof.Rows.boot_set ?_)
  refine PyProof.Rows.callWith_type1 (thn (ha.run q pins s σ H _ I h) fun uv s1 ⟨x, H1, I1, r1, q1⟩ => ?_) na rfl
  obtain ⟨l, ns, us, rfl, hq, h1, hnd, hmem, q1⟩ := q1
  rw [Vals.ref1 r1]
  rcases hq with hq | hq
  · obtain ⟨its, r, pl, hz⟩ := I1.list hq
    have hl : its.toArray.size = ns.length := by rw [List.size_toArray, ← r.length, List.length_map]
    refine call_set_list (I1.ok.hd hc) pl.isList (ns := ns) (by simpa using r.ints) (by unfold scanBound; omega) fun h' tk hS hk => ?_
    rw [hl] at hS
    refine PyProof.Rows.args_nil ?_
    obtain ⟨o, es, ep, t, ho, hex, hd, _, _, _, hf, hn⟩ := hS
    have e2 : (firstMet (fun i => ns.getD i 0) ns.length).length = us.length := same_len (firstMet_nd _ _) hnd fun k => firstMet_mem.trans (hmem k).symm
    have le : us.length ≤ ns.length := by rw [← e2]; exact firstMet_length_le _ _
    have I2 : Inv X pins σ H1 { s1 with heap := h', toks := tk } := I1.kept fun b o e => hk b o (Heap.lt_size e) e
    exact call_len_set ho hex hd hf (by rw [hn, e2] <;> omega) ⟨.int us.length, H1, I2.tok _, ⟨_, by rw [hn, e2]⟩, q1⟩
  · obtain ⟨its, r, pl, hz⟩ := I1.tuple hq
    refine call_set_tupI (P := X.prog) (w := X.w) ns (I1.ok.hd hc) (by obtain ⟨o, ho, hc, n, hd⟩ := pl; exact ⟨o, ho, hc, n, hd⟩) (by simpa using r.ints) (by unfold scanBound; omega) fun h' tk c hS hcl hk => ?_
    refine PyProof.Rows.args_nil ?_
    obtain ⟨o, es, ep, t, ho, hex, hd, _, nk, mem, _, hf, hn, _, _⟩ := hS
    have e2 : es.size = us.length := by
      have e3 : (es.toList.map keyOf).length = us.length := same_len nk hnd fun k => by
        rw [← mem k, decide_eq_true_eq]; exact (hmem k).symm
      rw [List.length_map, Array.length_toList] at e3
      exact e3
    have I2 : Inv X pins σ H1 { s1 with heap := h', toks := tk } := I1.kept hk
    exact call_len_set ho hex hd hf (by omega) ⟨.int us.length, H1, I2.tok _, ⟨_, by rw [e2]⟩, q1⟩
/-- sorted(set(xs)), xs a list of nested keys -/
def tSortSet (K : PySem.W.Frag) (ta : TA) : TE := fun σ H Q => ta σ H fun x H1 => ∃ (l : Addr) (ks : List Ed), x = [V.ref l] ∧ SqL K H1 l (ks.map fun p => V.ref p.1) ∧ (∀ p ∈ ks, nd p.2 = true ∧ Dp K H1 (.ref p.1) p.2 ∧ p.2.depth ≤ 6) ∧ ks.length < 64 ∧ AllAlike (ks.map (·.2)) ∧
  PySem.W.Sortable (ks.map (·.2)) ∧ ∀ (L' : List Ed) (p : Addr), (∀ q ∈ L', q ∈ ks) → (∀ q ∈ ks, q.2 ∈ L'.map (·.2)) → (L'.map (·.2)).Nodup → L'.Pairwise (fun q r => dataLt r.2 q.2 = false) → H1 p = none → Q (.ref p) (upd H1 p (.lst (L'.map fun q => V.ref q.1)))
theorem refs_of : ∀ {ks : List Ed} {us : List Value}, Vals (ks.map fun p => V.ref p.1) us → us = (ks.map kE).map fun p => Value.ref p.1
  | [], _, .nil => rfl
  | p :: ks, _, .cons r t => by
    cases r
    rw [refs_of t]; rfl
theorem vals_of : ∀ (ks : List Ed), Vals (ks.map fun p => V.ref p.1) (ks.map fun p => Value.ref p.1)
  | [] => .nil
  | p :: ks => .cons rfl (vals_of ks)
theorem nd_tup {h : Heap} {a : Addr} {d : PyData} {as : List Addr} (r : Reads h (.ref a) d as) (n : nd d = true) (dd : d.depth ≤ 6) : IsN h (kN d) a ∧ as = [] := by
  obtain ⟨x, e⟩ := nest_of d _ _ n r
  exact ⟨⟨x, by rw [depth_kN d n]; exact dd, numK_kN d n⟩, e⟩
theorem pe_sortSet {a : Expr} {ta : TA} {p p2 q pos : Pos} (hc : X.calm = true) (hu : X.A.units + 64 < cLine) (hg : Gl X "sorted") (hm : X.mg "sorted" = none) (hg2 : Gl X "set") (hm2 : X.mg "set" = none) (ha : PA X [a] ta)
    (na : starEach [a] X.env = (false, eval a X.env) :: starEach [] X.env) : PE X (.Call (.Name "sorted" p) [.Call (.Name "set" p2) [a] [] q] [] pos) (tSortSet X.K ta) := by
  refine ⟨fun pins s σ H Q I h => ?_⟩
  refine Call_ (ld_blt I hg hm (show bootBuiltins "sorted" = some (.builtin "sorted") by decide +kernel) ?_)
  refine PyProof.Rows.callWith_builtin1 (PyProof.Rows.args_cons ?_ rfl) rfl rfl
  refine Call_ (ld_blt I hg2 hm2 PyProof.Rows.boot_set ?_)
  refine PyProof.Rows.callWith_type1 (thn (ha.run q pins s σ H _ I h) fun uv s1 ⟨x, H1, I1, r1, q1⟩ => ?_) na rfl
  obtain ⟨l, ks, rfl, hq, hk, hf, hal, hso, q1⟩ := q1
  rw [Vals.ref1 r1]
  obtain ⟨its, r, pl, hz⟩ := I1.list hq
  have rd : ∀ p ∈ ks, Reads s1.heap (.ref p.1) p.2 [] := fun p hp => by
    obtain ⟨n, d, dd⟩ := hk p hp
    obtain ⟨as, r2⟩ := Dp.reads I1 p.2 (.ref p.1) (.ref p.1) d rfl
    obtain ⟨_, e⟩ := nd_tup r2 n dd
    rw [e] at r2
    exact r2
  refine make_set (P := X.prog) (w := X.w) (ks.map kE) (I1.ok.hd hc) pl.isList (by simpa using refs_of r) (fun p hp => ?_) (by rw [List.length_map]; exact hf) (by omega) fun h' tk L es ep t R g k => ?_
  · obtain ⟨p', hp', rfl⟩ := List.mem_map.mp hp
    exact (nd_tup (rd p' hp') (hk p' hp').1 (hk p' hp').2.2).1
  refine PyProof.Rows.args_nil ?_
  obtain ⟨L2, eL, sub⟩ := pull (f := kE) (ks := ks) L fun p hp => List.mem_of_mem_take (g.sub p hp)
  subst eL
  have I2 : Inv X pins σ H1 { s1 with heap := h', toks := tk } := I1.kept k
  refine sort_set (P := X.prog) (w := X.w) (s := { s1 with heap := h', toks := tk }) R (I2.ok.hd hc) (fun p hp => ⟨(hk p (sub p hp)).1, PyProof.Rows.Reads.keeps k (rd p (sub p hp))⟩)
    (fun d hd d' hd' => hal d (List.map_subset _ sub hd) d' (List.map_subset _ sub hd')) (hso.elim (fun f => .inl fun d hd => f d (List.map_subset _ sub hd)) fun f => .inr fun d hd => f d (List.map_subset _ sub hd)) (fun p hp => by have := (hk p (sub p hp)).2.2; omega)
    fun s' p out c L' k2 g2 o2 hp hg2 hout pm pw => ?_
  have len : L'.length ≤ ks.length := by
    have := g.len
    rw [List.length_map, List.length_map] at this
    rw [pm.length_eq]; exact this
  have hlen : (L'.map fun q => V.ref q.1).length ≤ sizeLine := by rw [List.length_map, sizeLine_eq]; omega
  have hn : H1 p = none := I2.hok.fresh hp
  have hv : Vals (L'.map fun q => V.ref q.1) out.toList := by rw [hout]; exact vals_of L'
  have J : Inv X pins σ (upd H1 p (.lst (L'.map fun q => V.ref q.1))) { { s1 with heap := h', toks := tk } with heap := s'.heap, gens := s'.gens, drawn := s'.drawn, toks := s'.toks } :=
    I2.call (ch := []) (Un.laid k2 hp hn) (I2.hok.laid k2 hp ⟨hlen, out.toList, c, hv, hg2⟩) (by rw [g2]; exact I2.bare) (fun _ z => nomatch z)
  have e : s' = { { s1 with heap := h', toks := tk } with heap := s'.heap, gens := s'.gens, drawn := s'.drawn, toks := s'.toks } := by
    cases s'
    cases s1
    cases o2
    rfl
  rw [e]
  refine ⟨.ref p, _, J, rfl, q1 L' p (fun q hq => sub q (pm.mem_iff.mp hq)) (fun q hq => ?_) ?_ pw hn⟩
  · have h1 := g.all (kE q) (by rw [List.take_length]; exact List.mem_map.mpr ⟨q, hq, rfl⟩)
    obtain ⟨y, hy, e1⟩ := List.mem_map.mp h1
    obtain ⟨z, hz, e2⟩ := List.mem_map.mp hy
    have e3 : kN z.2 = kN q.2 := by rw [← e2] at e1; exact e1
    have e4 : z.2 = q.2 := kN_inj (hk z (sub z hz)).1 (hk q hq).1 e3
    exact List.mem_map.mpr ⟨z, pm.mem_iff.mpr hz, e4⟩
  · refine (pm.map (·.2)).nodup_iff.mpr (nodup_of_map (f := kN) ?_)
    have := R.nd
    rw [List.map_map] at this
    rw [List.map_map]
    exact this
/-- min of a list of alike data -/
def rMinL (K : PySem.W.Frag) : List V → Hp → VK → Prop := fun xs H Q => ∃ (l : Addr) (vs : List V) (d : PyData) (ds : List PyData), xs = [.ref l] ∧ SqL K H l vs ∧ DpAll K H vs (d :: ds) ∧ AlikeAll (d :: ds) ∧ PyData.depthAll (d :: ds) ≤ 8 ∧
  ∀ (i : Nat) (v : V), vs[i]? = some v → (d :: ds)[i]? = some (minD d ds) → Q v H
theorem dpAll_at {X : Cx} {pins : List (Addr × Obj)} {σ : L2.St} {H : Hp} {s : Shared} : ∀ {vs : List V} {us : List Value} {ds : List PyData} {i : Nat} {u : Value}, DpAll X.K H vs ds → Vals vs us → us[i]? = some u → ∃ v d, vs[i]? = some v ∧ ds[i]? = some d ∧ Dp X.K H v d ∧ RelV v u
  | _, _, _, _, _, .nil, .nil, h => by simp at h
  | _, _, _, 0, _, .cons a b, .cons r t, h => by
    cases (show some _ = some _ from h)
    exact ⟨_, _, rfl, rfl, a, r⟩
  | _, _, _, i + 1, _, .cons a b, .cons r t, h => dpAll_at (X := X) (pins := pins) (σ := σ) (H := H) (s := s) (i := i) b t (by simpa using h)
theorem cr_minL (hc : X.calm = true) (hu : X.A.units + 64 < cLine) : CallR X (.builtin "min") (rMinL X.K) := by
  intro pins s σ H xs us Q I r h
  obtain ⟨l, vs, d, ds, rfl, hl, hd, ha, hz, q⟩ := h
  rw [Vals.ref1 r]
  obtain ⟨its, rv, pl, _⟩ := I.list hl
  obtain ⟨as, rl⟩ := Dp.readsAll I (d :: ds) vs its hd rv
  refine min_list_data (prog := X.prog) (w := X.w) (I.ok.hd hc) pl.isList (by simpa using rl) ha (by omega) fun i v h' tk bs hv hr k => ?_
  obtain ⟨v', e, hv', he, dp, rel⟩ := dpAll_at (X := X) (pins := pins) (σ := σ) (s := s) (H := H) hd rv (i := i) (u := v) (by simpa using hv)
  obtain ⟨cs, r2⟩ := Dp.reads I e v' v dp rel
  have me : e ∈ d :: ds := List.mem_of_getElem? he
  have r3 : Reads h' v e cs := PyProof.Rows.Reads.keeps k r2
  have mm : minD d ds ∈ d :: ds := by
    have : ∀ (ds : List PyData) (d : PyData), minD d ds ∈ d :: ds := by
      intro ds
      induction ds with
      | nil => intro d; exact List.mem_cons_self
      | cons y ys ih =>
        intro d
        show minD (if dataLt y d then y else d) ys ∈ _
        rcases List.mem_cons.mp (ih (if dataLt y d then y else d)) with z | z
        · rw [z]
          split
          · exact List.mem_cons_of_mem _ List.mem_cons_self
          · exact List.mem_cons_self
        · exact List.mem_cons_of_mem _ (List.mem_cons_of_mem _ z)
    exact this ds d
  have ee : e = minD d ds := (alike_unique _ _ _ _ _ (ha.1 _ mm _ me) hr r3).symm
  exact ⟨v', H, I.kept k, rel, q i v' hv' (by rw [← ee]; exact he)⟩
end
end MiG

namespace MiG
open PySem PySem.Spec PyProof.Rows PyProof.V L2 PySem.W
/-! ### list(d.items()), whatever the keys are -/
def EIt (h : Heap) (it d S : Addr) (i n ep : Nat) : Prop :=
  (i = 0 ∧ ∃ ok ov, IsItemIter h it d 0 n ep ok ov) ∨ ∃ ok ov a f oa, KdxIt h it d i n ep ok ov a f ∧ h.get? a = some oa ∧ a ≠ it ∧ a ≠ S
theorem EIt.keep {h h' : Heap} {it d S : Addr} {i n ep : Nat} (x : EIt h it d S i n ep) (hk : ∀ b o, b ≠ S → h.get? b = some o → h'.get? b = some o) (hI : it ≠ S) : EIt h' it d S i n ep := by
  rcases x with ⟨e, ok, ov, hit⟩ | ⟨ok, ov, a, f, oa, hit, ha, hai, haS⟩
  · exact .inl ⟨e, ok, ov, hk _ _ hI hit⟩
  · exact .inr ⟨ok, ov, a, f, oa, hk _ _ hI hit, hk _ _ haS ha, hai, haS⟩
/-- the pairs given out so far stand at as, above lo -/
structure Outs (es : Array DictEntry) (lo : Addr) (h : Heap) (as : List Addr) : Prop where
  rise : as.Pairwise (· < ·)
  above : ∀ a ∈ as, lo < a
  pairs : ∀ (j : Nat) (a : Addr), as[j]? = some a → ∃ en, es[j]? = some en ∧ h.get? a = some { cls := .type "tuple", data := .seq #[en.key, en.val] }
theorem Outs.there {es : Array DictEntry} {lo : Addr} {h : Heap} {as : List Addr} (g : Outs es lo h as) {a : Addr} (ha : a ∈ as) : a < h.objs.size := by
  obtain ⟨j, hj⟩ := List.mem_iff_getElem?.mp ha
  obtain ⟨_, _, e⟩ := g.pairs j a hj
  exact Heap.lt_size e
section
variable {P : Program} {w : World} {A : Around} {E : Value → Shared → Prop} {s : Shared} {R : Result → Shared → Prop} {es : Array DictEntry} {ep : Nat} {it r d S : Addr}
theorem e_item {i : Nat} {en : DictEntry} {Q : Option Value → Shared → Prop} (hst : EIt s.heap it d S i es.size ep) (hS : S < s.heap.objs.size) (hm : s.heap.DictRaw d es ep) (hx : es[i]? = some en)
    (hQ : ∀ h', EIt h' it d S (i + 1) es.size ep → h'.get? s.heap.objs.size = some { cls := .type "tuple", data := .seq #[en.key, en.val] } → h'.objs.size = s.heap.objs.size + 1 →
      (∀ b o, b ≠ it → s.heap.get? b = some o → h'.get? b = some o) → Q (some (.ref s.heap.objs.size)) { s with heap := h' }) :
    wpAny (model P w) A (pyNext (.ref it)) Q E s := by
  obtain ⟨hi, rfl⟩ := Array.getElem?_eq_some_iff.mp hx
  rcases hst with ⟨rfl, ok, ov, hit⟩ | ⟨ok, ov, a, f, oa, hit, ha, hai, haS⟩
  · exact wpAny_pyNext_items_item_raw hit hm hi fun h' hit' ht hz hkeep => hQ h' (.inr ⟨_, _, _, false, _, hit', ht, Nat.ne_of_gt (Heap.lt_size hit), Nat.ne_of_gt hS⟩) ht hz hkeep
  · exact wpAny_pyNext_items_item_out_raw hit ha hai hm hi fun h' hit' ht hz hkeep => hQ h' (.inr ⟨ok, ov, a, true, oa, hit', hkeep a oa hai ha, hai, haS⟩) ht hz hkeep
theorem e_done {i : Nat} {Q : Option Value → Shared → Prop} (hh : A.handled = none) (hst : EIt s.heap it d S i es.size ep) (hm : s.heap.DictRaw d es ep) (hx : es.size ≤ i)
    (hQ : ∀ h', Heap.ExtBut it s.heap h' → Q none { s with heap := h' }) : wpAny (model P w) A (pyNext (.ref it)) Q E s := by
  rcases hst with ⟨rfl, ok, ov, hit⟩ | ⟨ok, ov, a, f, oa, hit, _, _, _⟩
  · exact wpAny_pyNext_items_end_raw hh hit hm hx hQ
  · exact wpAny_pyNext_items_end_out_raw hh hit hm hx hQ
theorem e_loop {I : Addr} (hh : A.handled = none) (hSI : S < I) (hSd : d ≠ S) (hId : d ≠ I) (hn : es.size ≤ sizeLine) (res : Value) {h₁ : Heap}
    (hR : ∀ h' tk acc c as, (∀ b o, b ≠ S → b ≠ I → h₁.get? b = some o → h'.get? b = some o) → h'.get? S = some { cls := .type "list", dict := none, data := .seq acc c, slots := #[] } → as.length = es.size → Outs es I h' as →
      acc.toList = as.map Value.ref → R (.ok (.ret res)) { s with heap := h', toks := tk }) :
    ∀ (k i : Nat) (h : Heap) (tk c : Nat) (acc : Array Value) (as : List Addr), es.size - i = k → i ≤ es.size → EIt h I d S i es.size ep → h.DictRaw d es ep → (∀ b o, b ≠ S → b ≠ I → h₁.get? b = some o → h.get? b = some o) →
      h.get? S = some { cls := .type "list", dict := none, data := .seq acc c, slots := #[] } → acc.toList = as.map Value.ref → as.length = i → Outs es I h as → I < h.objs.size →
      codeAny (model P w) A (.builtin "list.extend.loop" ⟨[.ref S, .ref I, res], []⟩) R { s with heap := h, toks := tk } := by
  have hne : S ≠ I := Nat.ne_of_lt hSI
  intro k
  induction k with
  | zero =>
    intro i h tk c acc as hk hi hst hD hkeep hS hacc hal hG hIs
    refine codeAny_builtin PySem.F.entry_extend_loop ?_
    rw [Around.under_plainId PySem.F.plain_extend_loop _]
    show wpAny _ A.in1 (pyNext (.ref I) >>= _) _ _ _
    refine wpAny_bind (e_done (s := { s with heap := h, toks := tk }) (A := A.in1) hh hst hD (by omega) fun h' he => ?_)
    refine wpAny_pure (hR h' tk acc c as (fun b o h1 h2 e => he b o h2 (hkeep b o h1 h2 e)) (he S _ hne hS) (by omega) ⟨hG.rise, hG.above, fun j a hj => ?_⟩ hacc)
    obtain ⟨en, e1, e3⟩ := hG.pairs j a hj
    exact ⟨en, e1, he a _ (Nat.ne_of_gt (hG.above a (List.mem_of_getElem? hj))) e3⟩
  | succ k ih =>
    intro i h tk c acc as hk hi hst hD hkeep hS hacc hal hG hIs
    have hlt : i < es.size := by omega
    have hx : es[i]? = some es[i] := Array.getElem?_eq_getElem hlt
    have hsz : acc.size = i := by rw [← Array.length_toList, hacc, List.length_map, hal]
    refine codeAny_builtin PySem.F.entry_extend_loop ?_
    rw [Around.under_plainId PySem.F.plain_extend_loop _]
    show wpAny _ A.in1 (pyNext (.ref I) >>= _) _ _ _
    refine wpAny_bind (e_item (s := { s with heap := h, toks := tk }) (S := S) hst (Heap.lt_size hS) hD hx fun h' hst' ht hz hkp => ?_)
    dsimp only at ht hz hkp ⊢
    have hS' := hkp S _ hne hS
    have up : ∀ b o, b ≠ S → h'.get? b = some o → (h'.update S (Obj.mapSeq (·.push (Value.ref h.objs.size)))).get? b = some o := fun b o hb e => (Heap.get?_update_other _ _ (Ne.symm hb)).trans e
    have hSl : S < h.objs.size := Heap.lt_size hS
    show wpAny _ A.in1 (updateSeq S (·.push (Value.ref h.objs.size)) >>= _) _ _ _
    refine wpAny_bind ?_
    refine wpAny_updateSeq hS' rfl (wpAny_pure ⟨plainId_quiet PySem.F.plain_extend_loop _, ih (i + 1) _ tk _ (acc.push (Value.ref h.objs.size)) (as ++ [h.objs.size]) (by omega) hlt (hst'.keep up (Ne.symm hne)) (hD.at fun o e => up d o hSd (hkp d o hId e))
      (fun b o h1 h2 e => up b o h1 (hkp b o h2 (hkeep b o h1 h2 e))) (Heap.get?_update_self _ hS' rfl) (by rw [Array.toList_push, hacc, List.map_append]; rfl) (by rw [List.length_append, hal]; rfl) ⟨?_, ?_, ?_⟩ ?_⟩) (by rw [hsz]; omega) (by show (acc.push (Value.ref h.objs.size)).size ≤ sizeLine + 1; rw [Array.size_push, hsz]; omega)
    · refine List.pairwise_append.mpr ⟨hG.rise, List.pairwise_singleton _ _, fun a ha b hb => ?_⟩
      rw [List.mem_singleton.mp hb]
      exact hG.there ha
    · intro a ha
      rcases List.mem_append.mp ha with ha | ha
      · exact hG.above a ha
      · rw [List.mem_singleton.mp ha]; exact hIs
    · intro j b hj
      rcases Nat.lt_trichotomy j as.length with h1 | h1 | h1
      · rw [List.getElem?_append_left h1] at hj
        obtain ⟨en, e1, e3⟩ := hG.pairs j b hj
        have hb := hG.above b (List.mem_of_getElem? hj)
        exact ⟨en, e1, up b _ (Nat.ne_of_gt (Nat.lt_trans hSI hb)) (hkp b _ (Nat.ne_of_gt hb) e3)⟩
      · subst h1
        have hb : h.objs.size = b := by simpa using hj
        subst hb
        exact ⟨_, by rw [hal]; exact hx, up _ _ (Nat.ne_of_gt hSl) ht⟩
      · have hnone : (as ++ [h.objs.size])[j]? = none := List.getElem?_eq_none (by rw [List.length_append, List.length_singleton]; omega)
        rw [hnone] at hj; cases hj
    · have e : (h'.update S (Obj.mapSeq (·.push (Value.ref h.objs.size)))).get? h.objs.size = _ := up _ _ (Nat.ne_of_gt hSl) ht
      exact Nat.lt_trans hIs (Heap.lt_size e)
theorem e_extend (hh : A.handled = none) (hv : s.heap.IsItemsView r d) (hm : s.heap.DictRaw d es ep) (S : Addr) (hSr : S ≠ r) (hSd : d ≠ S) (res : Value) (c₀ : Nat) (hS : s.heap.get? S = some { cls := .type "list", data := .seq #[] c₀ })
    (hR : ∀ h' tk acc c as, (∀ b o, b ≠ S → s.heap.get? b = some o → h'.get? b = some o) → h'.get? S = some { cls := .type "list", dict := none, data := .seq acc c, slots := #[] } → as.length = es.size → Outs es s.heap.objs.size h' as →
      acc.toList = as.map Value.ref → R (.ok (.ret res)) { s with heap := h', toks := tk }) (hn : es.size ≤ sizeLine) :
    wpAny (model P w) A.in1 (Builtin.List.listExtendWith (.ref S) (.ref r) res)
      (fun fin s' => match fin with | .done f => R (.ok f) s' | .again c' => c'.quiet = true ∧ codeAny (model P w) A c' R s') (fun e s' => R (.error e) s') s := by
  have hSI : S < s.heap.objs.size := Heap.lt_size hS
  have hdI : d < s.heap.objs.size := let ⟨_, ho, _⟩ := hm; Heap.lt_size ho
  have key : ∀ (h : Heap) (c₁ tk : Nat), (∀ b o, b ≠ S → (s.heap.push { cls := .type "dict_itemiterator", data := .fields #[.none, .bool false, .ref d, .int 0 0, .int es.size 0, .int ep 0, .none, .none] }).get? b = some o → h.get? b = some o) →
      h.get? S = some { cls := .type "list", data := .seq #[] c₁ } → codeAny (model P w) A (.builtin "list.extend.loop" ⟨[.ref S, .ref s.heap.objs.size, res], []⟩) R { s with heap := h, toks := tk } := by
    intro h c₁ tk hk hS₁
    have hI := hk s.heap.objs.size _ (Nat.ne_of_gt hSI) (Heap.get?_push_size _ rfl)
    refine e_loop (es := es) (ep := ep) (s := s) (h₁ := s.heap) hh hSI hSd (Nat.ne_of_lt hdI) hn res (fun h' tk' acc c as hk' hS' hl hG hacc => hR h' tk' acc c as (fun b o hb e => hk' b o hb (Nat.ne_of_lt (Heap.lt_size e)) e) hS' hl hG hacc)
      es.size 0 h tk c₁ #[] [] (Nat.sub_zero _) (Nat.zero_le _) (.inl ⟨rfl, .none, .none, hI⟩) (hm.at fun o e => hk d o hSd (Heap.get?_push_of_some _ e)) (fun b o hb _ e => hk b o hb (Heap.get?_push_of_some _ e)) hS₁ rfl rfl
      ⟨List.Pairwise.nil, (fun _ ha => nomatch ha), (fun j a hj => by simp at hj)⟩ (Heap.lt_size hI)
  unfold Builtin.List.listExtendWith
  refine wpAny_bind (wpAny_typeOf (T := "dict_items") hv.typeIs ?_)
  have h1 : Builtin.List.listSameRef (.ref S) (.ref r) = false := by simp [Builtin.List.listSameRef, hSr]
  have h2 : (Value.type "dict_items" == Value.type "list") = false := by decide
  have h3 : (Value.type "dict_items" == Value.type "tuple") = false := by decide
  simp only [h1, h2, h3, Bool.or_false, Bool.false_eq_true, if_false]
  refine wpAny_bind (wpAny_pyIter_items_raw hv hm ?_)
  have hS₁ := Heap.get?_push_of_some { cls := .type "dict_itemiterator", data := .fields #[.none, .bool false, .ref d, .int 0 0, .int es.size 0, .int ep 0, .none, .none] } hS
  refine wpAny_bind (wpAny_holding (kdx_hint (let ⟨o, ho, hc, _⟩ := hv; ⟨o, Heap.get?_push_of_some _ ho, hc⟩) ?_))
  refine wpAny_ite_split (fun _ => ?_) (fun _ => wpAny_pure ⟨plainId_quiet PySem.F.plain_extend_loop _, key _ c₀ _ (fun b o _ e => e) hS₁⟩)
  refine wpAny_bind (wpAny_rule ?_)
  refine wpAny_bind ?_
  show wpAny _ _ (updateSeq S (·.push .none) >>= fun _ => updateSeq S (·.pop)) _ _ _
  refine wpAny_bind (wpAny_updateSeq hS₁ rfl ?_)
  have hS₂ := Heap.get?_update_self (Obj.mapSeq (·.push Value.none)) hS₁ rfl
  refine wpAny_updateSeq (hz := by seq_fits) hS₂ rfl ?_
  have hS₃ := Heap.get?_update_self (Obj.mapSeq (·.pop)) hS₂ rfl
  refine wpAny_pure ⟨plainId_quiet PySem.F.plain_extend_loop _, key _ _ _ (fun b o hb e => ?_) hS₃⟩
  exact (Heap.get?_update_other _ _ (Ne.symm hb)).trans ((Heap.get?_update_other _ _ (Ne.symm hb)).trans e)
theorem Outs.low {lo lo' : Addr} {h : Heap} {as : List Addr} (g : Outs es lo h as) (hl : lo' ≤ lo) : Outs es lo' h as := ⟨g.rise, fun a ha => Nat.lt_of_le_of_lt hl (g.above a ha), g.pairs⟩
theorem e_init (hh : A.handled = none) (hv : s.heap.IsItemsView r d) (hm : s.heap.DictRaw d es ep) (S : Addr) (hSr : S ≠ r) (hSd : d ≠ S) (hS : s.heap.get? S = some { cls := .type "list", data := .seq #[] })
    (hR : ∀ h' tk acc c as, (∀ b o, b ≠ S → s.heap.get? b = some o → h'.get? b = some o) → h'.get? S = some { cls := .type "list", dict := none, data := .seq acc c, slots := #[] } → as.length = es.size → Outs es S h' as →
      acc.toList = as.map Value.ref → R (.ok (.ret .none)) { s with heap := h', toks := tk }) (hn : es.size ≤ sizeLine) :
    wpAny (model P w) A.in1 (Builtin.«list.__init__» ⟨[.ref S, .ref r], []⟩)
      (fun fin s' => match fin with | .done f => R (.ok f) s' | .again c' => c'.quiet = true ∧ codeAny (model P w) A c' R s') (fun e s' => R (.error e) s') s := by
  show wpAny _ _ (do let old ← Builtin.List.listItems (.ref S); Builtin.List.listUpdate (.ref S) (fun _ => #[]); letGo old.toList.reverse; Builtin.List.listExtendWith (.ref S) (.ref r) .none) _ _ s
  refine wpAny_bind ?_
  unfold Builtin.List.listItems
  refine wpAny_bind (wpAny_seqItems hS rfl (wpAny_pure ?_))
  show wpAny _ _ (updateSeq S (fun _ => #[]) >>= fun _ => letGo (#[] : Array Value).toList.reverse >>= fun _ => Builtin.List.listExtendWith (.ref S) (.ref r) .none) _ _ s
  refine wpAny_bind (wpAny_updateSeq hS rfl ?_)
  have hS₂ := Heap.get?_update_self (Obj.mapSeq (fun _ => (#[] : Array Value))) hS rfl
  have oth : ∀ b o, b ≠ S → s.heap.get? b = some o → (s.heap.update S (Obj.mapSeq (fun _ => (#[] : Array Value)))).get? b = some o :=
    fun b o hb e => (Heap.get?_update_other _ _ (Ne.symm hb)).trans e
  refine wpAny_bind (wpAny_letGo ?_)
  refine e_extend (es := es) (ep := ep) hh (let ⟨o, ho, x⟩ := hv; ⟨o, oth r o hSr.symm ho, x⟩) (hm.at fun o e => oth d o hSd e) S hSr hSd .none _ hS₂ (fun h' tk acc c as hk hS' hl hG hacc => ?_) hn
  exact hR h' tk acc c as (fun b o hb e => hk b o hb (oth b o hb e)) hS' hl (hG.low (Nat.le_of_lt (Heap.lt_size hS₂))) hacc
theorem e_list {Q : Value → Shared → Prop} (hh : A.handled = none) (hv : s.heap.IsItemsView r d) (hm : s.heap.DictRaw d es ep) (hn : es.size ≤ sizeLine)
    (hQ : ∀ h' tk acc c as, (∀ b o, s.heap.get? b = some o → h'.get? b = some o) → h'.get? s.heap.objs.size = some { cls := .type "list", dict := none, data := .seq acc c, slots := #[] } → as.length = es.size → Outs es s.heap.objs.size h' as →
      acc.toList = as.map Value.ref → Q (.ref s.heap.objs.size) { s with heap := h', toks := tk }) :
    wpAny (model P w) A (call (.type "list") [.ref r]) Q E s := by
  refine callType_codes (Q₁ := fun obj s₁ => obj = .ref s.heap.objs.size ∧ s₁ = { s with heap := s.heap.push { cls := .type "list", data := .seq #[] } }) PySem.F.called_list (PySem.F.typeCall_list_1 _) PySem.F.entry_list_init
    (code_list_new _ ⟨rfl, rfl⟩) fun obj s₁ h₁ => ?_
  obtain ⟨rfl, rfl⟩ := h₁
  have hS : (s.heap.push { cls := .type "list", data := .seq #[] }).get? s.heap.objs.size = some { cls := .type "list", data := .seq #[] } := Heap.get?_push_size _ rfl
  have hr : r < s.heap.objs.size := let ⟨_, ho, _⟩ := hv; Heap.lt_size ho
  have hd : d < s.heap.objs.size := let ⟨_, ho, _⟩ := hm; Heap.lt_size ho
  refine ⟨⟨_, hS, rfl⟩, PySem.F.args_list_init_2 _ _, e_init (es := es) (ep := ep) (A := A.in1) hh (let ⟨o, ho, x⟩ := hv; ⟨o, Heap.get?_push_of_some _ ho, x⟩) (hm.at fun o e => Heap.get?_push_of_some _ e) _ (Nat.ne_of_gt hr) (Nat.ne_of_lt hd) hS (fun h' tk acc c as hk hS' hl hG hacc => ?_) hn⟩
  exact ⟨rfl, hQ h' tk acc c as (fun b o e => hk b o (Nat.ne_of_lt (Heap.lt_size e)) (Heap.get?_push_of_some _ e)) hS' hl hG hacc⟩
end
end MiG

namespace MiG
open PySem PySem.Spec PyProof.Rows PyProof.V L2 PySem.W
/-- a dict's entries as values: the keys' own tuples -/
def Ent (H : Hp) : HO → List (V × V) → Prop
  | .dK kvs, ps => ps = kvs.map fun p => (kV p.1, p.2)
  | .dT kvs, ps => Paired (fun (p : List Key × V) (q : V × V) => ∃ b, q.1 = .ref b ∧ H b = some (.tup (p.1.map kV)) ∧ q.2 = p.2) kvs ps
  | _, _ => False
def isDic : HO → Bool
  | .dK _ => true
  | .dT _ => true
  | _ => false
theorem ent_of {H : Hp} : ∀ {kvs : List (List Key × V)} {xs : List (List Key × Addr × Value)}, Paired (fun (p : List Key × V) (q : List Key × Addr × Value) => p.1 = q.1 ∧ H q.2.1 = some (.tup (p.1.map kV)) ∧ RelV p.2 q.2.2) kvs xs →
    ∃ ps : List (V × V), Paired (fun (p : List Key × V) (q : V × V) => ∃ b, q.1 = .ref b ∧ H b = some (.tup (p.1.map kV)) ∧ q.2 = p.2) kvs ps ∧ Paired (fun (q : V × V) (x : List Key × Addr × Value) => q.1 = .ref x.2.1 ∧ RelV q.2 x.2.2) ps xs
  | _, _, .nil => ⟨[], .nil, .nil⟩
  | _, _, .cons (a := p) (b := x) h t => by
    obtain ⟨ps, h1, h2⟩ := ent_of t
    exact ⟨(.ref x.2.1, p.2) :: ps, .cons ⟨x.2.1, rfl, h.2.1, rfl⟩ h1, .cons ⟨rfl, h.2.2⟩ h2⟩
theorem paired_back {α β : Type} {F : α → β → Prop} : ∀ {xs : List α} {ys : List β}, Paired F xs ys → ∀ {i : Nat} {y : β}, ys[i]? = some y → ∃ x, xs[i]? = some x ∧ F x y
  | _, _, .nil, i, y, h => by cases h
  | _, _, .cons r t, 0, y, h => by
    have e := Option.some.inj h
    subst e
    exact ⟨_, rfl, r⟩
  | _, _, .cons r t, i + 1, y, h => paired_back t h
theorem toList_at {α : Type} {es : Array α} {i : Nat} {x : α} (h : es[i]? = some x) : es.toList[i]? = some x := by rw [Array.getElem?_toList]; exact h
section
variable {X : Cx} {pins : List (Addr × Obj)} {σ : L2.St} {H : Hp} {s : Shared}
/-- the entries at a heap -/
theorem raw_of {P : Program} {w : World} {h : Heap} {d : Addr} {u : HO} (x : ObjOk P w H h d u) (hd : isDic u = true) :
    (d == sysModules) = false ∧ ∃ o es ep ps, h.get? d = some o ∧ o.ExactDict ∧ o.data = .dict es ep ∧ es.size ≤ sizeLine ∧ Ent H u ps ∧ es.size = ps.length ∧ ∀ (i : Nat) (en : DictEntry), es[i]? = some en → ∃ q, ps[i]? = some q ∧ RelV q.1 en.key ∧ RelV q.2 en.val := by
  cases u with
  | dK kvs =>
    obtain ⟨hz, hs, vs, kv, hdo⟩ := x
    obtain ⟨ep, hat⟩ := hdo.dictAt
    obtain ⟨es, ⟨o, ho, hx, hdt⟩, hsz, hes⟩ := hat.raw
    have lk : kvs.length = vs.length := Paired.length kv
    refine ⟨hs, o, es, ep, kvs.map (fun p : Key × V => (kV p.1, p.2)), ho, hx, hdt, by omega, rfl, by rw [List.length_map]; omega, fun i en e => ?_⟩
    obtain ⟨hi, rfl⟩ := Array.getElem?_eq_some_iff.mp e
    obtain ⟨p, hp⟩ : ∃ p, kvs[i]? = some p := ⟨kvs[i]'(by omega), List.getElem?_eq_getElem (by omega)⟩
    obtain ⟨q, g1, g2, g3⟩ := LiI.paired_get kv hp
    obtain ⟨k1, k2⟩ := hes i hi q.1 q.2 g1
    refine ⟨(kV p.1, p.2), by rw [List.getElem?_map, hp]; rfl, ?_, by rw [k2]; exact g3⟩
    rw [g2]
    exact relV_key (show keyIs q.1 es[i].key = true from k1)
  | dT kvs =>
    obtain ⟨hz, hs, xs, pr, o, es, ep, ho, hx, hdt, he, _⟩ := x
    have l1 : es.size = xs.length := by have := congrArg List.length he; simpa using this
    have l2 : kvs.length = xs.length := Paired.length pr
    obtain ⟨ps, p1, p2⟩ := ent_of pr
    have l3 : ps.length = xs.length := Paired.length p2
    refine ⟨hs, o, es, ep, ps, ho, hx, hdt, by omega, p1, by omega, fun i en e => ?_⟩
    have e1 := toList_at e
    rw [he, List.getElem?_map] at e1
    cases hx2 : xs[i]? with
    | none => rw [hx2] at e1; cases e1
    | some x =>
      rw [hx2] at e1
      have e2 : entryOfKey (tupleKind (mixKind P w)) x = en := Option.some.inj e1
      obtain ⟨q, g1, g2, g3⟩ := paired_back p2 hx2
      refine ⟨q, g1, ?_, ?_⟩
      · rw [g2, ← e2]; rfl
      · rw [← e2]; exact g3
  | _ => cases hd
/-- the pairs' tuples tracked at their addresses -/
def putP : Hp → List Addr → List (V × V) → Hp
  | H, a :: as, p :: ps => putP (upd H a (.tup [p.1, p.2])) as ps
  | H, _, _ => H
theorem putP_off {b : Addr} : ∀ (as : List Addr) (ps : List (V × V)) (H : Hp), b ∉ as → putP H as ps b = H b
  | [], _, _, _ => rfl
  | _ :: _, [], _, _ => rfl
  | a :: as, p :: ps, H, h => by
    show putP (upd H a (.tup [p.1, p.2])) as ps b = H b
    rw [putP_off as ps _ (fun z => h (List.mem_cons_of_mem _ z)), upd_ne (fun z => h (by rw [z]; exact List.mem_cons_self))]
theorem putP_at : ∀ (as : List Addr) (ps : List (V × V)) (H : Hp), as.length = ps.length → as.Nodup → Paired (fun (t : Addr) (p : V × V) => putP H as ps t = some (.tup [p.1, p.2])) as ps
  | [], [], _, _, _ => .nil
  | [], _ :: _, _, h, _ => by cases h
  | _ :: _, [], _, h, _ => by cases h
  | a :: as, p :: ps, H, h, hn => by
    have hn' := List.nodup_cons.mp hn
    have ih := putP_at as ps (upd H a (.tup [p.1, p.2])) (Nat.succ.inj h) hn'.2
    refine .cons ?_ ih
    show putP (upd H a (.tup [p.1, p.2])) as ps a = some (.tup [p.1, p.2])
    rw [putP_off as ps _ hn'.1, upd_same]
theorem laid_pairs {h' : Heap} {tk : Nat} {es : Array DictEntry} {ps : List (V × V)} {acc : Array Value} {c : Nat} {as : List Addr} (I : Inv X pins σ H s) (hz : es.size ≤ sizeLine) (hn : es.size = ps.length) (kv : ∀ (i : Nat) (en : DictEntry), es[i]? = some en → ∃ q, ps[i]? = some q ∧ RelV q.1 en.key ∧ RelV q.2 en.val)
    (hk : ∀ b o, s.heap.get? b = some o → h'.get? b = some o) (hS : h'.get? s.heap.objs.size = some { cls := .type "list", dict := none, data := .seq acc c, slots := #[] }) (hl : as.length = es.size) (hG : Outs es s.heap.objs.size h' as) (hacc : acc.toList = as.map Value.ref) :
    ∃ H' : Hp, (∀ b o, H b = some o → H' b = some o) ∧ H s.heap.objs.size = none ∧ (∀ t ∈ as, H t = none) ∧ s.heap.objs.size ∉ as ∧ H' s.heap.objs.size = some (.lst (as.map V.ref)) ∧ Paired (fun (t : Addr) (q : V × V) => H' t = some (.tup [q.1, q.2])) as ps ∧ Inv X pins σ H' { s with heap := h', toks := tk } := by
  have hSn : s.heap.objs.size ∉ as := fun z => Nat.lt_irrefl _ (hG.above _ z)
  have nd : as.Nodup := List.Pairwise.imp (fun {a b} (h : a < b) => Nat.ne_of_lt h) hG.rise
  have new : ∀ t ∈ as, H t = none := fun t ht => I.hok.fresh (Nat.le_of_lt (hG.above t ht))
  have newS : H s.heap.objs.size = none := I.hok.fresh (Nat.le_refl _)
  have atP := putP_at as ps (upd H s.heap.objs.size (.lst (as.map V.ref))) (by omega) nd
  have off : ∀ b, b ∉ as → b ≠ s.heap.objs.size → putP (upd H s.heap.objs.size (.lst (as.map V.ref))) as ps b = H b := fun b h1 h2 => by rw [putP_off as ps _ h1, upd_ne h2]
  have low : ∀ b o, s.heap.get? b = some o → b ∉ as ∧ b ≠ s.heap.objs.size := fun b o e => ⟨fun z => absurd (Heap.lt_size e) (Nat.not_lt.mpr (Nat.le_of_lt (hG.above b z))), Nat.ne_of_lt (Heap.lt_size e)⟩
  have kp : ∀ b u, H b = some u → (putP (upd H s.heap.objs.size (.lst (as.map V.ref))) as ps) b = some u := fun b u e => by
    rw [off b (fun z => by rw [new b z] at e; cases e) (fun z => by rw [z, newS] at e; cases e)]
    exact e
  have eS : putP (upd H s.heap.objs.size (.lst (as.map V.ref))) as ps s.heap.objs.size = some (.lst (as.map V.ref)) := by rw [putP_off as ps _ hSn, upd_same]
  refine ⟨putP (upd H s.heap.objs.size (.lst (as.map V.ref))) as ps, kp, newS, new, hSn, eS, atP, ?_⟩
  refine I.call' (ch := []) rfl ⟨fun b o q _ _ _ => hk b o q, fun b o q _ _ _ => ⟨o.slots, hk b o q⟩, fun b o q n _ => ?_, fun b o q _ => ⟨o, hk b o q⟩, fun b xs q => kp b _ q, fun b o u q => kp b _ q, fun b ps q => ⟨#[], by rw [kp b _ q]; simp⟩⟩ (fun b u q => ?_) I.bare fun b z => by simp at z
  · obtain ⟨z1, z2⟩ := low b o q
    rw [off b z1 z2]
    exact n
  · by_cases hb : b ∈ as
    · obtain ⟨j, pk, e1, e2, e3⟩ := LiI.paired_ix atP hb
      rw [e3] at q
      cases q
      obtain ⟨en, f1, f3⟩ := hG.pairs j b e1
      obtain ⟨qv, g1, g2, g3⟩ := kv j en f1
      rw [e2] at g1
      cases g1
      exact ⟨by show 2 ≤ sizeLine; decide, [en.key, en.val], .cons g2 (.cons g3 .nil), ⟨_, f3, rfl, _, rfl⟩⟩
    · by_cases hb2 : b = s.heap.objs.size
      · rw [hb2] at q ⊢
        rw [eS] at q
        cases q
        refine ⟨by rw [List.length_map]; omega, acc.toList, c, by rw [hacc]; exact LiI.vals_refs as, ?_⟩
        rw [Array.toArray_toList]
        exact hS
      · rw [off b hb hb2] at q
        exact (I.hok b u q).stay (fun d v _ y => hk d v y) (fun d y => kp d _ y) fun d xs y => kp d _ y
end
def rItemsA : V → Hp → VK → Prop := fun x H Q => ∃ (d : Addr) (u : HO), x = .ref d ∧ Rd H d u ∧ isDic u = true ∧
  ∀ (ps : List (V × V)) (H' : Hp) (p : Addr) (ts : List Addr), Ent H u ps → (∀ b o, H b = some o → H' b = some o) → H p = none → (∀ t ∈ ts, H t = none) → p ∉ ts → H' p = some (.lst (ts.map V.ref)) → Paired (fun (t : Addr) (q : V × V) => H' t = some (.tup [q.1, q.2])) ts ps → Q (.ref p) H'
def tListItemsA (te : TE) : TE := fun σ H Q => te σ H fun x H1 => rItemsA x H1 Q
section
variable {X : Cx} {e : Expr} {te : TE} {p apos cpos pos : Pos}
/-- list(e.items()) -/
theorem pe_listItemsA (hc : X.calm = true) (he : PE X e te) (hg : Gl X "list") (hm : X.mg "list" = none) (hbase : attributeBase e "items" X.env (eval e X.env) = eval e X.env) (hline : (apos.endLine == cpos.line) = true)
    (hs : starEach [.Call (.Attribute e "items" apos) [] [] cpos] X.env = (false, eval (.Call (.Attribute e "items" apos) [] [] cpos) X.env) :: starEach [] X.env := by rfl) :
    PE X (.Call (.Name "list" p) [.Call (.Attribute e "items" apos) [] [] cpos] [] pos) (tListItemsA te) := by
  refine ⟨fun pins s σ H Q I hq => ?_⟩
  refine wpAny_Call_Name_kw (ld_blt I hg hm (show bootBuiltins "list" = some (.type "list") by decide +kernel) ?_)
  refine PyProof.Rows.callWith_type1 ?_ hs rfl
  rw [hs]
  show wpAny _ _ (spliced ((false, eval (.Call (.Attribute e "items" apos) [] [] cpos) X.env) :: backTo pos (starEach [] X.env))) _ _ s
  refine Calls.spliced_cons ?_
  refine wpAny_Call_method (T := "dict") (id := "dict.items") hbase rfl hline F.plainAttrs_dict F.slot_dict_items F.type_dict_items (thn (he.run pins s σ H _ I hq) fun u s1 ⟨x, H1, I1, rx, d, ho, ex, hd, hdi, q⟩ => ?_)
  subst ex
  obtain rfl : u = Value.ref d := rx
  obtain ⟨hs0, o, es, ep, ps, hod, hx, hdt, hz, ent, hn, kv⟩ := raw_of (hd.ok I1.hok) hdi
  have hraw : s1.heap.DictRaw d es ep := ⟨o, hod, hx, hdt⟩
  have I2 : Inv X pins σ H1 { s1 with heap := s1.heap.push { cls := .type "dict_items", data := .fields #[.ref d] } } := I1.kept (t' := s1.toks) fun b ob q => Heap.get?_push_of_some _ q
  refine ⟨hraw.typeIs, ?_, ?_⟩
  · obtain ⟨c1, c2, c3⟩ := hx
    intro o' ho'
    cases ho'
    exact ⟨o, hod, c2⟩
  show wpAny _ _ (callWith cpos (.builtin "dict.items") [.ref d] [] []) _ X.xe s1
  refine method_meetsIn F.slot_dict_items F.entry_dict_items rfl (PySem.evalArgs_none ⟨rfl, hraw.typeIs, F.args_dict_items_1 _, _, meets_dict_items_raw d hs0, ⟨es, ep, hraw⟩, ?_⟩)
  refine Calls.spliced_nil ?_
  refine e_list (es := es) (ep := ep) (I1.ok.hd hc) ⟨_, Heap.get?_push_size _ rfl, rfl, rfl⟩ (hraw.at fun o e => Heap.get?_push_of_some _ e) hz fun h' tk acc c as hk hS hl hG hacc => ?_
  obtain ⟨H', k1, k2, k3, k4, k5, k6, J⟩ := laid_pairs (tk := tk) I2 hz hn kv hk hS hl hG hacc
  exact ⟨.ref _, H', J, rfl, q ps H' _ as ent k1 k2 k3 k4 k5 k6⟩
/-- what comes is locked -/
def tAfter (te : TE) : TE := fun σ H Q => te σ H fun x H1 => ∃ (d : Addr) (u : HO), x = .ref d ∧ ((∃ od, H1 d = some (.frz od u) ∧ Q x H1) ∨ (H1 d = some u ∧ Mut (some u) ∧ ∀ od, Q x (upd H1 d (.frz od u))))
theorem pe_after (he : PE X e te) : PE X e (tAfter te) := ⟨fun pins s σ H Q I hq => thn (he.run pins s σ H _ I hq) fun u s1 ⟨x, H1, I1, rx, d, ho, ex, q⟩ => by
  rcases q with ⟨od, h1, q⟩ | ⟨h1, mu, q⟩
  · exact ⟨x, H1, I1, rx, q⟩
  · obtain ⟨od, I2⟩ := I1.lock h1 mu
    exact ⟨x, _, I2, rx, q od⟩⟩
/-- the pairs of a locked dict of tuple keys, each a new tuple -/
def ItiT (d : Addr) (o : Obj) (kvs : List (List Key × V)) : It :=
  ⟨fun i H => H d = some (.frz o (.dT kvs)) ∧ i < kvs.length, fun i H x H' => ∃ (T : Addr) (k : List Key) (v : V) (q : Addr), kvs[i]? = some (k, v) ∧ x = .ref T ∧ H T = none ∧ H q = some (.tup (k.map kV)) ∧ H' = upd H T (.tup [.ref q, v]), fun i H => H d = some (.frz o (.dT kvs)) ∧ kvs.length ≤ i⟩
theorem frz_at {pins : List (Addr × Obj)} {σ : L2.St} {H : Hp} {s : Shared} {d : Addr} {o : Obj} {kvs : List (List Key × V)} {es : Array DictEntry} {ep : Nat} (hod : o.data = .dict es ep) (I : Inv X pins σ H s) (h : H d = some (.frz o (.dT kvs))) :
    s.heap.DictRaw d es ep ∧ es.size = kvs.length ∧ ∀ (i : Nat) (en : DictEntry), es[i]? = some en → ∃ (k : List Key) (v : V) (b : Addr), kvs[i]? = some (k, v) ∧ en.key = .ref b ∧ H b = some (.tup (k.map kV)) ∧ RelV v en.val := by
  obtain ⟨e0, x⟩ := I.hok d _ h
  obtain ⟨_, o1, es1, ep1, ps, h1, h2, h3, h4, ent, h5, h6⟩ := raw_of x rfl
  rw [e0] at h1
  cases h1
  rw [hod] at h3
  cases h3
  have l : kvs.length = ps.length := Paired.length ent
  refine ⟨⟨o, e0, h2, hod⟩, by omega, fun i en e => ?_⟩
  obtain ⟨q, g1, g2, g3⟩ := h6 i en e
  obtain ⟨p, f1, b, f2, f3, f4⟩ := paired_back ent g1
  refine ⟨p.1, p.2, b, f1, ?_, f3, by rw [← f4]; exact g3⟩
  rw [f2] at g2
  exact g2
section
variable {P : Program} {w : World} {K : PySem.W.Frag} {d : Addr} {o : Obj} {es : Array DictEntry} {ep : Nat}
theorem turn_itemsT {kvs : List (List Key × V)} {elts : List Expr} {kk : Nat} {tpos : Pos} (it : Addr) (hod : o.data = .dict es ep) :
    Turn P w K (.Tuple elts kk tpos) (ItiT d o kvs) [it] it (fun i h => ∃ ok ov, IsItemIter h it d i kvs.length ep ok ov) where
  mem := by simp
  obj := fun i h st b hb => by
    have e : b = it := by simpa using hb
    subst e
    obtain ⟨ok, ov, e⟩ := st
    exact ⟨_, e, fun v z => nomatch z⟩
  keep := fun i h h' st k => let ⟨ok, ov, e⟩ := st; ⟨ok, ov, k it (by simp) _ e⟩
  item := by
    intro X hP hw hK hc i pins s σ H E I hf st hg
    subst hP hw hK
    obtain ⟨hd, hi⟩ := hg
    obtain ⟨hraw, hsz, ent⟩ := frz_at hod I hd
    have hi2 : i < es.size := by omega
    obtain ⟨k, v, q, hkv, hkey, hq, rv⟩ := ent i es[i] (Array.getElem?_eq_getElem hi2)
    obtain ⟨ok, ov, he⟩ := st
    rw [← hsz] at he
    have hlt : it < s.heap.objs.size := Heap.lt_size he
    refine wpAny_pyNext_items_item_raw he hraw hi2 fun h' ho hT hz hk => ?_
    refine ⟨_, rfl, wpAny_letOwnedTupleGo_items (s := { s with heap := h' }) ho fun h'' he' sb => ?_⟩
    have hT2 : h''.get? s.heap.objs.size = some { cls := .type "tuple", data := .seq #[es[i].key, es[i].val] } := (sb.2 _ (Nat.ne_of_gt hlt)).trans hT
    have new : ObjOk X.prog X.w (upd H s.heap.objs.size (.tup [.ref q, v])) h'' s.heap.objs.size (.tup [.ref q, v]) :=
      ⟨by show 2 ≤ sizeLine; decide, [es[i].key, es[i].val], .cons hkey (.cons rv .nil), ⟨_, hT2, rfl, _, rfl⟩⟩
    have I1 : Inv X pins σ (upd H s.heap.objs.size (.tup [.ref q, v])) { s with heap := h'' } :=
      I.turnedNew (t' := s.toks) (ch := [it]) (fun b ob hb e => (sb.2 b (by simpa using hb)).trans (hk b ob (by simpa using hb) e)) hf (Nat.le_refl _) new
    refine ⟨.ref s.heap.objs.size, _, I1, rfl, ⟨_, k, v, q, hkv, rfl, I.hok.fresh (Nat.le_refl _), hq, rfl⟩, ⟨es[i].key, es[i].val, ?_⟩, fun b hb => ?_⟩
    · rw [← hsz]; exact he'
    · have e : b = it := by simpa using hb
      rw [e, upd_ne (Nat.ne_of_lt hlt)]
      exact (hf it (by simp)).1
  done := by
    intro X hP hw hK hc i pins s σ H E I hf st hg
    subst hP hw hK
    obtain ⟨hd, hi⟩ := hg
    obtain ⟨f0, f1, f2, f3, f4, f5⟩ := hf it (by simp)
    obtain ⟨hraw, hsz, ent⟩ := frz_at hod I hd
    obtain ⟨ok, ov, he⟩ := st
    rw [← hsz] at he
    exact wpAny_pyNext_items_end_raw (I.ok.hd hc) he hraw (by omega) fun h' eb => ⟨rfl, I.turned (t' := s.toks) (fun b ob hb e => eb b ob hb e) f0 f1 f3 f4 f5⟩
  self := fun A i s Q E st h => let ⟨_, _, e⟩ := st; PySem.W.kcp_self e h
end
/-- for .. in e.items(), e locked -/
def iItemsA (td : TE) : TI := fun σ H R => td σ H fun x H1 => ∃ d o, x = .ref d ∧ ((∃ kvs, H1 d = some (.frz o (.dK kvs)) ∧ R (Iti d o kvs) H1) ∨ ∃ kvs, H1 d = some (.frz o (.dT kvs)) ∧ R (ItiT d o kvs) H1)
theorem pi_itemsA {elts : List Expr} {kk : Nat} {tpos : Pos} (he : PE X e te) (hbase : attributeBase e "items" X.env (eval e X.env) = eval e X.env) (hline : (apos.endLine == cpos.line) = true) :
    PI X (.Tuple elts kk tpos) (.Call (.Attribute e "items" apos) [] [] cpos) (iItemsA te) := by
  refine ⟨fun pins s σ H R I h => ?_⟩
  refine wpAny_Call_method (T := "dict") (id := "dict.items") hbase rfl hline F.plainAttrs_dict F.slot_dict_items F.type_dict_items (thn (he.run pins s σ H _ I h) fun u s1 ⟨x, H1, I1, rx, d, o, ex, q⟩ => ?_)
  subst ex
  obtain rfl : u = Value.ref d := rx
  have I2 : Inv X pins σ H1 { s1 with heap := s1.heap.push { cls := .type "dict_items", data := .fields #[.ref d] } } := I1.kept (t' := s1.toks) fun b ob q => Heap.get?_push_of_some _ q
  rcases q with ⟨kvs, hd, q⟩ | ⟨kvs, hd, q⟩
  · obtain ⟨hs, hgd, hx, es, ep, vs, hdt, hsz, kv, hm⟩ := I1.frzK hd
    have hl : kvs.length = vs.length := Paired.length kv
    refine ⟨hm.dictOf.typeIs, hm.dictOf.mapOf.noDict, ?_⟩
    have fin : wpAny (model X.prog X.w) X.A (pyIter (.ref s1.heap.objs.size)) (PIE X pins σ (.Tuple elts kk tpos) R) X.xe { s1 with heap := s1.heap.push { cls := .type "dict_items", data := .fields #[.ref d] } } := by
      refine wpAny_pyIter_items (d := d) (knd := mixKind X.prog X.w) ⟨_, Heap.get?_push_size _ rfl, rfl, rfl⟩ (hm.push _) (pi_one (tk := s1.toks) I2 _ (turn_items _ hdt) ⟨.none, .none, ?_⟩ q)
      rw [hl]
      exact Heap.get?_push_size _ rfl
    show wpAny _ _ (callWith cpos (.builtin "dict.items") [.ref d] [] []) _ X.xe s1
    exact method_meetsIn F.slot_dict_items F.entry_dict_items rfl (PySem.evalArgs_none ⟨rfl, hm.dictOf.typeIs, F.args_dict_items_1 _, _, meets_dict_items (mixKind X.prog X.w) d hs, ⟨vs, hm.dictOf⟩, fin⟩)
  · obtain ⟨hs, hgd, hx, es, ep, hdt, hsz, _⟩ := I1.frzT hd
    have hraw : s1.heap.DictRaw d es ep := ⟨o, hgd, hx, hdt⟩
    refine ⟨hraw.typeIs, ?_, ?_⟩
    · obtain ⟨c1, c2, c3⟩ := hx
      intro o' ho'
      cases ho'
      exact ⟨o, hgd, c2⟩
    have fin : wpAny (model X.prog X.w) X.A (pyIter (.ref s1.heap.objs.size)) (PIE X pins σ (.Tuple elts kk tpos) R) X.xe { s1 with heap := s1.heap.push { cls := .type "dict_items", data := .fields #[.ref d] } } := by
      refine wpAny_pyIter_items_raw (d := d) ⟨_, Heap.get?_push_size _ rfl, rfl, rfl⟩ (hraw.at fun o e => Heap.get?_push_of_some _ e) (pi_one (tk := s1.toks) I2 _ (turn_itemsT _ hdt) ⟨.none, .none, ?_⟩ q)
      rw [← hsz]
      exact Heap.get?_push_size _ rfl
    show wpAny _ _ (callWith cpos (.builtin "dict.items") [.ref d] [] []) _ X.xe s1
    exact method_meetsIn F.slot_dict_items F.entry_dict_items rfl (PySem.evalArgs_none ⟨rfl, hraw.typeIs, F.args_dict_items_1 _, _, meets_dict_items_raw d hs, ⟨es, ep, hraw⟩, fin⟩)
end
end MiG

namespace MiG
open PySem PySem.Spec PyProof.Rows L2
open PySem.W (alike dataLt alike_unique maxD AlikeAll max_tuple_data)
section
variable {X : Cx}
/-- max of a tuple of alike data -/
def rMaxT (K : PySem.W.Frag) : List V → Hp → VK → Prop := fun xs H Q => ∃ (l : Addr) (vs : List V) (d : PyData) (ds : List PyData), xs = [.ref l] ∧ SqT K H l vs ∧ DpAll K H vs (d :: ds) ∧ AlikeAll (d :: ds) ∧ PyData.depthAll (d :: ds) ≤ 8 ∧
  ∀ (i : Nat) (v : V), vs[i]? = some v → (d :: ds)[i]? = some (maxD d ds) → Q v H
theorem cr_maxT (hc : X.calm = true) (hu : X.A.units + 64 < cLine) : CallR X (.builtin "max") (rMaxT X.K) := by
  intro pins s σ H xs us Q I r h
  obtain ⟨l, vs, d, ds, rfl, hl, hd, ha, hz, q⟩ := h
  rw [Vals.ref1 r]
  obtain ⟨its, rv, pl, _⟩ := I.tuple hl
  obtain ⟨as, rl⟩ := Dp.readsAll I (d :: ds) vs its hd rv
  refine max_tuple_data (prog := X.prog) (w := X.w) (I.ok.hd hc) (by obtain ⟨o, ho, hc, n, hd⟩ := pl; exact ⟨o, ho, hc, n, hd⟩) (by simpa using rl) ha (by omega) fun i v h' tk bs hv hr k => ?_
  obtain ⟨v', e, hv', he, dp, rel⟩ := dpAll_at (X := X) (pins := pins) (σ := σ) (s := s) (H := H) hd rv (i := i) (u := v) (by simpa using hv)
  obtain ⟨cs, r2⟩ := Dp.reads I e v' v dp rel
  have me : e ∈ d :: ds := List.mem_of_getElem? he
  have r3 : Reads h' v e cs := PyProof.Rows.Reads.keeps k r2
  have mm : maxD d ds ∈ d :: ds := by
    have : ∀ (ds : List PyData) (d : PyData), maxD d ds ∈ d :: ds := by
      intro ds
      induction ds with
      | nil => intro d; exact List.mem_cons_self
      | cons y ys ih =>
        intro d
        show maxD (if dataLt d y then y else d) ys ∈ _
        rcases List.mem_cons.mp (ih (if dataLt d y then y else d)) with z | z
        · rw [z]
          split
          · exact List.mem_cons_of_mem _ List.mem_cons_self
          · exact List.mem_cons_self
        · exact List.mem_cons_of_mem _ (List.mem_cons_of_mem _ z)
    exact this ds d
  have ee : e = maxD d ds := (alike_unique _ _ _ _ _ (ha.1 _ mm _ me) hr r3).symm
  exact ⟨v', H, I.kept k, rel, q i v' hv' (by rw [← ee]; exact he)⟩
end
end MiG

namespace MiG
open PySem PySem.Spec PyProof.Rows L2
section
variable {X : Cx}
/-- tuple(xs), known to the last sign -/
def rTupF (K : PySem.W.Frag) : List V → Hp → VK → Prop := fun xs H Q => ∃ p ys, xs = [.ref p] ∧ SqL K H p ys ∧ ∀ l (o : Obj), H l = none → o.dict = none → Q (.ref l) (upd H l (.frz o (.tup ys)))
theorem call_tupF : CallR X (.type "tuple") (rTupF X.K) := by
  intro pins s σ H xs us Q I r h
  obtain ⟨p, ys, rfl, hq, q⟩ := h
  obtain ⟨u, rfl, rx⟩ := vals1 r
  cases rx
  obtain ⟨its, r', pl, hz⟩ := I.list hq
  have hlen := r'.length
  refine call_tuple_list pl.isList (fun h' kp => ?_) (by simp only [List.size_toArray] <;> omega)
  have I1 : Inv X pins σ H { s with heap := h' } := I.kept (t' := s.toks) kp
  have hg : (h'.push { cls := .type "tuple", data := .seq its.toArray }).get? h'.objs.size = some { cls := .type "tuple", data := .seq its.toArray } := Heap.get?_push_size _ rfl
  have I2 : Inv X pins σ (upd H h'.objs.size (.frz { cls := .type "tuple", data := .seq its.toArray } (.tup ys))) { s with heap := h'.push { cls := .type "tuple", data := .seq its.toArray } } :=
    I1.laid (t' := s.toks) (fun b o e => Heap.get?_push_of_some _ e) (Nat.le_refl _) (show ObjOk X.prog X.w _ _ _ (.frz _ (.tup ys)) from ⟨hg, hz, its, r', IsTup.new _ _⟩)
  exact ⟨.ref h'.objs.size, _, I2, rfl, q _ _ (I1.hok.fresh (Nat.le_refl _)) rfl⟩
/-- t.index(x), t known to the last sign, its items and x flat -/
def rTix (K : PySem.W.Frag) (x : V) (xs : List V) (H : Hp) (Q : VK) : Prop := ∃ p ys y z j, x = V.ref p ∧ xs = [y] ∧ SqT K H p ys ∧ flatV y = true ∧ ys.all flatV = true ∧ ys[j]? = some z ∧ eqV z y = true ∧ (∀ m z', m < j → ys[m]? = some z' → eqV z' y = false) ∧ Q (.int (j : Nat)) H
theorem mt_tix : MtR X "tuple.index" (rTix X.K) := by
  intro pins s σ H x xs v us Q I rx rs h
  obtain ⟨p, ys, y, z, j, rfl, rfl, hq, fy, fs, hy, hz, hno, q⟩ := h
  cases rx
  obtain ⟨u, rfl, ry⟩ := vals1 rs
  obtain ⟨its, r, pl, hsz⟩ := I.tuple hq
  obtain ⟨⟨cls, dd, dt, sl⟩, ho, hc, n, hd⟩ := pl
  simp only at hc hd
  subst hc
  subst hd
  have hl : its.toArray.size = ys.length := by rw [List.size_toArray, ← r.length]
  have hj : j < its.toArray.size := by rw [hl]; exact (List.getElem?_eq_some_iff.mp hy).1
  have at' : ∀ (m : Nat) (hm : m < its.toArray.size), ∃ w, ys[m]? = some w ∧ eqU y its.toArray[m] = eqV w y := fun m hm => by
    have hm' : m < ys.length := by rw [← hl]; exact hm
    obtain ⟨u', hu, ru⟩ := r.get (i := m) (x := ys[m]) (by simp [hm'])
    refine ⟨ys[m], List.getElem?_eq_getElem hm', ?_⟩
    have e : its.toArray[m] = u' := by
      have e := (List.getElem?_eq_some_iff.mp hu).2
      rw [← e]; simp
    rw [e]
    exact eqU_of ru (List.all_eq_true.mp fs _ (List.getElem_mem hm'))
  refine call_meets PySem.F.slot_tuple_index ⟨_, ho, rfl⟩ PySem.F.entry_tuple_index (PySem.F.args_tuple_index_2 _ _) (_root_.TI.tuple_indexAt p its.toArray n dd sl u (eqU y) j hj ?_ ?_)
    ⟨ho, fun w hw => mem_eqAt ry fy r fs w (by simpa using hw), ⟨.int (j : Nat), H, I.tok _, ⟨_, rfl⟩, q⟩⟩
  · obtain ⟨w, h1, h2⟩ := at' j hj
    rw [hy] at h1
    cases h1
    rw [h2]; exact hz
  · intro m hm hmj
    obtain ⟨w, h1, h2⟩ := at' m hm
    rw [h2]; exact hno m w hmj h1
def tTix (K : PySem.W.Frag) (to : TE) (ta : TA) : TE := fun σ H Q => to σ H fun x H1 => (∃ p ob ys, x = V.ref p ∧ H1 p = some (.frz ob (.tup ys)) ∧ ob.dict = none) ∧ ta σ H1 fun xs H2 => rTix K x xs H2 Q
theorem pe_tix {o e : Expr} {es : List Expr} {to : TE} {t : TA} {apos cpos : Pos} (ho : PE X o to) (ha : PA X (e :: es) t) (hbase : attributeBase o "index" X.env (eval o X.env) = eval o X.env)
    (hfew : ((backTo cpos (starEach (e :: es) X.env)).all (fun x => !x.1) && (backToKw cpos (keywordEach [] X.env)).all (fun x => x.1.isSome)
      && decide ((e :: es).length + ([] : List Keyword).length + (if ([] : List Keyword).isEmpty then 0 else 1) < 30)) = true)
    (hline : (apos.endLine == cpos.line) = true) (hs : starEach (e :: es) X.env = (false, eval e X.env) :: starEach es X.env) (hplain : (backTo cpos (starEach es X.env)).any (·.1) = false) :
    PE X (.Call (.Attribute o "index" apos) (e :: es) [] cpos) (tTix X.K to t) := by
  refine ⟨fun pins s σ H Q I h => ?_⟩
  refine wpAny_Call_method_late hbase hfew hline rfl (thn (ho.run pins s σ H _ I h) fun v s1 ⟨x, H1, I1, r1, ty, q1⟩ => ?_)
  obtain ⟨p, ob, ys, rfl, hp, hd⟩ := ty
  cases r1
  obtain ⟨e1, hz, its, rv, ⟨o2, e2, c2, _⟩⟩ := I1.hok p _ hp
  rw [e1] at e2
  cases e2
  refine ⟨"tuple", "tuple.index", F.plainAttrs_tuple, F.slot_tuple_index, F.type_tuple_index, ⟨ob, e1, c2⟩, fun a z => by cases z; exact ⟨ob, e1, hd⟩, ?_⟩
  have hA := ha.run cpos pins s1 σ H1 _ I1 q1
  rw [hs] at hA ⊢
  refine Calls.callWith_builtin (by show (false || (backTo cpos (starEach es X.env)).any (·.1)) = false; rw [hplain] <;> rfl) (Calls.evalArgs_plain ?_)
  exact thn hA fun us s2 ⟨vs, H2, I2, r2, q2⟩ => mt_tix pins s2 σ H2 (.ref p) vs (.ref p) us Q I2 rfl r2 q2
end
end MiG

/-! An evaluator of plain data for the small Python of this program: terms, values, a store for what a def changes in place. -/
namespace Mi
open PySem
abbrev D := PyData
/-- what a def changes in place -/
inductive O where
  | lst (ds : List D)
  | dic (kvs : List (D × D))
  | tpl (ds : List D)
  | dead
/-- a value: plain data, or the number of an object of the store -/
inductive RV where
  | val (d : D)
  | ref (n : Nat)
abbrev En := List (Option RV)
abbrev Sto := List O
/-- an error: its class's number, its field -/
structure Exn where
  cls : Nat
  fld : Option D
inductive R (α : Type) where
  | ok (a : α) (s : Sto)
  | exc (x : Exn) (s : Sto)
  | bad
def R.bind {α β : Type} (r : R α) (f : α → Sto → R β) : R β := match r with
  | .ok a s => f a s
  | .exc x s => .exc x s
  | .bad => .bad
/-- operators -/
inductive Op | add | sub | mul | mod | fdiv | pow
  deriving DecidableEq
inductive Cm | eq | ne | lt | le | gt | ge | in_ | nin
  deriving DecidableEq
inductive Ty | int | bool | str | tuple | list
  deriving DecidableEq
/-- built-ins by name, methods by name, what a loop walks -/
inductive Bi | len | list | tuple | int | str | max | min | sorted | lenset | sortset | lrange | maxt | minl | ltup
  deriving DecidableEq
inductive Me | append | pop | popAt | index | tindex | sindex | get | setdefault | join | split | count | find
  deriving DecidableEq
inductive It | plain | range | enum | items | zip | keys | litems
  deriving DecidableEq
inductive Ck | plain | keep
  deriving DecidableEq
inductive T where
  | nil
  | cons (a b : T)
  | var (i : Nat)
  | mv (i : Nat)
  | lit (d : D)
  | tup (es : T)
  | lst (es : T)
  | dic (kvs : T)
  | new (e : T)
  | op (o : Op) (a b : T)
  | neg (a : T)
  | not_ (a : T)
  | tr (a : T)
  | trb (a : T)
  | and_ (a b : T)
  | or_ (a b : T)
  | cmp (c : Cm) (a b : T)
  | chain (c1 c2 : Cm) (a b e : T)
  | inl (neg : Bool) (a : T) (ds : List D)
  | isn (a : T)
  | nisn (a : T)
  | isb (b : Bool) (a : T)
  | nisb (b : Bool) (a : T)
  | ite (c a b : T)
  | idx (a i : T)
  | slc (a lo hi : T)
  | call (f : Nat) (es : T)
  | bi (b : Bi) (es : T)
  | mth (m : Me) (o es : T)
  | isi (a : T) (ts : List Ty)
  | comp (k : Ck) (tg : T) (w : It) (it : T) (ifs : T) (elt : T) (own : List Nat)
  | comp2 (k : Ck) (tg : T) (w : It) (it : T) (tg2 : T) (w2 : It) (it2 : T) (elt : T) (own : List Nat)
  | dcomp (tg : T) (w : It) (it : T) (k v : T) (own : List Nat)
  | gen (all : Bool) (x : Nat) (it : T) (elt : T)
  | gen2 (all : Bool) (x : Nat) (it : T) (y : Nat) (it2 : T) (elt : T)
  | asg (tg e : T)
  | par (ts es : T)
  | frz (i : Nat)
  | aug (i : Nat) (o : Op) (e : T)
  | augs (o i : T) (p : Op) (e : T)
  | if_ (c a b : T)
  | whl (c b : T)
  | for_ (tg : T) (w : It) (it : T) (b : T)
  | ret (e : T)
  | xpr (e : T)
  | rais (c : Nat) (es : T)
  | try_ (b : T) (c : Nat) (h : T)
  | pass | brk | cnt
  | tname (i : Nat)
  | ttup (ts : T)
  | tsub (o i : T)
inductive Fl where
  | nx (e : En)
  | rt (v : RV)
  | bk (e : En)
  | ct (e : En)
/-! ### plain data -/
def sizeOk (n : Nat) : Bool := decide (n ≤ 16777216)
/-- where truth is told -/
def truthV : D → Option Bool
  | .none => some false
  | .bool b => some b
  | .int i => some (decide (i ≠ 0))
  | .str s => if sizeOk s.length then some (decide (s.length ≠ 0)) else none
  | .list xs => some (!xs.isEmpty)
  | .tuple xs => some (!xs.isEmpty)
  | .dict _ => none
def boolI (b : Bool) : Int := if b then 1 else 0
mutual
def deq : D → D → Bool
  | .none, .none => true
  | .bool a, .bool b => a == b
  | .bool a, .int j => decide (boolI a = j)
  | .int i, .bool b => decide (i = boolI b)
  | .int i, .int j => decide (i = j)
  | .str x, .str y => x == y
  | .list xs, .list ys => deqs xs ys
  | .tuple xs, .tuple ys => deqs xs ys
  | _, _ => false
def deqs : List D → List D → Bool
  | [], [] => true
  | x :: xs, y :: ys => deq x y && deqs xs ys
  | _, _ => false
end
end Mi
namespace Mi
open PySem
/-- where == is told: no dict in it, one side not deeply nested -/
def eqOk (a b : D) : Bool := PyData.canLay0 a && (PyData.canLay0 b && (decide (PyData.depth a ≤ 60) || decide (PyData.depth b ≤ 60)))
/-- .. of a value and the items of a list -/
def eqOks (x : D) (ys : List D) : Bool := (PyData.canLay0 x && decide (PyData.depth x ≤ 60)) && (PyData.canLayAll0 ys && decide (PyData.depthAll ys ≤ 60))
def allInt : List D → Bool
  | [] => true
  | .int _ :: xs => allInt xs
  | _ :: _ => false
/-- flat: no object in it -/
def atom : D → Bool
  | .none => true
  | .bool _ => true
  | .int _ => true
  | .str _ => true
  | _ => false
def atoms : List D → Bool
  | [] => true
  | x :: xs => atom x && atoms xs
/-! ### keys: whole numbers and texts, or tuples of such -/
def keyA : D → Bool
  | .int _ => true
  | .str _ => true
  | _ => false
def keyT : D → Bool
  | .tuple xs => xs.all keyA
  | _ => false
def keysA : List (D × D) → Bool
  | [] => true
  | (k, _) :: r => keyA k && keysA r
def keysT : List (D × D) → Bool
  | [] => true
  | (k, _) :: r => keyT k && keysT r
/-- k fits the dict's keys -/
def keyOk (kvs : List (D × D)) (k : D) : Bool := (keyA k && keysA kvs) || (keyT k && keysT kvs)
def look : List (D × D) → D → Option D
  | [], _ => none
  | (k, v) :: r, x => if deq k x then some v else look r x
def put (kvs : List (D × D)) (x y : D) : List (D × D) := if (kvs.any fun p => deq p.1 x) = true then kvs.map (fun p => if deq p.1 x = true then (p.1, y) else p) else kvs ++ [(x, y)]
def puts : List (D × D) → List (D × D) → List (D × D)
  | kvs, [] => kvs
  | kvs, (k, v) :: r => puts (put kvs k v) r
/-! ### order -/
mutual
def dlt : D → D → Bool
  | .int i, .int j => decide (i < j)
  | .tuple xs, .tuple ys => dlts xs ys
  | _, _ => false
def dlts : List D → List D → Bool
  | [], [] => false
  | [], _ :: _ => true
  | _ :: _, [] => false
  | x :: xs, y :: ys => if deq x y then dlts xs ys else dlt x y
end
mutual
/-- of one shape: whole numbers, tuples of such place by place, of any lengths -/
def shp : D → D → Bool
  | .int _, .int _ => true
  | .tuple xs, .tuple ys => shps xs ys
  | _, _ => false
def shps : List D → List D → Bool
  | [], _ => true
  | _, [] => true
  | x :: xs, y :: ys => shp x y && shps xs ys
end
def ins1 (x : D) : List D → List D
  | [] => [x]
  | y :: r => if dlt y x then y :: ins1 x r else x :: y :: r
def isort : List D → List D
  | [] => []
  | x :: r => ins1 x (isort r)
def has (x : D) : List D → Bool
  | [] => false
  | y :: r => deq y x || has x r
def dedup : List D → List D
  | [] => []
  | x :: r => if has x r then dedup r else x :: dedup r
/-- any two are alike -/
def pairsA (xs : List D) : Bool := xs.all fun x => xs.all fun y => PySem.W.alike x y
def someD : D → Bool
  | .none => false
  | _ => true
/-- where an extreme of them is told -/
def bestOk (xs : List D) : Bool := pairsA xs && (xs.all someD && (decide (PyData.depthAll xs ≤ 8) && PyData.canLayAll0 xs))
def tupNE : D → Bool
  | .tuple (_ :: _) => true
  | _ => false
/-- each before the later ones -/
def strictly : List D → Bool
  | [] => true
  | x :: r => r.all (fun y => PySem.W.dataLt x y && !PySem.W.dataLt y x) && strictly r
/-- sorted(set(xs)) -/
def sorS (xs : List D) : Option (List D) := if xs.all MiG.nd && (xs.all tupNE && (decide (xs.length < 64) && (decide (PyData.depthAll xs ≤ 6) && (pairsA xs && (PyData.canLayAll0 xs &&
    (strictly (isort (dedup xs)) && ((isort (dedup xs)).all (fun x => has x xs) && xs.all (fun x => has x (isort (dedup xs)))))))))) then some (isort (dedup xs)) else none
/-- sorted(xs) -/
def sorL (xs : List D) : Option (List D) := if xs.all MiG.nd && (xs.all tupNE && (decide (PyData.depthAll xs ≤ 6) && (pairsA xs && (PyData.canLayAll0 xs && strictly (isort xs))))) then some (isort xs) else none
def place (x : D) : List D → Nat → Option Nat
  | [], _ => none
  | y :: r, n => if deq y x then some n else place x r (n + 1)
/-! ### places -/
abbrev ixOf := L2.ixN
abbrev nth {α : Type} (xs : List α) (i : Int) : Option α := L2.atI xs i
def cutL {α : Type} (xs : List α) (lo hi : Option Int) : List α := (xs.drop (HT.sIx xs.length 0 lo)).take (HT.sIx xs.length xs.length hi - HT.sIx xs.length 0 lo)
def rep {α : Type} (xs : List α) (n : Nat) : List α := (List.replicate n xs).flatten
/-! ### operators -/
def inside (i : Int) : Bool := decide (-4611686018427387904 ≤ i) && decide (i < 4611686018427387904)
def small (i : Int) : Bool := decide (-18446744073709551616 < i) && decide (i < 18446744073709551616)
def cps (s : Str) : List Nat := s.cps.toList
def ofCps (l : List Nat) : Str := ⟨l.toArray⟩
def bop : Op → D → D → Option D
  | .add, .int i, .int j => some (.int (i + j))
  | .add, .str x, .str y => if sizeOk (x.length + y.length) then some (.str (x ++ y)) else none
  | .add, .list xs, .list ys => if sizeOk (xs.length + ys.length) then some (.list (xs ++ ys)) else none
  | .add, .tuple xs, .tuple ys => if sizeOk (xs.length + ys.length) then some (.tuple (xs ++ ys)) else none
  | .sub, .int i, .int j => some (.int (i - j))
  | .mul, .int i, .int j => if small i || small j then some (.int (i * j)) else none
  | .mul, .list xs, .int j => if inside j && sizeOk (xs.length * j.toNat) then some (.list (rep xs j.toNat)) else none
  | .mul, .tuple xs, .int j => if inside j && sizeOk (xs.length * j.toNat) then some (.tuple (rep xs j.toNat)) else none
  | .mod, .int i, .int j => if 0 < j then some (.int (i % j)) else none
  | .fdiv, .int i, .int j => if 0 < j && j < 1073741824 then some (.int (i / j)) else none
  | .pow, .int i, .int j => if 0 ≤ j && (j ≤ 1000 && small i) then some (.int (i ^ j.toNat)) else none
  | _, _, _ => none
def inOk (c x : D) : Bool := match c with
  | .list ys => eqOks x ys
  | .tuple ys => atom x && atoms ys
  | .dict kvs => keyOk kvs x
  | .str _ => (match x with | .str z => decide (z.cps.size = 1) | _ => false)
  | _ => false
def isIn (c x : D) : Bool := match c with
  | .list ys => has x ys
  | .tuple ys => has x ys
  | .dict kvs => (look kvs x).isSome
  | .str y => (match x with | .str z => decide (z.cps.getD 0 0 ∈ cps y) | _ => false)
  | _ => false
def cop : Cm → D → D → Option Bool
  | .eq, a, b => if eqOk a b then some (deq a b) else none
  | .ne, a, b => if eqOk a b then some (!deq a b) else none
  | .lt, .int i, .int j => some (decide (i < j))
  | .le, .int i, .int j => some (decide (i ≤ j))
  | .gt, .int i, .int j => some (decide (j < i))
  | .ge, .int i, .int j => some (decide (j ≤ i))
  | .in_, a, b => if inOk b a then some (isIn b a) else none
  | .nin, a, b => if inOk b a then some (!isIn b a) else none
  | _, _, _ => none
def item (c i : D) : Option D := match c, i with
  | .list xs, .int i => nth xs i
  | .tuple xs, .int i => nth xs i
  | .str x, .int i => if sizeOk x.length then (nth (cps x) i).map fun c => .str (ofCps [c]) else none
  | .dict kvs, k => if keyOk kvs k then look kvs k else none
  | _, _ => none
def cut (c : D) (lo hi : Option Int) : Option D := match c with
  | .list xs => some (.list (cutL xs lo hi))
  | .tuple xs => some (.tuple (cutL xs lo hi))
  | .str x => if sizeOk x.length then some (.str (L2.cutS x lo hi)) else none
  | _ => none
def lenOf : D → Option Int
  | .list xs => some xs.length
  | .tuple xs => some xs.length
  | .str x => if sizeOk x.length then some x.length else none
  | .dict kvs => some kvs.length
  | _ => none
def isTy : D → Ty → Bool
  | .int _, .int => true
  | .bool _, .int => true
  | .bool _, .bool => true
  | .str _, .str => true
  | .tuple _, .tuple => true
  | .list _, .list => true
  | _, _ => false
def enumFrom : Nat → List D → List D
  | _, [] => []
  | n, x :: r => .tuple [.int n, x] :: enumFrom (n + 1) r
def rangeL (lo : Int) : Nat → List D
  | 0 => []
  | n + 1 => .int lo :: rangeL (lo + 1) n
def zipL : List D → List D → List D
  | x :: xs, y :: ys => .tuple [x, y] :: zipL xs ys
  | _, _ => []
def signs (s : Str) : List D := (cps s).map fun c => .str (ofCps [c])
/-- what is walked, from the values of the written arguments -/
def walk : It → List D → Option (List D)
  | .plain, [.list xs] => some xs
  | .plain, [.tuple xs] => some xs
  | .plain, [.str s] => some (signs s)
  | .keys, [.dict kvs] => some (kvs.map (·.1))
  | .items, [.dict kvs] => some (kvs.map fun p => .tuple [p.1, p.2])
  | .litems, [.dict kvs] => some (kvs.map fun p => .tuple [p.1, p.2])
  | .enum, [.list xs] => some (enumFrom 0 xs)
  | .enum, [.tuple xs] => some (enumFrom 0 xs)
  | .enum, [.str s] => some (enumFrom 0 (signs s))
  | .zip, [.tuple xs, .tuple ys] => some (zipL xs ys)
  | .range, [.int j] => if inside j then some (rangeL 0 j.toNat) else none
  | .range, [.int i, .int j] => if inside i && inside j then some (rangeL i (j - i).toNat) else none
  | _, _ => none
def strsOf : List D → Option (List Str)
  | [] => some []
  | .str x :: r => (strsOf r).map (x :: ·)
  | _ => none
def sumLen : List Str → Nat
  | [] => 0
  | x :: r => x.length + sumLen r
def alls (p : D → D → Bool) : List D → Bool
  | [] => true
  | x :: r => r.all (p x) && alls p r
def sortOk (xs : List D) : Bool := alls shp xs && (xs.all (fun x => shp x x) && decide (PyData.depthAll xs ≤ 8))
def blt : Bi → List D → Option D
  | .len, [d] => (lenOf d).map .int
  | .lrange, [.int j] => if inside j && sizeOk j.toNat then some (.list (rangeL 0 j.toNat)) else none
  | .list, [.list xs] => some (.list xs)
  | .list, [.tuple xs] => some (.list xs)
  | .list, [.dict kvs] => some (.list (kvs.map (·.1)))
  | .tuple, [.list xs] => some (.tuple xs)
  | .tuple, [.tuple xs] => some (.tuple xs)
  | .ltup, [.list xs] => some (.tuple xs)
  | .int, [.int i] => some (.int i)
  | .int, [.bool b] => some (.int (boolI b))
  | .str, [.int i] => if i.natAbs < 1000000 then some (.str (toString i)) else none
  | .max, [.int i, .int j] => some (.int (if j > i then j else i))
  | .max, [.int i, .int j, .int k] => some (.int (if k > (if j > i then j else i) then k else (if j > i then j else i)))
  | .maxt, [.tuple (x :: r)] => if bestOk (x :: r) then some (PySem.W.maxD x r) else none
  | .min, [.int i, .int j] => some (.int (if j < i then j else i))
  | .minl, [.list (x :: r)] => if bestOk (x :: r) then some (PySem.W.minD x r) else none
  | .sorted, [.list xs] => (sorL xs).map .list
  | .lenset, [.list xs] => if decide (xs.length < 4000) && allInt xs then some (.int (dedup xs).length) else none
  | .lenset, [.tuple xs] => if decide (xs.length < 4000) && allInt xs then some (.int (dedup xs).length) else none
  | .sortset, [.list xs] => (sorS xs).map .list
  | _, _ => none
/-- a method that changes nothing -/
def mth0 : Me → D → List D → Option D
  | .index, .list xs, [x] => if eqOks x xs then (place x xs 0).map fun n => .int n else none
  | .tindex, .tuple xs, [x] => if atom x && atoms xs then (place x xs 0).map fun n => .int n else none
  | .sindex, .str s, [.str z] => if 0 ≤ Txt.find s z then some (.int (Txt.find s z)) else none
  | .get, .dict kvs, [k] => if keyOk kvs k && !kvs.isEmpty then some ((look kvs k).getD .none) else none
  | .join, .str s, [.list xs] => (match strsOf xs with
    | some zs => if sizeOk (sumLen zs + zs.length * s.length) then some (.str (Txt.join s zs)) else none
    | none => none)
  | _, _, _ => none
/-! ### the store -/
def content (st : Sto) : RV → Option D
  | .val d => some d
  | .ref n => match st[n]? with
    | some (.lst ds) => some (.list ds)
    | some (.dic kvs) => some (.dict kvs)
    | _ => none
/-- .. of a tuple that is known to the last sign, too -/
def contentT (st : Sto) : RV → Option D
  | .val d => some d
  | .ref n => match st[n]? with
    | some (.lst ds) => some (.list ds)
    | some (.dic kvs) => some (.dict kvs)
    | some (.tpl ds) => some (.tuple ds)
    | _ => none
def isTi : Me → Bool
  | .tindex => true
  | _ => false
/-- tuple(xs), known to the last sign -/
def isLt : T → Bool
  | .bi .ltup _ => true
  | _ => false
/-- fresh data for an object of its own -/
def newR (t : Bool) (d : D) (st : Sto) : R RV := match d with
  | .list ds => .ok (.ref st.length) (st ++ [.lst ds])
  | .tuple ds => if t then .ok (.ref st.length) (st ++ [.tpl ds]) else .bad
  | _ => .bad
/-- a method that changes its object -/
def mth1 : Me → O → List D → Option (D × O)
  | .append, .lst xs, [x] => if sizeOk (xs.length + 1) then some (.none, .lst (xs ++ [x])) else none
  | .pop, .lst xs, [] => (match xs.getLast? with
    | some x => some (x, .lst xs.dropLast)
    | none => none)
  | .popAt, .lst xs, [.int i] => if inside i then (match ixOf xs.length i with
    | some j => (match xs[j]? with
      | some x => some (x, .lst (xs.eraseIdx j))
      | none => none)
    | none => none) else none
  | .setdefault, .dic kvs, [k, x] => if keyOk kvs k && sizeOk (kvs.length + 1) then (match look kvs k with
    | some v => some (v, .dic kvs)
    | none => some (x, .dic (put kvs k x))) else none
  | _, _, _ => none
def changes : Me → Bool
  | .append => true
  | .pop => true
  | .popAt => true
  | .setdefault => true
  | _ => false
/-- o[i] = x -/
def setO : O → D → D → Option O
  | .lst xs, .int i, x => (ixOf xs.length i).map fun j => .lst (xs.set j x)
  | .dic kvs, k, x => if keyOk kvs k && sizeOk (kvs.length + 1) then some (.dic (put kvs k x)) else none
  | _, _, _ => none
/-! ### the evaluator -/
structure Cn where
  call : Nat → List RV → Sto → R RV
  wf : Nat
/-- the object is of the method's type -/
def mthAt (m : Me) (st : Sto) (x : RV) : Bool := if isTi m then (match x with
    | .ref n => (match st[n]? with
      | some (.tpl _) => true
      | _ => false)
    | .val _ => false) else match m, content st x with
  | .append, some (.list _) => true
  | .pop, some (.list _) => true
  | .popAt, some (.list _) => true
  | .index, some (.list _) => true
  | .sindex, some (.str _) => true
  | .setdefault, some (.dict _) => (match x with | .ref _ => true | .val _ => false)
  | .get, some (.dict _) => (match x with | .ref _ => true | .val _ => false)
  | .join, some (.str _) => true
  | .split, some (.str _) => true
  | .count, some (.str _) => true
  | .find, some (.str _) => true
  | .count, some (.list _) => true
  | _, _ => false
/-- a method is called -/
def mthR (m : Me) (x : RV) (ds : List D) (st : Sto) : R RV := if changes m then (match x with
    | .ref n => (match st[n]? with
      | some o => (match mth1 m o ds with
        | some (d, o') => .ok (.val d) (st.set n o')
        | none => .bad)
      | none => .bad)
    | .val _ => .bad)
  else (match (if isTi m then contentT st x else content st x) with
    | some x => (match mth0 m x ds with
      | some d => .ok (.val d) st
      | none => .bad)
    | none => .bad)
def ofOpt {α : Type} (s : Sto) : Option α → R α
  | some a => .ok a s
  | none => .bad
def wipeE (env : En) : List Nat → En
  | [] => env
  | i :: r => wipeE (env.set i none) r
/-- `in` wants a plain value at its left -/
def inL : Cm → RV → Bool
  | .in_, .ref _ => false
  | .nin, .ref _ => false
  | _, _ => true
def vals (st : Sto) : List RV → Option (List D)
  | [] => some []
  | .val d :: r => (vals st r).map (d :: ·)
  | .ref n :: r => match content st (.ref n) with
    | some d => (vals st r).map (d :: ·)
    | none => none
/-- .. with tuples known to the last sign -/
def valsT (st : Sto) : List RV → Option (List D)
  | [] => some []
  | r :: rs => match contentT st r with
    | some d => (valsT st rs).map (d :: ·)
    | none => none
def isMx : Bi → Bool
  | .maxt => true
  | _ => false
def valsB (b : Bi) (st : Sto) (vs : List RV) : Option (List D) := if isMx b then valsT st vs else vals st vs
/-- all plain -/
def pures : List RV → Option (List D)
  | [] => some []
  | .val d :: r => (pures r).map (d :: ·)
  | .ref _ :: _ => none
def pairUp : List D → Option (List (D × D))
  | [] => some []
  | k :: v :: r => (pairUp r).map ((k, v) :: ·)
  | _ => none
def loopW (c : En → Sto → R Bool) (b : En → Sto → R Fl) : Nat → En → Sto → R Fl
  | 0, _, _ => .bad
  | n + 1, env, st => (c env st).bind fun t st => if t then (b env st).bind fun f st => (match f with
    | .nx env => loopW c b n env st
    | .ct env => loopW c b n env st
    | .bk env => .ok (.nx env) st
    | .rt v => .ok (.rt v) st) else .ok (.nx env) st
def loopF (b : D → En → Sto → R Fl) : List D → En → Sto → R Fl
  | [], env, st => .ok (.nx env) st
  | x :: r, env, st => (b x env st).bind fun f st => match f with
    | .nx env => loopF b r env st
    | .ct env => loopF b r env st
    | .bk env => .ok (.nx env) st
    | .rt v => .ok (.rt v) st
/-- the list at n of the store gets one more -/
def push1 (n : Nat) (d : D) (st : Sto) : R Unit := match st[n]? with
  | some (.lst acc) => if sizeOk (acc.length + 1) then .ok () (st.set n (.lst (acc ++ [d]))) else .bad
  | _ => .bad
/-- a comprehension's items, into the list at n -/
def loopC (n : Nat) (b : D → Sto → R (Option D)) : List D → Sto → R Unit
  | [], st => .ok () st
  | x :: r, st => (b x st).bind fun o st => match o with
    | some d => (push1 n d st).bind fun _ st => loopC n b r st
    | none => loopC n b r st
/-- .. of two clauses -/
def loopC2 (b : D → Sto → R Unit) : List D → Sto → R Unit
  | [], st => .ok () st
  | x :: r, st => (b x st).bind fun _ st => loopC2 b r st
/-- a dict comprehension's pairs, into the dict at n -/
def loopD (n : Nat) (b : D → Sto → R (D × D)) : List D → Sto → R Unit
  | [], st => .ok () st
  | x :: r, st => (b x st).bind fun p st => match st[n]? with
    | some (.dic acc) => if keyOk acc p.1 && sizeOk (acc.length + 1) then loopD n b r (st.set n (.dic (put acc p.1 p.2))) else .bad
    | _ => .bad
/-- all, any: where it ends -/
def loopG (all : Bool) (b : D → Sto → R Bool) : List D → Sto → R (Option Bool)
  | [], st => .ok none st
  | x :: r, st => (b x st).bind fun t st => if t = all then loopG all b r st else .ok (some t) st
def loopG2 (b : D → Sto → R (Option Bool)) : List D → Sto → R (Option Bool)
  | [], st => .ok none st
  | x :: r, st => (b x st).bind fun t st => match t with
    | none => loopG2 b r st
    | some t => .ok (some t) st
/-- .. over a list of the store, as it stands at each turn (its length must not change) -/
def loopL (n m len : Nat) (b : D → Sto → R (Option D)) : Nat → Nat → Sto → R Unit
  | i, 0, st => (match st[m]? with
    | some (.lst ds) => if ds.length = len then .ok () st else .bad
    | _ => .bad)
  | i, k + 1, st => (match st[m]? with
    | some (.lst ds) => if ds.length = len then (match ds[i]? with
      | some x => (b x st).bind fun o st => match o with
        | some d => (push1 n d st).bind fun _ st => loopL n m len b (i + 1) k st
        | none => loopL n m len b (i + 1) k st
      | none => .bad) else .bad
    | _ => .bad)
def overC (n : Nat) (w : It) (vs : List RV) (b : D → Sto → R (Option D)) (st : Sto) : R Unit := match w, vs with
  | .plain, [.ref m] => (match st[m]? with
    | some (.lst ds) => loopL n m ds.length b 0 ds.length st
    | _ => .bad)
  | w, vs => (match pures vs with
    | some ds => (match walk w ds with
      | some xs => loopC n b xs st
      | none => .bad)
    | none => .bad)
/-- what a comprehension gives: its list as a value, or as an object -/
def finC (k : Ck) (n : Nat) (st : Sto) : R RV := match k, content st (.ref n) with
  | .plain, some d => .ok (.val d) (st.set n .dead)
  | .keep, some d => .ok (.ref n) st
  | _, none => .bad
/-- the slots of a target -/
def slots : T → List Nat
  | .tname i => [i]
  | .ttup ts => slots ts
  | .cons a b => slots a ++ slots b
  | _ => []
/-- no error may leave -/
def R.calm {α : Type} : R α → R α
  | .ok a s => .ok a s
  | _ => .bad
/-- a test's value -/
def boolV : RV → Sto → R Bool
  | .val (.bool b), st => .ok b st
  | _, _ => .bad
def tlen : T → Nat
  | .cons _ b => tlen b + 1
  | _ => 0
def setAll : List Nat → List D → En → Option En
  | [], [], env => some env
  | i :: r, d :: ds, env => setAll r ds (env.set i (some (.val d)))
  | _, _, _ => none
mutual
def ev (C : Cn) : T → En → Sto → R RV
  | .var i, env, st => (match env[i]? with
    | some (some v) => .ok v st
    | _ => .bad)
  | .mv i, env, st => (match env[i]? with
    | some (some (.ref n)) => (match content st (.ref n) with
      | some d => .ok (.val d) (st.set n .dead)
      | none => .bad)
    | _ => .bad)
  | .lit d, _, st => .ok (.val d) st
  | .tup es, env, st => (evs C es env st).bind fun vs st => (match pures vs with
    | some ds => if sizeOk ds.length then .ok (.val (.tuple ds)) st else .bad
    | none => .bad)
  | .lst es, env, st => (evs C es env st).bind fun vs st => (match pures vs with
    | some ds => if sizeOk ds.length then .ok (.val (.list ds)) st else .bad
    | none => .bad)
  | .dic es, env, st => (evs C es env (st ++ [.dic []])).bind fun vs st1 => (match pures vs with
    | some ds => (match pairUp ds with
      | some kvs => if keysA kvs || keysT kvs then (match st1[st.length]? with
        | some (.dic []) => .ok (.ref st.length) (st1.set st.length (.dic (puts [] kvs)))
        | _ => .bad) else .bad
      | none => .bad)
    | none => .bad)
  | .new e, env, st => (ev C e env st).bind fun v st => (match v with
    | .val d => newR (isLt e) d st
    | .ref _ => .bad)
  | .op o a b, env, st => (ev C a env st).bind fun x st => (ev C b env st).bind fun y st =>
    (match content st x, content st y with
    | some x, some y => (match bop o x y with
      | some z => .ok (.val z) st
      | none => .bad)
    | _, _ => .bad)
  | .neg a, env, st => (ev C a env st).bind fun x st => (match x with
    | .val (.int i) => .ok (.val (.int (-i))) st
    | _ => .bad)
  | .not_ a, env, st => (ev C a env st).bind fun x st => (match content st x with
    | some x => (match truthV x with
      | some k => .ok (.val (.bool (!k))) st
      | none => .bad)
    | none => .bad)
  | .and_ a b, env, st => (ev C a env st).bind fun x st => (match content st x with
    | some d => (match truthV d with
      | some true => ev C b env st
      | some false => .ok x st
      | none => .bad)
    | none => .bad)
  | .or_ a b, env, st => (ev C a env st).bind fun x st => (match content st x with
    | some d => (match truthV d with
      | some true => .ok x st
      | some false => ev C b env st
      | none => .bad)
    | none => .bad)
  | .cmp c a b, env, st => (ev C a env st).bind fun x st => (ev C b env st).bind fun y st =>
    (match contentT st x, contentT st y with
    | some dx, some dy => if inL c x then (match cop c dx dy with
      | some z => .ok (.val (.bool z)) st
      | none => .bad) else .bad
    | _, _ => .bad)
  | .chain c1 c2 a b e, env, st => (ev C a env st).bind fun x st => (ev C b env st).bind fun y st => (match x, y with
    | .val x, .val y => (match cop c1 x y with
      | some true => (ev C e env st).bind fun z st => (match z with
        | .val z => (match cop c2 y z with
          | some r => .ok (.val (.bool r)) st
          | none => .bad)
        | .ref _ => .bad)
      | some false => .ok (.val (.bool false)) st
      | none => .bad)
    | _, _ => .bad)
  | .inl neg a ds, env, st => (ev C a env st).bind fun x st => (match x with
    | .val x => if atom x && atoms ds then .ok (.val (.bool (if neg then !has x ds else has x ds))) st else .bad
    | .ref _ => .bad)
  | .isn a, env, st => (ev C a env st).bind fun x st => (match x with
    | .val .none => .ok (.val (.bool true)) st
    | _ => .ok (.val (.bool false)) st)
  | .nisn a, env, st => (ev C a env st).bind fun x st => (match x with
    | .val .none => .ok (.val (.bool false)) st
    | _ => .ok (.val (.bool true)) st)
  | .isb b a, env, st => (ev C a env st).bind fun x st => (match x with
    | .val (.bool c) => .ok (.val (.bool (b == c))) st
    | _ => .bad)
  | .nisb b a, env, st => (ev C a env st).bind fun x st => (match x with
    | .val (.bool c) => .ok (.val (.bool (!(b == c)))) st
    | _ => .bad)
  | .ite c a b, env, st => (tst C c env st).bind fun t st => if t then ev C a env st else ev C b env st
  | .idx a i, env, st => (ev C a env st).bind fun x st => (ev C i env st).bind fun y st =>
    (match contentT st x, y with
    | some x, .val y => (match item x y with
      | some z => .ok (.val z) st
      | none => .bad)
    | _, _ => .bad)
  | .slc a lo hi, env, st => (ev C a env st).bind fun x st => (evo C lo env st).bind fun i st => (evo C hi env st).bind fun j st =>
    (match content st x with
    | some x => (match cut x i j with
      | some z => .ok (.val z) st
      | none => .bad)
    | none => .bad)
  | .call f es, env, st => (evs C es env st).bind fun vs st => C.call f vs st
  | .bi b es, env, st => (evs C es env st).bind fun vs st => (match valsB b st vs with
    | some ds => (match blt b ds with
      | some z => .ok (.val z) st
      | none => .bad)
    | none => .bad)
  | .mth m o es, env, st => (ev C o env st).bind fun x st => if mthAt m st x then (evs C es env st).bind fun vs st => (match pures vs with
    | some ds => if mthAt m st x then mthR m x ds st else .bad
    | none => .bad) else .bad
  | .isi a ts, env, st => (ev C a env st).bind fun x st => (match content st x with
    | some (.dict _) => .bad
    | some d => .ok (.val (.bool (ts.any (isTy d)))) st
    | none => .bad)
  | .comp k tg w it ifs elt own, env, st => (evs C it env st).bind fun vs st => (R.calm <| overC st.length w vs (fun x st => (asgn C tg (.val x) (wipeE env own) st).bind fun env' st => (tst C ifs env' st).bind fun t st =>
      if t then (ev C elt env' st).bind fun v st => (match v with
        | .val d => .ok (some d) st
        | .ref _ => .bad) else .ok none st) (st ++ [.lst []])).bind fun _ st1 => finC k st.length st1
  | .comp2 k tg w it tg2 w2 it2 elt own, env, st => (evs C it env st).bind fun vs st => (match pures vs with
    | some ds => (match walk w ds with
      | some xs => (R.calm <| loopC2 (fun x st1 => (asgn C tg (.val x) (wipeE env own) st1).bind fun env' st1 => (evs C it2 env' st1).bind fun vs st1 => (match pures vs with
          | some ds => (match walk w2 ds with
            | some xs => loopC st.length (fun x st => (asgn C tg2 (.val x) (wipeE env' (slots tg2)) st).bind fun env'' st => (ev C elt env'' st).bind fun v st => (match v with
                | .val d => .ok (some d) st
                | .ref _ => .bad)) xs st1
            | none => .bad)
          | none => .bad)) xs (st ++ [.lst []])).bind fun _ st1 => finC k st.length st1
      | none => .bad)
    | none => .bad)
  | .dcomp tg w it k v own, env, st => (evs C it env st).bind fun vs st => (match pures vs with
    | some ds => (match walk w ds with
      | some xs => (R.calm <| loopD st.length (fun x st => (asgn C tg (.val x) (wipeE env own) st).bind fun env' st => (ev C k env' st).bind fun a st => (ev C v env' st).bind fun b st => (match a, b with
          | .val a, .val b => .ok (a, b) st
          | _, _ => .bad)) xs (st ++ [.dic []])).bind fun _ st1 => finC .keep st.length st1
      | none => .bad)
    | none => .bad)
  | .gen all x it elt, env, st => (ev C it env st).bind fun v st => (match v with
    | .val d => (match walk .plain [d] with
      | some xs => (R.calm <| loopG all (fun d st => (ev C elt ((wipeE env [x]).set x (some (.val d))) st).bind boolV) xs st).bind fun r st => .ok (.val (.bool (r.getD all))) st
      | none => .bad)
    | .ref _ => .bad)
  | .gen2 all x it y it2 elt, env, st => (ev C it env st).bind fun v st => (match v with
    | .val d => (match walk .plain [d] with
      | some xs => (R.calm <| loopG2 (fun d st => (ev C it2 ((wipeE env [x, y]).set x (some (.val d))) st).bind fun v st => (match v with
          | .val e => (match walk .plain [e] with
            | some ys => if sizeOk ys.length then loopG all (fun e st => (ev C elt ((wipeE ((wipeE env [x, y]).set x (some (.val d))) [y]).set y (some (.val e))) st).bind boolV) ys st else .bad
            | none => .bad)
          | .ref _ => .bad)) xs st).bind fun r st => .ok (.val (.bool (r.getD all))) st
      | none => .bad)
    | .ref _ => .bad)
  | _, _, _ => .bad
termination_by structural t => t
def evs (C : Cn) : T → En → Sto → R (List RV)
  | .nil, _, st => .ok [] st
  | .cons a b, env, st => (ev C a env st).bind fun v st => (evs C b env st).bind fun vs st => .ok (v :: vs) st
  | _, _, _ => .bad
termination_by structural t => t
/-- a part of a slice -/
def evo (C : Cn) : T → En → Sto → R (Option Int)
  | .nil, _, st => .ok none st
  | .cons a .nil, env, st => (ev C a env st).bind fun v st => (match v with
    | .val (.int i) => .ok (some i) st
    | _ => .bad)
  | _, _, _ => .bad
termination_by structural t => t
/-- a test -/
def tst (C : Cn) : T → En → Sto → R Bool
  | .nil, _, st => .ok true st
  | .not_ a, env, st => (tst C a env st).bind fun b st => .ok (!b) st
  | .and_ a b, env, st => (tst C a env st).bind fun t st => if t then tst C b env st else .ok false st
  | .or_ a b, env, st => (tst C a env st).bind fun t st => if t then .ok true st else tst C b env st
  | .tr e, env, st => (ev C e env st).bind fun v st => (match content st v with
    | some d => (match truthV d with
      | some k => .ok k st
      | none => .bad)
    | none => .bad)
  | .trb e, env, st => (ev C e env st).bind fun v st => (match v with
    | .val (.bool k) => .ok k st
    | _ => .bad)
  | _, _, _ => .bad
termination_by structural t => t
/-- a target takes a value -/
def asgn (C : Cn) : T → RV → En → Sto → R En
  | .tname i, v, env, st => .ok (env.set i (some v)) st
  | .ttup ts, v, env, st => (match v with
    | .val (.tuple ds) => if tlen ts = ds.length then asgs C ts ds env st else .bad
    | _ => .bad)
  | .tsub o i, v, env, st => (ev C o env st).bind fun x st => (ev C i env st).bind fun y st => (match x, y, v with
    | .ref n, .val k, .val d => (match st[n]? with
      | some o => (match setO o k d with
        | some o' => .ok env (st.set n o')
        | none => .bad)
      | none => .bad)
    | _, _, _ => .bad)
  | _, _, _, _ => .bad
termination_by structural t => t
def asgs (C : Cn) : T → List D → En → Sto → R En
  | .nil, [], env, st => .ok env st
  | .cons t ts, d :: ds, env, st => (asgn C t (.val d) env st).bind fun env st => asgs C ts ds env st
  | _, _, _, _ => .bad
termination_by structural t => t
end
end Mi
namespace Mi
open PySem
/-- a function of the text: its slots, its parameters, its body -/
structure FD where
  nsl : Nat
  npar : Nat
  body : T
  dfl : List D := []
/-- the last parameters' defaults, where they are left out -/
def fillD (d : FD) (vs : List RV) : List RV := if vs.length + d.dfl.length = d.npar then vs ++ d.dfl.map .val else vs
def frzE (st : Sto) (env : En) (i : Nat) : R En := match env[i]? with
  | some (some (.ref n)) => (match content st (.ref n) with
    | some d => .ok (env.set i (some (.val d))) (st.set n .dead)
    | none => .bad)
  | _ => .bad
def asgR (C : Cn) : T → List RV → En → Sto → R En
  | .nil, [], env, st => .ok env st
  | .cons t ts, v :: vs, env, st => (asgn C t v env st).bind fun env st => asgR C ts vs env st
  | _, _, _, _ => .bad
def srcs (w : It) (st : Sto) (vs : List RV) : Option (List D) := match w with
  | .litems => (vals st vs)
  | _ => pures vs
def excOk (c : Nat) (x : Exn) : Bool := c == 0 || c == x.cls
/-- where op= is told -/
def iopOk : Op → D → Bool
  | .add, .int _ => true
  | .add, .str _ => true
  | .add, .tuple _ => true
  | .sub, .int _ => true
  | .mul, .int _ => true
  | _, _ => false
/-- x op= y -/
def augR (o : Op) (x y : RV) (st : Sto) : Option D := match x, content st y with
  | .val a, some b => if iopOk o a then bop o a b else none
  | _, _ => none
mutual
def ex (C : Cn) : T → En → Sto → R Fl
  | .asg tg e, env, st => (ev C e env st).bind fun v st => (asgn C tg v env st).bind fun env st => .ok (.nx env) st
  | .par ts es, env, st => (evs C es env st).bind fun vs st => (asgR C ts vs env st).bind fun env st => .ok (.nx env) st
  | .frz i, env, st => (frzE st env i).bind fun env st => .ok (.nx env) st
  | .aug i o e, env, st => (match env[i]? with
    | some (some x) => (ev C e env st).bind fun y st => (match augR o x y st with
      | some z => .ok (.nx (env.set i (some (.val z)))) st
      | none => .bad)
    | _ => .bad)
  | .augs o i p e, env, st => (ev C o env st).bind fun x st => (ev C i env st).bind fun k st => (match x, k with
    | .ref n, .val k => (match content st (.ref n) with
      | some c => (match item c k with
        | some old => (ev C e env st).bind fun y st => (match augR p (.val old) y st with
          | some z => (match st[n]? with
            | some o => (match setO o k z with
              | some o' => .ok (.nx env) (st.set n o')
              | none => .bad)
            | none => .bad)
          | none => .bad)
        | none => .bad)
      | none => .bad)
    | _, _ => .bad)
  | .if_ c a b, env, st => (tst C c env st).bind fun t st => if t then exs C a env st else exs C b env st
  | .whl c b, env, st => loopW (tst C c) (exs C b) C.wf env st
  | .for_ tg w it b, env, st => (evs C it env st).bind fun vs st => (match srcs w st vs with
    | some ds => (match walk w ds with
      | some xs => loopF (fun x env st => (asgn C tg (.val x) env st).bind fun env st => exs C b env st) xs env st
      | none => .bad)
    | none => .bad)
  | .ret .nil, _, st => .ok (.rt (.val .none)) st
  | .ret (.cons e .nil), env, st => (ev C e env st).bind fun v st => .ok (.rt v) st
  | .xpr e, env, st => (ev C e env st).bind fun _ st => .ok (.nx env) st
  | .rais c es, env, st => (evs C es env st).bind fun vs st => (match vs with
    | [] => .exc ⟨c, none⟩ st
    | [.val d] => .exc ⟨c, some d⟩ st
    | _ => .bad)
  | .try_ b _ _, env, st => R.calm (exs C b env st)
  | .pass, env, st => .ok (.nx env) st
  | .brk, env, st => .ok (.bk env) st
  | .cnt, env, st => .ok (.ct env) st
  | _, _, _ => .bad
termination_by structural t => t
def exs (C : Cn) : T → En → Sto → R Fl
  | .nil, env, st => .ok (.nx env) st
  | .cons a b, env, st => (ex C a env st).bind fun f st => (match f with
    | .nx env => exs C b env st
    | f => .ok f st)
  | _, _, _ => .bad
termination_by structural t => t
end
/-- a def's end: what it made for itself is dropped -/
def leave (n : Nat) : R Fl → R RV
  | .ok (.rt (.val d)) st => .ok (.val d) (st.take n)
  | .ok (.rt (.ref k)) st => if n ≤ k then (match st[k]? with
    | some (.tpl ds) => .ok (.ref n) (st.take n ++ [.tpl ds])
    | _ => (match content st (.ref k) with
      | some d => .ok (.val d) (st.take n)
      | none => .bad)) else .bad
  | .ok (.nx _) st => .ok (.val .none) (st.take n)
  | .exc x st => .exc x (st.take n)
  | _ => .bad
def startE (d : FD) (vs : List RV) : En := vs.map some ++ List.replicate (d.nsl - d.npar) none
def callN (P : List FD) (wf : Nat) : Nat → Nat → List RV → Sto → R RV
  | 0, _, _, _ => .bad
  | n + 1, f, vs, st => match P[f]? with
    | some d => if (fillD d vs).length = d.npar then leave st.length (exs ⟨callN P wf n, wf⟩ d.body (startE d (fillD d vs)) st) else .bad
    | none => .bad
end Mi

namespace MiS
open PySem PySem.Spec PyProof.Rows L2 Mi
/-- the tables of code objects that the text's defs keep -/
class Tb where
  T : Addr → Prop
variable [Tb]
/-- no table -/
def NT (u : HO) : Prop := ∀ ps, u ≠ .tbl ps
/-! ### what the store's numbers stand for -/
/-- the address is that of an object of the store that may still change -/
def Lv (M : List Addr) (st : Sto) (a : Addr) : Prop := ∃ (n : Nat) (o : O), M[n]? = some a ∧ st[n]? = some o ∧ o ≠ O.dead
/-- a key as data -/
def kD : Key → D
  | .inl i => .int i
  | .inr x => .str x
def kDs (ks : List Key) : D := .tuple (ks.map kD)
mutual
/-- a value is plain data; L: what may still change -/
inductive Rp (K : PySem.W.Frag) (L : Addr → Prop) (H : Hp) : V → D → Prop
  | non : Rp K L H .non .none
  | bl (b : Bool) : Rp K L H (.bl b) (.bool b)
  | int (i : Int) : Rp K L H (.int i) (.int i)
  | str (s : Str) : Rp K L H (.str s) (.str s)
  | lst {a : Addr} {xs : List V} {ds : List D} : ¬ L a → Rd H a (.lst xs) → RpL K L H xs ds → Rp K L H (.ref a) (.list ds)
  | tup {a : Addr} {xs : List V} {ds : List D} : ¬ L a → H a = some (.tup xs) → RpL K L H xs ds → Rp K L H (.ref a) (.tuple ds)
  | dicA {a : Addr} {kvs : List (Key × V)} {ds : List (D × D)} : ¬ L a → Rd H a (.dK kvs) → kvs.map (fun p => kD p.1) = ds.map (·.1) → RpL K L H (kvs.map (·.2)) (ds.map (·.2)) → Rp K L H (.ref a) (.dict ds)
  | dicT {a : Addr} {kvs : List (List Key × V)} {ds : List (D × D)} : ¬ L a → Rd H a (.dT kvs) → kvs.map (fun p => kDs p.1) = ds.map (·.1) → RpL K L H (kvs.map (·.2)) (ds.map (·.2)) → Rp K L H (.ref a) (.dict ds)
inductive RpL (K : PySem.W.Frag) (L : Addr → Prop) (H : Hp) : List V → List D → Prop
  | nil : RpL K L H [] []
  | cons {v : V} {vs : List V} {d : D} {ds : List D} : Rp K L H v d → RpL K L H vs ds → RpL K L H (v :: vs) (d :: ds)
end
/-- it stands, or stands locked -/
def Kp (H' : Hp) (b : Addr) (u : HO) : Prop := H' b = some u ∨ (Mut (some u) ∧ ∃ o, H' b = some (.frz o u))
theorem Kp.ex {H' : Hp} {b : Addr} {u : HO} (h : Kp H' b u) (m : ¬ Mut (some u)) : H' b = some u := h.elim id fun ⟨q, _⟩ => absurd q m
/-- what stands stays, but for what may change; what could not change does not become so -/
structure Step (L : Addr → Prop) (H : Hp) (L' : Addr → Prop) (H' : Hp) : Prop where
  keep : ∀ b u, H b = some u → NT u → ¬ L b → Kp H' b u ∧ ¬ L' b
  dom : ∀ b, H b ≠ none → H' b ≠ none
theorem Step.refl {L : Addr → Prop} {H : Hp} : Step L H L H := ⟨fun _ _ h _ n => ⟨.inl h, n⟩, fun _ h => h⟩
theorem Step.trans {L L1 L2 : Addr → Prop} {H H1 H2 : Hp} (a : Step L H L1 H1) (b : Step L1 H1 L2 H2) : Step L H L2 H2 :=
  ⟨fun c u h t n => by
    obtain ⟨k, n1⟩ := a.keep c u h t n
    rcases k with k | ⟨m, o, k⟩
    · exact b.keep c u k t n1
    · obtain ⟨k2, n2⟩ := b.keep c _ k (fun ps q => by cases q) n1
      exact ⟨.inr ⟨m, o, k2.ex id⟩, n2⟩, fun c h => b.dom c (a.dom c h)⟩
/-- what values see -/
structure See (L : Addr → Prop) (H : Hp) (L' : Addr → Prop) (H' : Hp) : Prop where
  rd' : ∀ b u, Rd H b u → NT u → ¬ L b → Rd H' b u ∧ ¬ L' b
  tup : ∀ b xs, H b = some (.tup xs) → ¬ L b → H' b = some (.tup xs)
theorem Step.see {L L' : Addr → Prop} {H H' : Hp} (s : Step L H L' H') : See L H L' H' :=
  ⟨fun b u h t n => by
    rcases h with h | ⟨o, h⟩
    · exact ⟨(s.keep b _ h t n).1.elim .inl fun q => .inr q.2, (s.keep b _ h t n).2⟩
    · have tf : NT (.frz o u) := fun ps q => by cases q
      exact ⟨.inr ⟨o, (s.keep b _ h tf n).1.ex id⟩, (s.keep b _ h tf n).2⟩, fun b xs h n => (s.keep b _ h (fun ps q => by cases q) n).1.ex id⟩
theorem See.rd {L L' : Addr → Prop} {H H' : Hp} (s : See L H L' H') {a : Addr} {u : HO} (n : ¬ L a) (h : Rd H a u) (t : NT u := by intro ps q; cases q) : Rd H' a u ∧ ¬ L' a := s.rd' a u h t n
/-- all stands -/
theorem Step.mk' {L L' : Addr → Prop} {H H' : Hp} (k : ∀ b u, H b = some u → ¬ L b → H' b = some u ∧ ¬ L' b) (d : ∀ b, H b ≠ none → H' b ≠ none) : Step L H L' H' := ⟨fun b u e _ n => ⟨.inl (k b u e n).1, (k b u e n).2⟩, d⟩
section
variable {K : PySem.W.Frag} {L L' : Addr → Prop} {H H' : Hp}
mutual
theorem Rp.see (s : See L H L' H') : ∀ {v : V} {d : D}, Rp K L H v d → Rp K L' H' v d
  | _, _, .non => .non
  | _, _, .bl b => .bl b
  | _, _, .int i => .int i
  | _, _, .str x => .str x
  | _, _, .lst n r x => .lst (s.rd n r).2 (s.rd n r).1 (RpL.see s x)
  | _, _, .tup n r x => .tup (s.rd n (.inl r)).2 (s.tup _ _ r n) (RpL.see s x)
  | _, _, .dicA n h e x => .dicA (s.rd n h).2 (s.rd n h).1 e (RpL.see s x)
  | _, _, .dicT n h e x => .dicT (s.rd n h).2 (s.rd n h).1 e (RpL.see s x)
theorem RpL.see (s : See L H L' H') : ∀ {vs : List V} {ds : List D}, RpL K L H vs ds → RpL K L' H' vs ds
  | _, _, .nil => .nil
  | _, _, .cons a b => .cons (Rp.see s a) (RpL.see s b)
end
theorem Rp.mono (s : Step L H L' H') {v : V} {d : D} (h : Rp K L H v d) : Rp K L' H' v d := h.see s.see
theorem RpL.mono (s : Step L H L' H') {vs : List V} {ds : List D} (h : RpL K L H vs ds) : RpL K L' H' vs ds := h.see s.see
mutual
/-- data without dicts, for the layer's deep rules -/
theorem Rp.dp : ∀ {v : V} {d : D}, Rp K L H v d → PyData.canLay0 d = true → Dp K H v d
  | _, _, .non, _ => .non
  | _, _, .bl b, _ => .bl b
  | _, _, .int i, _ => .int i
  | _, _, .str x, _ => .str x
  | _, _, .lst n r x, h => .lst (.inl r) (RpL.dp x h)
  | _, _, .tup n r x, h => .tup (.inl (.inl r)) (RpL.dp x h)
  | _, _, .dicA .., h => by cases h
  | _, _, .dicT .., h => by cases h
theorem RpL.dp : ∀ {vs : List V} {ds : List D}, RpL K L H vs ds → PyData.canLayAll0 ds = true → DpAll K H vs ds
  | _, _, .nil, _ => .nil
  | _, _, .cons a b, h => .cons (Rp.dp a (Bool.and_eq_true_iff.mp h).1) (RpL.dp b (Bool.and_eq_true_iff.mp h).2)
end
theorem RpL.len : ∀ {vs : List V} {ds : List D}, RpL K L H vs ds → vs.length = ds.length
  | _, _, .nil => rfl
  | _, _, .cons _ b => by simp [RpL.len b]
theorem RpL.get : ∀ {vs : List V} {ds : List D} {i : Nat} {d : D}, RpL K L H vs ds → ds[i]? = some d → ∃ v, vs[i]? = some v ∧ Rp K L H v d
  | _, _, _, _, .nil, e => by simp at e
  | _, _, 0, _, .cons a _, e => by simp at e; subst e; exact ⟨_, rfl, a⟩
  | _, _, i + 1, d, .cons _ b, e => by
    obtain ⟨v, h1, h2⟩ := RpL.get (i := i) (d := d) b (by simpa using e)
    exact ⟨v, by simpa using h1, h2⟩
theorem RpL.get' : ∀ {vs : List V} {ds : List D} {i : Nat} {v : V}, RpL K L H vs ds → vs[i]? = some v → ∃ d, ds[i]? = some d ∧ Rp K L H v d
  | _, _, _, _, .nil, e => by simp at e
  | _, _, 0, _, .cons a _, e => by simp at e; subst e; exact ⟨_, rfl, a⟩
  | _, _, i + 1, v, .cons _ b, e => by
    obtain ⟨d, h1, h2⟩ := RpL.get' (i := i) (v := v) b (by simpa using e)
    exact ⟨d, by simpa using h1, h2⟩
theorem RpL.app : ∀ {vs ws : List V} {ds es : List D}, RpL K L H vs ds → RpL K L H ws es → RpL K L H (vs ++ ws) (ds ++ es)
  | _, _, _, _, .nil, y => y
  | _, _, _, _, .cons a b, y => .cons a (RpL.app b y)
theorem RpL.set {v : V} {d : D} (r : Rp K L H v d) : ∀ {vs : List V} {ds : List D} (i : Nat), RpL K L H vs ds → RpL K L H (vs.set i v) (ds.set i d)
  | _, _, _, .nil => .nil
  | _, _, 0, .cons _ b => .cons r b
  | _, _, i + 1, .cons a b => .cons a (RpL.set r i b)
theorem RpL.take : ∀ {vs : List V} {ds : List D} (n : Nat), RpL K L H vs ds → RpL K L H (vs.take n) (ds.take n)
  | _, _, 0, _ => .nil
  | _, _, _ + 1, .nil => .nil
  | _, _, n + 1, .cons a b => .cons a (RpL.take n b)
theorem RpL.drop : ∀ {vs : List V} {ds : List D} (n : Nat), RpL K L H vs ds → RpL K L H (vs.drop n) (ds.drop n)
  | _, _, 0, r => r
  | _, _, _ + 1, .nil => .nil
  | _, _, n + 1, .cons _ b => RpL.drop n b
theorem RpL.rep {vs : List V} {ds : List D} (r : RpL K L H vs ds) : ∀ n, RpL K L H (Mi.rep vs n) (Mi.rep ds n)
  | 0 => .nil
  | n + 1 => by
    show RpL K L H (List.replicate (n + 1) vs).flatten (List.replicate (n + 1) ds).flatten
    rw [List.replicate_succ, List.replicate_succ, List.flatten_cons, List.flatten_cons]
    exact r.app (RpL.rep r n)
theorem RpL.cut {vs : List V} {ds : List D} (r : RpL K L H vs ds) (lo hi : Option Int) : RpL K L H (L2.cutV vs lo hi) (Mi.cutL ds lo hi) := by
  unfold L2.cutV Mi.cutL
  rw [r.len]
  exact (r.drop _).take _
theorem RpL.at {vs : List V} {ds : List D} {i : Int} {d : D} (r : RpL K L H vs ds) (h : L2.atI ds i = some d) : ∃ v, L2.atI vs i = some v ∧ Rp K L H v d := by
  unfold L2.atI at h ⊢
  rw [r.len]
  cases e : L2.ixN ds.length i with
  | none => rw [e] at h; cases h
  | some j =>
    rw [e] at h
    exact r.get h
end
/-- an object of the store -/
def RpO (K : PySem.W.Frag) (L : Addr → Prop) (H : Hp) (a : Addr) : O → Prop
  | .lst ds => ∃ xs, H a = some (.lst xs) ∧ RpL K L H xs ds
  | .dic ds => (∃ kvs : List (Key × V), H a = some (.dK kvs) ∧ kvs.map (fun p => kD p.1) = ds.map (·.1) ∧ RpL K L H (kvs.map (·.2)) (ds.map (·.2))) ∨
      ∃ kvs : List (List Key × V), H a = some (.dT kvs) ∧ kvs.map (fun p => kDs p.1) = ds.map (·.1) ∧ RpL K L H (kvs.map (·.2)) (ds.map (·.2))
  | .tpl ds => ∃ xs o, H a = some (.frz o (.tup xs)) ∧ o.dict = none ∧ RpL K L H xs ds
  | .dead => H a ≠ none
structure SR (K : PySem.W.Frag) (M : List Addr) (H : Hp) (st : Sto) : Prop where
  len : M.length = st.length
  nd : ∀ (i j : Nat) (a : Addr), M[i]? = some a → M[j]? = some a → i = j
  obj : ∀ (n : Nat) (o : O) (a : Addr), st[n]? = some o → M[n]? = some a → RpO K (Lv M st) H a o
  tab : ∀ P, Tb.T P → GxR.TabG H P
def RVp (K : PySem.W.Frag) (M : List Addr) (L : Addr → Prop) (H : Hp) (v : V) : RV → Prop
  | .val d => Rp K L H v d
  | .ref n => ∃ a, v = .ref a ∧ M[n]? = some a
theorem RVp.mono {K : PySem.W.Frag} {M M' : List Addr} {L L' : Addr → Prop} {H H' : Hp} {v : V} {r : RV} (p : M <+: M') (s : Step L H L' H') (h : RVp K M L H v r) : RVp K M' L' H' v r := by
  cases r with
  | val d => exact Rp.mono s h
  | ref n =>
    obtain ⟨a, e, h⟩ := h
    obtain ⟨t, rfl⟩ := p
    exact ⟨a, e, by rw [List.getElem?_append_left (List.getElem?_eq_some_iff.mp h).1]; exact h⟩
/-- the slots -/
structure ER (K : PySem.W.Frag) (M : List Addr) (L : Addr → Prop) (H : Hp) (env : En) (σ : L2.St) : Prop where
  len : env.length = σ.length
  at_ : ∀ (i : Nat) (r : RV), env[i]? = some (some r) → ∃ v, σ[i]? = some (some v) ∧ RVp K M L H v r
theorem ER.mono {K : PySem.W.Frag} {M M' : List Addr} {L L' : Addr → Prop} {H H' : Hp} {env : En} {σ : L2.St} (p : M <+: M') (s : Step L H L' H') (h : ER K M L H env σ) : ER K M' L' H' env σ :=
  ⟨h.len, fun i r e => let ⟨v, h1, h2⟩ := h.at_ i r e; ⟨v, h1, h2.mono p s⟩⟩
theorem ER.set {K : PySem.W.Frag} {M : List Addr} {L : Addr → Prop} {H : Hp} {env : En} {σ : L2.St} (h : ER K M L H env σ) (i : Nat) {v : V} {r : RV} (x : RVp K M L H v r) : ER K M L H (env.set i (some r)) (σ.set i (some v)) := by
  refine ⟨by simp [h.len], fun j q e => ?_⟩
  by_cases hj : i = j
  · subst hj
    by_cases hi : i < env.length
    · rw [List.getElem?_set_self hi] at e
      cases e
      exact ⟨v, List.getElem?_set_self (by rw [← h.len]; exact hi), x⟩
    · rw [List.getElem?_eq_none (by simpa using hi)] at e
      cases e
  · rw [List.getElem?_set_ne hj] at e
    rw [List.getElem?_set_ne hj]
    exact h.at_ j q e
theorem ER.wipe {K : PySem.W.Frag} {M : List Addr} {L : Addr → Prop} {H : Hp} {σ : L2.St} : ∀ (own : List Nat) {env : En}, ER K M L H env σ → ER K M L H (wipeE env own) σ
  | [], _, h => h
  | i :: r, env, h => by
    refine ER.wipe r ⟨by simp [h.len], fun j q e => ?_⟩
    by_cases hj : i = j
    · subst hj
      by_cases hi : i < env.length
      · rw [List.getElem?_set_self hi] at e; cases e
      · rw [List.getElem?_eq_none (by simpa using hi)] at e; cases e
    · rw [List.getElem?_set_ne hj] at e
      exact h.at_ j q e
theorem wipeE_out : ∀ (own : List Nat) {env : En} {i : Nat} {r : RV}, (wipeE env own)[i]? = some (some r) → i ∉ own ∧ env[i]? = some (some r)
  | [], _, _, _, e => ⟨by simp, e⟩
  | k :: own, env, i, r, e => by
    obtain ⟨h1, h2⟩ := wipeE_out own (env := env.set k none) e
    by_cases hk : k = i
    · subst hk
      by_cases hi : k < env.length
      · rw [List.getElem?_set_self hi] at h2; cases h2
      · rw [List.getElem?_eq_none (by simpa using hi)] at h2; cases h2
    · rw [List.getElem?_set_ne hk] at h2
      exact ⟨by simp [h1]; exact fun q => hk q.symm, h2⟩
theorem ER.wipe2 {K : PySem.W.Frag} {M : List Addr} {L : Addr → Prop} {H : Hp} {σ : L2.St} {env : En} (own : List Nat) (h : ER K M L H env σ) : ER K M L H (wipeE env own) (L2.wipe σ own) := by
  have w := h.wipe own
  refine ⟨by rw [w.len, L2.wipe_length], fun i r e => ?_⟩
  obtain ⟨h1, h2⟩ := wipeE_out own e
  obtain ⟨v, h3, h4⟩ := h.at_ i r h2
  exact ⟨v, by rw [L2.wipe_out h1]; exact h3, h4⟩
end MiS

namespace MiS
open PySem PySem.Spec PyProof.Rows L2 Mi
variable [Tb]
/-! ### wishes -/
/-- what is wanted of an error: its class and field, the store's addresses, the store, the heap behind it -/
abbrev Wish := Exn → List Addr → Sto → Hp → Prop
/-- no error is wished for -/
def Wno : Wish := fun _ _ _ _ => False
/-- what is wanted of a result, from the state (M, H, st) on -/
def PR {α : Type} (K : PySem.W.Frag) (M : List Addr) (H : Hp) (st : Sto) (r : R α) (W : Wish) (Q : α → List Addr → Sto → Hp → Prop) : Prop := match r with
  | .ok a st' => ∀ M' H', M <+: M' → SR K M' H' st' → Step (Lv M st) H (Lv M' st') H' → Q a M' st' H'
  | .exc x st' => ∀ M' H', M <+: M' → SR K M' H' st' → Step (Lv M st) H (Lv M' st') H' → W x M' st' H'
  | .bad => False
section
variable {α β : Type} {K : PySem.W.Frag} {M : List Addr} {H : Hp} {st : Sto} {W : Wish}
theorem PR.bind {r : R α} {f : α → Sto → R β} {Q : β → List Addr → Sto → Hp → Prop} (h : PR K M H st (r.bind f) W Q) : PR K M H st r W (fun a M1 st1 H1 => PR K M1 H1 st1 (f a st1) W Q) := by
  cases r with
  | ok a st1 =>
    intro M1 H1 p1 sr1 s1
    have h2 : PR K M H st (f a st1) W Q := h
    show PR K M1 H1 st1 (f a st1) W Q
    cases e : f a st1 with
    | ok b st2 =>
      rw [e] at h2
      exact fun M2 H2 p2 sr2 s2 => h2 M2 H2 (p1.trans p2) sr2 (s1.trans s2)
    | exc x st2 =>
      rw [e] at h2
      exact fun M2 H2 p2 sr2 s2 => h2 M2 H2 (p1.trans p2) sr2 (s1.trans s2)
    | bad =>
      rw [e] at h2
      exact h2
  | exc x st1 => exact h
  | bad => exact h
theorem PR.imp {r : R α} {Q Q' : α → List Addr → Sto → Hp → Prop} (h : PR K M H st r W Q)
    (f : ∀ a M1 st1 H1, M <+: M1 → SR K M1 H1 st1 → Step (Lv M st) H (Lv M1 st1) H1 → Q a M1 st1 H1 → Q' a M1 st1 H1) : PR K M H st r W Q' := by
  cases r with
  | ok a st1 => exact fun M1 H1 p1 sr1 s1 => f a M1 st1 H1 p1 sr1 s1 (h M1 H1 p1 sr1 s1)
  | exc x st1 => exact h
  | bad => exact h
theorem PR.calm {r : R α} {Q : α → List Addr → Sto → Hp → Prop} (h : PR K M H st (R.calm r) W Q) : PR K M H st r Wno Q := by
  cases r with
  | ok a st1 => exact h
  | exc x st1 => exact h.elim
  | bad => exact h
/-- the end where nothing has changed -/
theorem PR.here {a : α} {Q : α → List Addr → Sto → Hp → Prop} (sr : SR K M H st) (h : PR K M H st (.ok a st) W Q) : Q a M st H := h M H (List.prefix_refl _) sr Step.refl
/-- .. where the heap has grown -/
theorem PR.there {a : α} {H' : Hp} {Q : α → List Addr → Sto → Hp → Prop} (h : PR K M H st (.ok a st) W Q) (sr : SR K M H' st) (s : Step (Lv M st) H (Lv M st) H') : Q a M st H' := h M H' (List.prefix_refl _) sr s
end
/-! ### readings -/
/-- values by values -/
inductive RVs (K : PySem.W.Frag) (M : List Addr) (L : Addr → Prop) (H : Hp) : List V → List RV → Prop
  | nil : RVs K M L H [] []
  | cons {v : V} {vs : List V} {r : RV} {rs : List RV} : RVp K M L H v r → RVs K M L H vs rs → RVs K M L H (v :: vs) (r :: rs)
theorem RVs.mono {K : PySem.W.Frag} {M M' : List Addr} {L L' : Addr → Prop} {H H' : Hp} (p : M <+: M') (s : Step L H L' H') : ∀ {vs : List V} {rs : List RV}, RVs K M L H vs rs → RVs K M' L' H' vs rs
  | _, _, .nil => .nil
  | _, _, .cons a b => .cons (a.mono p s) (RVs.mono p s b)
abbrev QV (K : PySem.W.Frag) (Q : VK) : RV → List Addr → Sto → Hp → Prop := fun r M st H => ∀ v, RVp K M (Lv M st) H v r → Q v H
abbrev QVs (K : PySem.W.Frag) (Q : List V → Hp → Prop) : List RV → List Addr → Sto → Hp → Prop := fun rs M st H => ∀ vs, RVs K M (Lv M st) H vs rs → Q vs H
abbrev QB (Q : Bool → Hp → Prop) : Bool → List Addr → Sto → Hp → Prop := fun b _ _ H => Q b H
def tE (K : PySem.W.Frag) (C : Cn) (W : Wish) (e : T) : TE := fun σ H Q => ∃ M env st, ER K M (Lv M st) H env σ ∧ SR K M H st ∧ PR K M H st (ev C e env st) W (QV K Q)
def tEs (K : PySem.W.Frag) (C : Cn) (W : Wish) (e : T) : TA := fun σ H Q => ∃ M env st, ER K M (Lv M st) H env σ ∧ SR K M H st ∧ PR K M H st (evs C e env st) W (QVs K Q)
def tB (K : PySem.W.Frag) (C : Cn) (W : Wish) (e : T) : TT := fun σ H Q => ∃ M env st, ER K M (Lv M st) H env σ ∧ SR K M H st ∧ PR K M H st (tst C e env st) W (QB Q)
/-! ### what stands still -/
section
variable {K : PySem.W.Frag} {M : List Addr} {H : Hp} {st : Sto}
theorem RpO.mono {L L' : Addr → Prop} {H H' : Hp} {a : Addr} (s : Step L H L' H') (k : ∀ u, H a = some u → H' a = some u) {o : O} (h : RpO K L H a o) : RpO K L' H' a o := by
  cases o with
  | lst ds => obtain ⟨xs, e, r⟩ := h; exact ⟨xs, k _ e, r.mono s⟩
  | dic kvs =>
    rcases h with ⟨ks, e, q, r⟩ | ⟨ks, e, q, r⟩
    · exact .inl ⟨ks, k _ e, q, r.mono s⟩
    · exact .inr ⟨ks, k _ e, q, r.mono s⟩
  | tpl ds => obtain ⟨xs, o, e, q, r⟩ := h; exact ⟨xs, o, k _ e, q, r.mono s⟩
  | dead => exact s.dom a h
theorem RpO.there {L : Addr → Prop} {a : Addr} {o : O} (h : RpO K L H a o) : H a ≠ none := by
  cases o with
  | lst ds => obtain ⟨xs, e, r⟩ := h; rw [e]; simp
  | dic kvs => rcases h with ⟨ks, e, _⟩ | ⟨ks, e, _⟩ <;> (rw [e]; simp)
  | tpl ds => obtain ⟨xs, o, e, _⟩ := h; rw [e]; simp
  | dead => exact h
theorem SR.live (sr : SR K M H st) {a : Addr} (h : Lv M st a) : H a ≠ none := by
  obtain ⟨n, o, h1, h2, h3⟩ := h
  exact (sr.obj n o a h2 h1).there
theorem SR.nl (sr : SR K M H st) {a : Addr} (h : H a = none) : ¬ Lv M st a := fun q => sr.live q h
/-- a new object of no number -/
theorem Step.fresh {L : Addr → Prop} {p : Addr} {o : HO} (h : H p = none) : Step L H L (upd H p o) :=
  .mk' (fun b u e n => ⟨by rw [upd_ne (fun q => by subst q; rw [h] at e; cases e)]; exact e, n⟩) fun b e => by
    by_cases q : b = p
    · subst q; rw [upd_same]; simp
    · rw [upd_ne q]; exact e
theorem tab_upd {p P : Addr} {o : HO} (t : GxR.TabG H P) (h : ∀ ps, H p ≠ some (.tbl ps)) : GxR.TabG (upd H p o) P := by
  obtain ⟨ps, e, q⟩ := t
  exact ⟨ps, by rw [upd_ne (fun z => h ps (by rw [← z]; exact e))]; exact e, q⟩
theorem SR.fresh (sr : SR K M H st) {p : Addr} {o : HO} (h : H p = none) : SR K M (upd H p o) st :=
  ⟨sr.len, sr.nd, fun n x a h1 h2 => (sr.obj n x a h1 h2).mono (Step.fresh h) fun u e => by rw [upd_ne (fun q => by subst q; rw [h] at e; cases e)]; exact e, fun P hP => tab_upd (sr.tab P hP) fun ps z => by rw [h] at z; cases z⟩
/-- a dict that is read -/
def DcP (K : PySem.W.Frag) (L : Addr → Prop) (H : Hp) (a : Addr) (ds : List (D × D)) : Prop :=
  (∃ kvs : List (Key × V), Rd H a (.dK kvs) ∧ kvs.map (fun p => kD p.1) = ds.map (·.1) ∧ RpL K L H (kvs.map (·.2)) (ds.map (·.2))) ∨
    ∃ kvs : List (List Key × V), Rd H a (.dT kvs) ∧ kvs.map (fun p => kDs p.1) = ds.map (·.1) ∧ RpL K L H (kvs.map (·.2)) (ds.map (·.2))
/-- at once: the value's content -/
def Cp (K : PySem.W.Frag) (L : Addr → Prop) (H : Hp) (v : V) (d : D) : Prop :=
  Rp K L H v d ∨ (∃ a xs ds, v = .ref a ∧ d = .list ds ∧ H a = some (.lst xs) ∧ RpL K L H xs ds) ∨ ∃ a ds, v = .ref a ∧ d = .dict ds ∧ DcP K L H a ds
theorem content_cp (sr : SR K M H st) {v : V} {r : RV} {d : D} (h : RVp K M (Lv M st) H v r) (e : content st r = some d) : Cp K (Lv M st) H v d := by
  cases r with
  | val x =>
    have e2 : x = d := Option.some.inj e
    subst e2
    exact .inl h
  | ref n =>
    obtain ⟨a, rfl, hM⟩ := h
    cases q : st[n]? with
    | none => simp only [content, q] at e; cases e
    | some o =>
      simp only [content, q] at e
      have ob := sr.obj n o a q hM
      cases o with
      | lst ds =>
        cases e
        obtain ⟨xs, e1, r1⟩ := ob
        exact .inr (.inl ⟨a, xs, ds, rfl, rfl, e1, r1⟩)
      | dic kvs =>
        cases e
        refine .inr (.inr ⟨a, kvs, rfl, rfl, ?_⟩)
        rcases ob with ⟨ks, e1, q1, r1⟩ | ⟨ks, e1, q1, r1⟩
        · exact .inl ⟨ks, .inl e1, q1, r1⟩
        · exact .inr ⟨ks, .inl e1, q1, r1⟩
      | tpl _ => cases e
      | dead => cases e
section
variable {L : Addr → Prop} {v : V}
theorem Cp.int {i : Int} (h : Cp K L H v (.int i)) : v = .int i := by
  rcases h with h | ⟨_, _, _, _, e, _⟩ | ⟨_, _, _, e, _⟩
  · cases h; rfl
  · cases e
  · cases e
theorem Cp.bl {i : Bool} (h : Cp K L H v (.bool i)) : v = .bl i := by
  rcases h with h | ⟨_, _, _, _, e, _⟩ | ⟨_, _, _, e, _⟩
  · cases h; rfl
  · cases e
  · cases e
theorem Cp.str {i : Str} (h : Cp K L H v (.str i)) : v = .str i := by
  rcases h with h | ⟨_, _, _, _, e, _⟩ | ⟨_, _, _, e, _⟩
  · cases h; rfl
  · cases e
  · cases e
theorem Cp.non (h : Cp K L H v .none) : v = .non := by
  rcases h with h | ⟨_, _, _, _, e, _⟩ | ⟨_, _, _, e, _⟩
  · cases h; rfl
  · cases e
  · cases e
theorem Cp.list {ds : List D} (h : Cp K L H v (.list ds)) : ∃ a xs, v = .ref a ∧ Rd H a (.lst xs) ∧ RpL K L H xs ds := by
  rcases h with h | ⟨a, xs, es, rfl, e, h, r⟩ | ⟨_, _, _, e, _⟩
  · cases h with
    | lst n r x => exact ⟨_, _, rfl, r, x⟩
  · cases e; exact ⟨a, xs, rfl, .inl h, r⟩
  · cases e
theorem Cp.tup {ds : List D} (h : Cp K L H v (.tuple ds)) : ∃ a xs, v = .ref a ∧ SqT K H a xs ∧ RpL K L H xs ds := by
  rcases h with h | ⟨_, _, _, _, e, _⟩ | ⟨_, _, _, e, _⟩
  · cases h with
    | tup n r x => exact ⟨_, _, rfl, .inl (.inl r), x⟩
  · cases e
  · cases e
theorem Cp.dict {ds : List (D × D)} (h : Cp K L H v (.dict ds)) : ∃ a, v = .ref a ∧ DcP K L H a ds := by
  rcases h with h | ⟨_, _, _, _, e, _⟩ | ⟨a, es, rfl, e, h⟩
  · cases h with
    | dicA n r q x => exact ⟨_, rfl, .inl ⟨_, r, q, x⟩⟩
    | dicT n r q x => exact ⟨_, rfl, .inr ⟨_, r, q, x⟩⟩
  · cases e
  · cases e; exact ⟨a, rfl, h⟩
theorem Cp.dp {d : D} (h : Cp K L H v d) (n : PyData.canLay0 d = true) : Dp K H v d := by
  rcases h with h | ⟨a, xs, ds, rfl, rfl, h, r⟩ | ⟨_, _, _, e, _⟩
  · exact h.dp n
  · exact .lst (.inl (.inl h)) (r.dp n)
  · subst e; cases n
/-- .. of a tuple known to the last sign, too -/
def CpT (K : PySem.W.Frag) (L : Addr → Prop) (H : Hp) (v : V) (d : D) : Prop := Cp K L H v d ∨ ∃ a xs ds, v = .ref a ∧ d = .tuple ds ∧ SqT K H a xs ∧ RpL K L H xs ds
theorem Cp.T {d : D} (h : Cp K L H v d) : CpT K L H v d := .inl h
theorem CpT.int {i : Int} (h : CpT K L H v (.int i)) : v = .int i := h.elim Cp.int fun ⟨_, _, _, _, e, _⟩ => nomatch e
theorem CpT.bl {i : Bool} (h : CpT K L H v (.bool i)) : v = .bl i := h.elim Cp.bl fun ⟨_, _, _, _, e, _⟩ => nomatch e
theorem CpT.str {i : Str} (h : CpT K L H v (.str i)) : v = .str i := h.elim Cp.str fun ⟨_, _, _, _, e, _⟩ => nomatch e
theorem CpT.non (h : CpT K L H v .none) : v = .non := h.elim Cp.non fun ⟨_, _, _, _, e, _⟩ => nomatch e
theorem CpT.list {ds : List D} (h : CpT K L H v (.list ds)) : ∃ a xs, v = .ref a ∧ Rd H a (.lst xs) ∧ RpL K L H xs ds := h.elim Cp.list fun ⟨_, _, _, _, e, _⟩ => nomatch e
theorem CpT.tup {ds : List D} (h : CpT K L H v (.tuple ds)) : ∃ a xs, v = .ref a ∧ SqT K H a xs ∧ RpL K L H xs ds := by
  rcases h with h | ⟨a, xs, es, rfl, e, q, r⟩
  · exact h.tup
  · cases e; exact ⟨a, xs, rfl, q, r⟩
theorem CpT.dict {ds : List (D × D)} (h : CpT K L H v (.dict ds)) : ∃ a, v = .ref a ∧ DcP K L H a ds := h.elim Cp.dict fun ⟨_, _, _, _, e, _⟩ => nomatch e
theorem CpT.dp {d : D} (h : CpT K L H v d) (n : PyData.canLay0 d = true) : Dp K H v d := by
  rcases h with h | ⟨a, xs, es, rfl, rfl, q, r⟩
  · exact h.dp n
  · exact .tup q (r.dp n)
theorem Cp.mono {L' : Addr → Prop} {d : D} (h : Rp K L H v d) : Cp K L H v d := .inl h
end
end
theorem contentT_cp {K : PySem.W.Frag} {M : List Addr} {H : Hp} {st : Sto} (sr : SR K M H st) {v : V} {r : RV} {d : D} (h : RVp K M (Lv M st) H v r) (e : contentT st r = some d) : CpT K (Lv M st) H v d := by
  cases r with
  | val x => exact .inl (content_cp sr h e)
  | ref n =>
    cases q : st[n]? with
    | none => simp only [contentT, q] at e; cases e
    | some o =>
      cases o with
      | lst ds => exact .inl (content_cp sr h (by simp only [contentT, q] at e; simp only [content, q]; exact e))
      | dic ds => exact .inl (content_cp sr h (by simp only [contentT, q] at e; simp only [content, q]; exact e))
      | tpl ds =>
        simp only [contentT, q] at e
        cases e
        obtain ⟨a, rfl, hM⟩ := h
        obtain ⟨xs, o, e1, _, r1⟩ := sr.obj n _ a q hM
        exact .inr ⟨a, xs, ds, rfl, rfl, .inl (.inr ⟨o, e1⟩), r1⟩
      | dead => simp only [contentT, q] at e; cases e
theorem cvE {X : Cx} {e : Expr} {t t' : TE} (h : PE X e t) (c : ∀ σ H Q, t' σ H Q → t σ H Q) : PE X e t' := ⟨fun pins s σ H Q I q => h.run pins s σ H Q I (c σ H Q q)⟩
theorem cvT {X : Cx} {e : Expr} {t t' : TT} (h : PT X e t) (c : ∀ σ H Q, t' σ H Q → t σ H Q) : PT X e t' := ⟨fun pins s σ H Q I q => h.run pins s σ H Q I (c σ H Q q)⟩
theorem cvW {X : Cx} {e : Expr} {t t' : TT} (h : PW X e t) (c : ∀ σ H Q, t' σ H Q → t σ H Q) : PW X e t' := ⟨fun wh pins s σ H Q I q => h.run wh pins s σ H Q I (c σ H Q q)⟩
theorem cvA {X : Cx} {e : List Expr} {t t' : TA} (h : PA X e t) (c : ∀ σ H Q, t' σ H Q → t σ H Q) : PA X e t' := ⟨fun pos pins s σ H Q I q => h.run pos pins s σ H Q I (c σ H Q q)⟩
section
variable {X : Cx} {C : Cn} {W : Wish}
/-! ### names, constants -/
theorem se_var {i : Nat} {x : Str} {pos : Pos} (hN : X.N[i]? = some x) (hv : Vis X.env.scope x) (hd : (x == ("__debug__" : Str)) = false) (hcd : (x == ("__classdict__" : Str)) = false) : PE X (.Name x pos) (tE X.K C W (.var i)) := by
  refine cvE (pe_var (pos := pos) hN hv hd hcd) fun σ H Q ⟨M, env, st, er, sr, h⟩ => ?_
  rw [ev] at h
  cases e : env[i]? with
  | none => rw [e] at h; exact h.elim
  | some o =>
    rw [e] at h
    cases o with
    | none => exact h.elim
    | some r =>
      obtain ⟨v, h1, h2⟩ := er.at_ i r e
      exact ⟨v, h1, PR.here sr h v h2⟩
/-- a value that is there whatever the heap -/
theorem se_lit {e : Expr} {v : V} {d : D} (he : PE X e (tC v)) (r : ∀ L H, Rp X.K L H v d) : PE X e (tE X.K C W (.lit d)) := by
  refine cvE he fun σ H Q ⟨M, env, st, er, sr, h⟩ => ?_
  rw [ev] at h
  exact PR.here sr h v (r _ _)
/-! ### displays -/
theorem pures_rp {K : PySem.W.Frag} {M : List Addr} {L : Addr → Prop} {H : Hp} : ∀ {vs : List V} {rs : List RV} {ds : List D}, RVs K M L H vs rs → pures rs = some ds → RpL K L H vs ds
  | _, _, _, .nil, e => by cases e; exact .nil
  | _, _, ds, .cons (r := r) (rs := rs) a b, e => by
    cases r with
    | ref n => cases e
    | val d =>
      have e1 : (pures rs).map (d :: ·) = some ds := e
      cases q : pures rs with
      | none => rw [q] at e1; cases e1
      | some es =>
        rw [q] at e1
        cases e1
        exact .cons a (pures_rp b q)
theorem sa_nil : PA X [] (tEs X.K C W .nil) := by
  refine cvA pa_nil fun σ H Q ⟨M, env, st, er, sr, h⟩ => ?_
  rw [evs] at h
  exact PR.here sr h [] .nil
theorem sa_cons {e : Expr} {es : List Expr} {a b : T} (ha : PE X e (tE X.K C W a)) (hb : PA X es (tEs X.K C W b)) (hs : starEach (e :: es) X.env = (false, eval e X.env) :: starEach es X.env) : PA X (e :: es) (tEs X.K C W (.cons a b)) := by
  refine cvA (pa_cons ha hb hs) fun σ H Q ⟨M, env, st, er, sr, h⟩ => ?_
  rw [evs] at h
  refine ⟨M, env, st, er, sr, (PR.bind h).imp fun x M1 st1 H1 p1 sr1 s1 h v1 r1 => ?_⟩
  refine ⟨M1, env, st1, er.mono p1 s1, sr1, (PR.bind h).imp fun y M2 st2 H2 p2 sr2 s2 h vs r2 => ?_⟩
  exact PR.here sr2 h _ (.cons (r1.mono p2 s2) r2)
theorem sizeOk_ok {n : Nat} (h : sizeOk n = true) : n ≤ sizeLine := by
  have := of_decide_eq_true h
  rw [sizeLine_eq]; exact this
theorem se_tup {es : List Expr} {k : Nat} {pos : Pos} {t : T} (ha : PA X es (tEs X.K C W t)) : PE X (.Tuple es k pos) (tE X.K C W (.tup t)) := by
  refine cvE (pe_tup (x1 := k) (pos := pos) ha) fun σ H Q ⟨M, env, st, er, sr, h⟩ => ?_
  rw [ev] at h
  refine ⟨M, env, st, er, sr, (PR.bind h).imp fun rs M1 st1 H1 p1 sr1 s1 h vs r => ?_⟩
  cases e : pures rs with
  | none => rw [e] at h; exact h.elim
  | some ds =>
    rw [e] at h
    have rl := pures_rp r e
    cases z : sizeOk ds.length with
    | false => simp only [z] at h; exact h.elim
    | true =>
      simp only [z] at h
      refine ⟨by rw [rl.len]; exact sizeOk_ok z, fun p hp => ?_⟩
      exact PR.there h (sr1.fresh hp) (Step.fresh hp) (.ref p) (.tup (sr1.nl hp) upd_same (rl.mono (Step.fresh hp)))
theorem se_lst {es : List Expr} {pos : Pos} {t : T} (ha : PA X es (tEs X.K C W t)) : PE X (.List es pos) (tE X.K C W (.lst t)) := by
  refine cvE (pe_lst (pos := pos) ha) fun σ H Q ⟨M, env, st, er, sr, h⟩ => ?_
  rw [ev] at h
  refine ⟨M, env, st, er, sr, (PR.bind h).imp fun rs M1 st1 H1 p1 sr1 s1 h vs r => ?_⟩
  cases e : pures rs with
  | none => rw [e] at h; exact h.elim
  | some ds =>
    rw [e] at h
    have rl := pures_rp r e
    cases z : sizeOk ds.length with
    | false => simp only [z] at h; exact h.elim
    | true =>
      simp only [z] at h
      refine ⟨by rw [rl.len]; exact sizeOk_ok z, fun p hp => ?_⟩
      exact PR.there h (sr1.fresh hp) (Step.fresh hp) (.ref p) (.lst (sr1.nl hp) (.inl upd_same) (rl.mono (Step.fresh hp)))
end
end MiS

namespace MiG
open PySem PySem.Spec PyProof.Rows L2
/-! ### tuple * int, whatever the int -/
theorem tuple_mulA (l : Addr) (items : Array Value) (n : Nat) (dd : Option Addr) (sl : Array (Option Value)) (x : Int) (u : Tok) (c0 : (decide (x < -(2 ^ 63)) || decide (x ≥ 2 ^ 63)) = false) (c1 : (items.isEmpty || x == 1) = true) :
    Meets (Builtin.«tuple.__mul__» ⟨[.ref l, .int x u], []⟩) (fun _ R s => s.heap.get? l = some { cls := .type "tuple", dict := dd, data := .seq items n, slots := sl } ∧
      R (.ok (.ret (Value.ref l))) s) :=
  .of_wp fun prog w A R s h => by
    obtain ⟨hp, g, d, tk, os⟩ := s
    obtain ⟨hl, h⟩ := h
    have f1 := AutoSeq1.idx_int
    wp_walk using wpAny_loadPart' hl
    repeat (first
      | (refine wpAny_ite_false (decide_eq_false (by rw [c0]; exact Bool.false_ne_true)) ?_; wp_walk using wpAny_loadPart' hl)
      | (refine wpAny_ite_true (decide_eq_true c1) ?_; wp_walk using wpAny_loadPart' hl))
    exact ⟨_, rfl, h⟩
theorem tuple_mulB (l : Addr) (items : Array Value) (n : Nat) (dd : Option Addr) (sl : Array (Option Value)) (x : Int) (u : Tok) (c0 : (decide (x < -(2 ^ 63)) || decide (x ≥ 2 ^ 63)) = false) (c1 : (items.isEmpty || x == 1) = false) (c2 : (decide (x ≤ 0) || items.isEmpty) = true) :
    Meets (Builtin.«tuple.__mul__» ⟨[.ref l, .int x u], []⟩) (fun _ R s => s.heap.get? l = some { cls := .type "tuple", dict := dd, data := .seq items n, slots := sl } ∧
      R (.ok (.ret (Value.ref s.heap.objs.size))) { s with heap := s.heap.push { cls := Value.type "tuple", data := Data.seq #[] }, toks := s.toks }) :=
  .of_wp fun prog w A R s h => by
    obtain ⟨hp, g, d, tk, os⟩ := s
    obtain ⟨hl, h⟩ := h
    have f1 := AutoSeq1.idx_int
    wp_walk using wpAny_loadPart' hl
    repeat (first
      | (refine wpAny_ite_false (decide_eq_false (by rw [c0]; exact Bool.false_ne_true)) ?_; wp_walk using wpAny_loadPart' hl)
      | (refine wpAny_ite_false (decide_eq_false (by rw [c1]; exact Bool.false_ne_true)) ?_; wp_walk using wpAny_loadPart' hl)
      | (refine wpAny_ite_true (decide_eq_true c2) ?_; wp_walk using wpAny_loadPart' hl)
      | (refine wpAny_ite_false (decide_eq_false (by decide)) ?_; wp_walk using wpAny_loadPart' hl))
    exact ⟨_, rfl, h⟩
def rRepG (K : PySem.W.Frag) : R2 := fun x y H Q => ∃ l k xs, x = .ref l ∧ y = .int k ∧ SqT K H l xs ∧ -(2 ^ 63) ≤ k ∧ k < 2 ^ 63 ∧ xs.length * k.toNat ≤ sizeLine ∧
  ((xs = [] ∨ k = 1) → Q (.ref l) H) ∧ (¬ (xs = [] ∨ k = 1) → ∀ p, H p = none → Q (.ref p) (upd H p (.tup (List.replicate k.toNat xs).flatten)))
theorem op_repG {X : Cx} : OpR X (binaryOp .Mult) (rRepG X.K) := by
  intro pins s σ H x y v u Q I rx ry h
  obtain ⟨l, k, xs, rfl, rfl, hT, h1, h2, hz, q1, q2⟩ := h
  cases rx
  obtain ⟨t, rfl⟩ := ry
  obtain ⟨its, r, ⟨⟨cls, dd, data, sl⟩, ho, hc, n, hd⟩, hs⟩ := I.tuple hT
  simp only at hc hd
  subst hc hd
  have hle : its.length = xs.length := r.length.symm
  have hsz0 : its.toArray.size = xs.length := by rw [List.size_toArray, hle]
  have c0 : (decide (k < -(2 ^ 63)) || decide (k ≥ 2 ^ 63)) = false := by
    rw [decide_eq_false (by omega), decide_eq_false (by omega)] <;> rfl
  have go : ∀ (Q' : Value → Shared → Prop), (∀ R : Result → Shared → Prop, (∀ u s', R (.ok (.ret u)) s' ↔ Q' u s') → True) → True := fun _ _ => trivial
  refine wpAny_binaryOp_repeat_ref (T := "tuple") (U := "int") (by decide) ⟨_, ho, rfl⟩ (fun s' => typeIs_int s' k t) noFill_tuple_mul F.fills_int_mul F.slot_int_rmul repeat_tuple F.slot_int_index.lookup
    (call_meets F.slot_int_rmul (typeIs_int s k t) F.entry_int_rmul (F.args_int_rmul_2 _ _) (int_rmul_tuple k t l its.toArray n dd sl) ⟨ho, rfl, ⟨_, ho, rfl⟩, ?_⟩)
  by_cases hA : xs = [] ∨ k = 1
  · have c1 : (its.toArray.isEmpty || k == 1) = true := by
      rcases hA with e | e
      · subst e
        have : its = [] := List.eq_nil_of_length_eq_zero (by rw [hle]; rfl)
        subst this; rfl
      · subst e; simp
    exact call_meets F.slot_tuple_mul ⟨_, ho, rfl⟩ F.entry_tuple_mul (F.args_tuple_mul_2 _ _) (tuple_mulA l its.toArray n dd sl k t c0 c1) ⟨ho, .ref l, H, I, rfl, q1 hA⟩
  · have hne : xs ≠ [] := fun e => hA (.inl e)
    have hk1 : k ≠ 1 := fun e => hA (.inr e)
    have hi : its.toArray.isEmpty = false := by
      cases its with
      | nil => exact absurd (List.eq_nil_of_length_eq_zero hle.symm) hne
      | cons a b => rfl
    have c1 : (its.toArray.isEmpty || k == 1) = false := by
      rw [hi, Bool.false_or]
      exact beq_eq_false_iff_ne.mpr hk1
    have nf : H s.heap.objs.size = none := I.hok.fresh (Nat.le_refl _)
    by_cases hk0 : k ≤ 0
    · have c2 : (decide (k ≤ 0) || its.toArray.isEmpty) = true := by rw [decide_eq_true hk0]; rfl
      have q3 := q2 hA _ nf
      have ek : k.toNat = 0 := by omega
      rw [ek] at q3
      refine call_meets F.slot_tuple_mul ⟨_, ho, rfl⟩ F.entry_tuple_mul (F.args_tuple_mul_2 _ _) (tuple_mulB l its.toArray n dd sl k t c0 c1 c2) ⟨ho, ?_⟩
      refine ⟨.ref s.heap.objs.size, _, I.laid (t' := s.toks) (o := .tup []) (fun b ob q => Heap.get?_push_of_some _ q) (Nat.le_refl _) ?_, rfl, q3⟩
      exact ⟨Nat.zero_le _, [], .nil, IsTup.new _ _⟩
    · have c2 : (decide (k ≤ 0) || its.toArray.isEmpty) = false := by
        rw [hi, Bool.or_false]
        exact decide_eq_false hk0
      have flen : (List.replicate k.toNat its).flatten.length ≤ sizeLine := by
        rw [PyProof.Rows.lm_len_rep_flat, hle, Nat.mul_comm]
        exact hz
      have ekn : ((k.toNat : Nat) : Int) = k := Int.toNat_of_nonneg (by omega)
      have hm : ((its.toArray.size : Nat) : Int) * k ≤ (sizeLine : Nat) := by
        rw [hsz0, ← ekn, ← Int.natCast_mul]
        exact Int.ofNat_le.mpr hz
      have c3 : ¬ ((its.toArray.size : Nat) : Int) * k > (2 ^ 63 - 1) / 8 := by
        rw [sizeLine_eq] at hm
        omega
      have c4 : Builtin.Tuple.tupleTooMany (((its.toArray.size : Nat) : Int) * k) = false := by
        unfold Builtin.Tuple.tupleTooMany
        exact decide_eq_false (by omega)
      refine call_meets F.slot_tuple_mul ⟨_, ho, rfl⟩ F.entry_tuple_mul (F.args_tuple_mul_2 _ _) (tuple_mulW l its.toArray n dd sl k t c0 c1 c2 c3 c4 (by rw [size_rep, List.size_toArray]; exact flen)) ⟨ho, ?_⟩
      rw [size_rep]
      refine ⟨.ref s.heap.objs.size, _, I.laid (t' := s.toks) (o := .tup (List.replicate k.toNat xs).flatten) (fun b ob q => Heap.get?_push_of_some _ q) (Nat.le_refl _) ?_, rfl, q2 hA _ nf⟩
      exact ⟨by rw [PyProof.Rows.lm_len_rep_flat, Nat.mul_comm]; exact hz, _, r.rep k.toNat, IsTup.new _ _⟩
/-! ### list + list, whatever holds them -/
def rCatG : R2 := fun x y H Q => ∃ l b xs zs, x = .ref l ∧ y = .ref b ∧ Rd H l (.lst xs) ∧ Rd H b (.lst zs) ∧ xs.length + zs.length ≤ sizeLine ∧ ∀ p, H p = none → Q (.ref p) (upd H p (.lst (xs ++ zs)))
theorem op_catG {X : Cx} : OpR X (binaryOp .Add) rCatG := by
  intro pins s σ H x y v u Q I rx ry h
  obtain ⟨l, b, xs, zs, rfl, rfl, hH, hB, hz, q⟩ := h
  cases rx
  cases ry
  obtain ⟨z, its, n, r, e⟩ := hH.ok I.hok
  obtain ⟨z2, its2, n2, r2, e2⟩ := hB.ok I.hok
  have hl := r.length
  have hl2 := r2.length
  refine PySem.P.add_list e e2 ?_ (by rw [List.size_toArray, List.size_toArray]; omega)
  have ea : its.toArray ++ its2.toArray = (its ++ its2).toArray := by simp
  rw [ea]
  exact ⟨.ref _, _, I.lnew (t' := s.toks) (r.append r2) (by rw [List.length_append]; omega), rfl, q _ I.fresh⟩
end MiG
namespace MiG
open PySem PySem.Spec PyProof.Rows L2
def rRepL : R2 := fun x y H Q => ∃ l k xs, x = .ref l ∧ y = .int k ∧ Rd H l (.lst xs) ∧ -(2 ^ 63) ≤ k ∧ k < 2 ^ 63 ∧ xs.length * k.toNat ≤ sizeLine ∧
  ∀ p, H p = none → Q (.ref p) (upd H p (.lst (List.replicate k.toNat xs).flatten))
/-- a thing that is read as it would be if it were tracked -/
theorem op_repL {X : Cx} : OpR X (binaryOp .Mult) rRepL := by
  intro pins s σ H x y v u Q I rx ry h
  obtain ⟨l, k, xs, rfl, rfl, hH, h1, h2, hz, q⟩ := h
  cases rx
  obtain ⟨t, rfl⟩ := ry
  obtain ⟨z, its, n, r, e⟩ := hH.ok I.hok
  have hl := r.length
  have hlen : its.toArray.size * k.toNat ≤ sizeLine := by rw [List.size_toArray, ← hl]; exact hz
  have hcap : ¬ its.toArray.size * k.toNat > (2 ^ 63 - 1) / 8 := by
    have : (sizeLine : Nat) ≤ (2 ^ 63 - 1) / 8 := by decide
    omega
  have hfit : ¬ (!Builtin.List.listFitsIndex k) = true := by
    rw [fitsIndex_both h1 h2]
    exact Bool.false_ne_true
  have hlong : ¬ Builtin.List.listTooLong (its.toArray.size * k.toNat) = true := by
    rw [notLongL hlen]
    exact Bool.false_ne_true
  have hnew : List.foldl (fun x1 x2 => x1 ++ x2) #[] (List.replicate (if its.toArray.isEmpty = true then 0 else k.toNat) its.toArray) = (List.replicate k.toNat its).flatten.toArray := by
    have f0 : ∀ m : Nat, List.foldl (fun x1 x2 => x1 ++ x2) #[] (List.replicate m its.toArray) = (List.replicate m its).flatten.toArray := fun m => by
      have := foldl_rep its m []
      rw [List.nil_append] at this
      exact this
    rw [f0]
    cases its with
    | nil => simp
    | cons a r' => rw [if_neg (by simp)]
  refine wpAny_binaryOp_repeat_ref (T := "list") (U := "int") (by decide) ⟨_, e, rfl⟩ (fun s' => typeIs_int s' k t) noFill_list_mul F.fills_int_mul F.slot_int_rmul repeat_list F.slot_int_index.lookup
    (call_meets F.slot_int_rmul (typeIs_int s k t) F.entry_int_rmul (F.args_int_rmul_2 _ _) (int___rmul___int_list k t l its.toArray n)
      ⟨e, rfl, ⟨_, e, rfl⟩, call_meets F.slot_list_mul ⟨_, e, rfl⟩ F.entry_list_mul (F.args_list_mul_2 _ _) (AutoListH.list___mul___list_int_3 l its.toArray n k t hfit hcap hlong) ⟨e, ?_⟩⟩)
  rw [hnew]
  exact ⟨.ref _, _, I.lnew (t' := s.toks) (r.rep k.toNat) (by rw [PyProof.Rows.lm_len_rep_flat, Nat.mul_comm]; exact hz), rfl, q _ I.fresh⟩
end MiG

namespace MiS
open PySem PySem.Spec PyProof.Rows L2 Mi MiG
variable [Tb]
def pyOp : Op → Operator
  | .add => .Add
  | .sub => .Sub
  | .mul => .Mult
  | .mod => .Mod
  | .fdiv => .FloorDiv
  | .pow => .Pow
def rStrAdd : R2 := fun x y H Q => ∃ i j, x = .str i ∧ y = .str j ∧ i.length + j.length ≤ sizeLine ∧ Q (.str (i ++ j)) H
def rOp (K : PySem.W.Frag) : Op → R2
  | .add => fun x y H Q => rI0 (fun i j => .int (i + j)) x y H Q ∨ rStrAdd x y H Q ∨ rCatG x y H Q ∨ rCatA K x y H Q
  | .sub => rI0 fun i j => .int (i - j)
  | .mul => fun x y H Q => rI CMul (fun i j => .int (i * j)) x y H Q ∨ rRepL x y H Q ∨ rRepG K x y H Q
  | .mod => rI (fun _ j => 0 < j) fun i j => .int (i % j)
  | .fdiv => rI CDiv fun i j => .int (i / j)
  | .pow => rI CPow fun i j => .int (i ^ j.toNat)
theorem op_ok {X : Cx} (o : Op) : OpR X (binaryOp (pyOp o)) (rOp X.K o) := by
  cases o with
  | add => exact op_add.or (op_add_str.or (op_catG.or op_catA))
  | sub => exact op_sub
  | mul => exact op_mul.or (op_repL.or op_repG)
  | mod => exact op_mod
  | fdiv => exact op_fdiv
  | pow => exact op_pow
section
variable {K : PySem.W.Frag} {M : List Addr} {H : Hp} {st : Sto}
/-- what the end of an expression wants: a value of the data, at this heap or one that has grown by new objects -/
def Wants (K : PySem.W.Frag) (M : List Addr) (H : Hp) (st : Sto) (d : D) (Q : VK) : Prop := ∀ H' v, SR K M H' st → Step (Lv M st) H (Lv M st) H' → Rp K (Lv M st) H' v d → Q v H'
theorem Wants.of {W : Wish} {d : D} {Q : VK} (h : PR K M H st (.ok (.val d) st) W (QV K Q)) : Wants K M H st d Q := fun H' v sr s r => h M H' (List.prefix_refl _) sr s v r
theorem Wants.here {d : D} {Q : VK} (w : Wants K M H st d Q) (sr : SR K M H st) {v : V} (r : Rp K (Lv M st) H v d) : Q v H := w H v sr Step.refl r
theorem Wants.int {i : Int} {Q : VK} (w : Wants K M H st (.int i) Q) (sr : SR K M H st) : Q (.int i) H := w.here sr (.int i)
theorem Wants.bl {i : Bool} {Q : VK} (w : Wants K M H st (.bool i) Q) (sr : SR K M H st) : Q (.bl i) H := w.here sr (.bl i)
theorem Wants.str {i : Str} {Q : VK} (w : Wants K M H st (.str i) Q) (sr : SR K M H st) : Q (.str i) H := w.here sr (.str i)
theorem Wants.tup {ds : List D} {xs : List V} {Q : VK} (w : Wants K M H st (.tuple ds) Q) (sr : SR K M H st) (r : RpL K (Lv M st) H xs ds) : ∀ p, H p = none → Q (.ref p) (upd H p (.tup xs)) :=
  fun p hp => w _ _ (sr.fresh hp) (Step.fresh hp) (.tup (sr.nl hp) upd_same (r.mono (Step.fresh hp)))
theorem Wants.lst {ds : List D} {xs : List V} {Q : VK} (w : Wants K M H st (.list ds) Q) (sr : SR K M H st) (r : RpL K (Lv M st) H xs ds) : ∀ p, H p = none → Q (.ref p) (upd H p (.lst xs)) :=
  fun p hp => w _ _ (sr.fresh hp) (Step.fresh hp) (.lst (sr.nl hp) (.inl upd_same) (r.mono (Step.fresh hp)))
/-- a tuple is plain whatever it came by -/
theorem Cp.rt {L : Addr → Prop} {v : V} {ds : List D} (h : Cp K L H v (.tuple ds)) : Rp K L H v (.tuple ds) := by
  rcases h with h | ⟨_, _, _, _, e, _⟩ | ⟨_, _, _, e, _⟩
  · exact h
  · cases e
  · cases e
theorem bop_end (sr : SR K M H st) {o : Op} {v u : V} {x y z : D} (c1 : Cp K (Lv M st) H v x) (c2 : Cp K (Lv M st) H u y) (e : bop o x y = some z) {Q : VK} (w : Wants K M H st z Q) : rOp K o v u H Q := by
  cases o with
  | add =>
    cases x <;> cases y <;> first
      | (exfalso; simp [bop] at e; done)
      | skip
    · cases e
      cases c1.int; cases c2.int
      exact .inl ⟨_, _, rfl, rfl, w.int sr⟩
    · cases c1.str; cases c2.str
      simp only [bop] at e
      split at e
      · cases e
        rename_i hz
        exact .inr (.inl ⟨_, _, rfl, rfl, sizeOk_ok hz, w.str sr⟩)
      · cases e
    · obtain ⟨a, xs, rfl, ra, pa⟩ := c1.list
      obtain ⟨b, ys, rfl, rb, pb⟩ := c2.list
      simp only [bop] at e
      split at e
      · cases e
        rename_i hz
        refine .inr (.inr (.inl ⟨a, b, xs, ys, rfl, rfl, ra, rb, ?_, w.lst sr (pa.app pb)⟩))
        rw [pa.len, pb.len]; exact sizeOk_ok hz
      · cases e
    · have k1 := c1.rt
      have k2 := c2.rt
      obtain ⟨a, xs, rfl, ra, pa⟩ := c1.tup
      obtain ⟨b, ys, rfl, rb, pb⟩ := c2.tup
      simp only [bop] at e
      split at e
      · cases e
        rename_i hz
        refine .inr (.inr (.inr ⟨a, b, xs, ys, rfl, rfl, ra, rb, ?_, fun e0 => ?_, fun _ e0 => ?_, fun _ _ => w.tup sr (pa.app pb)⟩))
        · rw [pa.len, pb.len]; exact sizeOk_ok hz
        · subst e0
          cases pa
          exact w.here sr k2
        · subst e0
          cases pb
          rw [List.append_nil] at w
          exact w.here sr k1
      · cases e
  | sub =>
    cases x <;> cases y <;> first
      | (exfalso; simp [bop] at e; done)
      | skip
    cases e
    cases c1.int; cases c2.int
    exact ⟨_, _, rfl, rfl, w.int sr⟩
  | mul =>
    cases x <;> cases y <;> first
      | (exfalso; simp [bop] at e; done)
      | skip
    · cases c1.int; cases c2.int
      simp only [bop] at e
      split at e
      · cases e
        rename_i hz
        refine .inl ⟨_, _, rfl, rfl, ?_, w.int sr⟩
        unfold CMul
        rcases Bool.or_eq_true_iff.mp hz with h | h
        · have := Bool.and_eq_true_iff.mp h
          exact .inl ⟨of_decide_eq_true this.1, of_decide_eq_true this.2⟩
        · have := Bool.and_eq_true_iff.mp h
          exact .inr ⟨of_decide_eq_true this.1, of_decide_eq_true this.2⟩
      · cases e
    · obtain ⟨a, xs, rfl, ra, pa⟩ := c1.list
      cases c2.int
      simp only [bop] at e
      split at e
      · cases e
        rename_i hz
        have h1 := Bool.and_eq_true_iff.mp hz
        have h2 := Bool.and_eq_true_iff.mp h1.1
        have a1 := of_decide_eq_true h2.1
        have a2 := of_decide_eq_true h2.2
        exact .inr (.inl ⟨a, _, xs, rfl, rfl, ra, by omega, by omega, by rw [pa.len]; exact sizeOk_ok h1.2, w.lst sr (pa.rep _)⟩)
      · cases e
    · have k1 := c1.rt
      obtain ⟨a, xs, rfl, ra, pa⟩ := c1.tup
      cases c2.int
      simp only [bop] at e
      split at e
      · cases e
        rename_i hz
        have h1 := Bool.and_eq_true_iff.mp hz
        have h2 := Bool.and_eq_true_iff.mp h1.1
        have a1 := of_decide_eq_true h2.1
        have a2 := of_decide_eq_true h2.2
        refine .inr (.inr ⟨a, _, xs, rfl, rfl, ra, by omega, by omega, by rw [pa.len]; exact sizeOk_ok h1.2, fun e0 => ?_, fun _ => w.tup sr (pa.rep _)⟩)
        rcases e0 with e0 | e0
        · subst e0
          cases pa
          have en : ∀ n, Mi.rep ([] : List D) n = [] := fun n => by unfold Mi.rep; simp
          rw [en] at w
          exact w.here sr k1
        · subst e0
          have en : ∀ ds : List D, Mi.rep ds (1 : Int).toNat = ds := fun ds => by unfold Mi.rep; simp
          rw [en] at w
          exact w.here sr k1
      · cases e
  | mod =>
    cases x <;> cases y <;> first
      | (exfalso; simp [bop] at e; done)
      | skip
    cases c1.int; cases c2.int
    simp only [bop] at e
    split at e
    · cases e
      rename_i hz
      exact ⟨_, _, rfl, rfl, hz, w.int sr⟩
    · cases e
  | fdiv =>
    cases x <;> cases y <;> first
      | (exfalso; simp [bop] at e; done)
      | skip
    cases c1.int; cases c2.int
    simp only [bop] at e
    split at e
    · cases e
      rename_i hz
      have := Bool.and_eq_true_iff.mp hz
      exact ⟨_, _, rfl, rfl, ⟨of_decide_eq_true this.1, of_decide_eq_true this.2⟩, w.int sr⟩
    · cases e
  | pow =>
    cases x <;> cases y <;> first
      | (exfalso; simp [bop] at e; done)
      | skip
    cases c1.int; cases c2.int
    simp only [bop] at e
    split at e
    · cases e
      rename_i hz
      have h1 := Bool.and_eq_true_iff.mp hz
      have h2 := Bool.and_eq_true_iff.mp h1.2
      have h3 := Bool.and_eq_true_iff.mp h2.2
      have a1 := of_decide_eq_true h1.1
      have a2 := of_decide_eq_true h2.1
      have a3 := of_decide_eq_true h3.1
      have a4 := of_decide_eq_true h3.2
      refine ⟨_, _, rfl, rfl, ⟨a1, by omega, by omega⟩, w.int sr⟩
    · cases e
end
section
variable {X : Cx} {C : Cn} {W : Wish}
theorem se_op {o : Op} {a b : Expr} {ta tb : T} {pos : Pos} (ha : PE X a (tE X.K C W ta)) (hb : PE X b (tE X.K C W tb)) : PE X (.BinOp a (pyOp o) b pos) (tE X.K C W (.op o ta tb)) := by
  refine cvE (pe_op (op_ok o) ha hb) fun σ H Q ⟨M, env, st, er, sr, h⟩ => ?_
  rw [ev] at h
  refine ⟨M, env, st, er, sr, (PR.bind h).imp fun x M1 st1 H1 p1 sr1 s1 h v1 r1 => ?_⟩
  refine ⟨M1, env, st1, er.mono p1 s1, sr1, (PR.bind h).imp fun y M2 st2 H2 p2 sr2 s2 h v2 r2 => ?_⟩
  cases e1 : content st2 x with
  | none => simp only [e1] at h; exact h.elim
  | some dx =>
    cases e2 : content st2 y with
    | none => simp only [e1, e2] at h; exact h.elim
    | some dy =>
      simp only [e1, e2] at h
      cases e3 : bop o dx dy with
      | none => simp only [e3] at h; exact h.elim
      | some z =>
        simp only [e3] at h
        exact bop_end sr2 (content_cp sr2 (r1.mono p2 s2) e1) (content_cp sr2 r2 e2) e3 (Wants.of h)
end
end MiS

namespace MiS
open PySem PySem.Spec PyProof.Rows L2 Mi MiG
variable [Tb]
/-! ### == of plain data -/
mutual
theorem deq_eqv : ∀ a b : D, deq a b = PyData.eqv a b
  | .none, b => by cases b <;> simp [deq, PyData.eqv]
  | .bool a, b => by
    cases b <;> simp only [deq, PyData.eqv]
    rename_i j
    cases a <;> simp [boolI, Bool.beq_eq_decide_eq] <;> rfl
  | .int a, b => by
    cases b <;> simp only [deq, PyData.eqv]
    · rename_i j
      cases j <;> simp [boolI] <;> rfl
    · rfl
  | .str a, b => by cases b <;> simp [deq, PyData.eqv]
  | .list xs, b => by
    cases b <;> simp only [deq, PyData.eqv]
    exact deqs_eqv xs _
  | .tuple xs, b => by
    cases b <;> simp only [deq, PyData.eqv]
    exact deqs_eqv xs _
  | .dict xs, b => by cases b <;> simp [deq, PyData.eqv]
theorem deqs_eqv : ∀ a b : List D, deqs a b = PyData.eqvAll a b
  | [], [] => by simp [deqs, PyData.eqvAll]
  | [], _ :: _ => by simp [deqs, PyData.eqvAll]
  | _ :: _, [] => by simp [deqs, PyData.eqvAll]
  | x :: xs, y :: ys => by
    simp only [deqs, PyData.eqvAll]
    rw [deq_eqv x y, deqs_eqv xs ys]
end
theorem has_any (x : D) : ∀ ys : List D, has x ys = ys.any fun z => PyData.eqv z x
  | [] => rfl
  | y :: r => by
    show (deq y x || has x r) = _
    rw [deq_eqv, has_any x r]
    rfl
/-! ### the rules by values -/
def rEqM (K : PySem.W.Frag) (neg : Bool) : R2 := fun x y H Q => ∃ d e, Dp K H x d ∧ Dp K H y e ∧ PyData.canLay0 d = true ∧ PyData.canLay0 e = true ∧ min d.depth e.depth ≤ 60 ∧ Q (.bl (if neg then !PyData.eqv d e else PyData.eqv d e)) H
theorem op_eqM {X : Cx} (hu : X.A.units + 64 < cLine) : OpR X (compareOp .Eq) (rEqM X.K false) := by
  intro pins s σ H x y v u Q I rx ry h
  obtain ⟨d, e, hd, he, sd, se, hm, q⟩ := h
  obtain ⟨as, r1⟩ := Dp.reads I d x v hd rx
  obtain ⟨bs, r2⟩ := Dp.reads I e y u he ry
  exact SeqAt.compareEq_reads r1 r2 sd se (by omega) ⟨.bl _, H, I, rfl, q⟩
theorem op_neM {X : Cx} (hu : X.A.units + 64 < cLine) : OpR X (compareOp .NotEq) (rEqM X.K true) := by
  intro pins s σ H x y v u Q I rx ry h
  obtain ⟨d, e, hd, he, sd, se, hm, q⟩ := h
  obtain ⟨as, r1⟩ := Dp.reads I d x v hd rx
  obtain ⟨bs, r2⟩ := Dp.reads I e y u he ry
  exact SeqAt.compareNe_reads r1 r2 sd se (by omega) ⟨.bl _, H, I, rfl, q⟩
/-- what a dict holds at a key; an empty one holds nothing, whatever its keys are to be -/
def DGot (H : Hp) (a : Addr) (y : V) (o : Option V) : Prop :=
  DGet H a y o ∨ (o = none ∧ Rd H a (.dK []) ∧ ∃ (k : List Key) (b : Addr), y = .ref b ∧ H b = some (.tup (k.map kV))) ∨ (o = none ∧ Rd H a (.dT []) ∧ ∃ k : Key, y = kV k)
section
variable {P : Program} {w : World} {H : Hp} {h : Heap} {a : Addr}
theorem emptyK (ok : HOk P w H h) (e : Rd H a (.dK [])) : (a == sysModules) = false ∧ h.DictOfH (tupleKind (mixKind P w)) a [] := by
  obtain ⟨z, hd, vs, rel, o, es, ep, h1, h2, h3, h4, h5, h6⟩ := dk_rd ok e
  cases rel
  refine ⟨hd, o, es, ep, h1, h2, h3, ?_, fun x hx => absurd hx (by simp), by simp⟩
  cases h5' : es.toList with
  | nil => rfl
  | cons x r => rw [h5'] at h5; cases h5
theorem emptyT (ok : HOk P w H h) (e : Rd H a (.dT [])) : (a == sysModules) = false ∧ h.DictOf (mixKind P w) a [] := by
  obtain ⟨z, hd, xs, rel, o, es, ep, h1, h2, h3, h4, h5, h6⟩ := dt_rd ok e
  cases rel
  have he : es.toList = [] := h4
  refine ⟨hd, o, es, ep, h1, h2, h3, ?_, by rw [he]; exact .nil, by simp⟩
  intro x hx
  have : x ∈ es.toList := by simpa using hx
  rw [he] at this
  exact absurd this (by simp)
end
section
variable {X : Cx} {pins : List (Addr × Obj)} {σ : L2.St} {H : Hp} {s : Shared} {a : Addr} {y v : V} {u r : Value} {o : Option V} {A : Around} {E : Value → Shared → Prop}
theorem d_in' {Q : Value → Shared → Prop} (hu : A.units + 1 < cLine) (I : Inv X pins σ H s) (g : DGot H a y o) (ry : RelV y u) (h : ∀ s', Inv X pins σ H s' → Q (.bool o.isSome) s') :
    wpAny (model X.prog X.w) A (compareOp .In u (.ref a)) Q E s := by
  rcases g with g | ⟨rfl, e, k, b, rfl, eb⟩ | ⟨rfl, e, k, rfl⟩
  · exact d_in hu I g ry h
  · cases (show u = Value.ref b from ry)
    obtain ⟨hd, dd⟩ := emptyK I.hok e
    exact wpAny_in_heap (tupleKind_room_in1 hu) (key_of I.hok eb) hd dd (h _ (I.tok _))
  · obtain ⟨hd, dd⟩ := emptyT I.hok e
    exact wpAny_in_of (kV_is ry) hd dd.mapOf (h _ (I.tok _))
theorem d_notIn' {Q : Value → Shared → Prop} (hu : A.units + 1 < cLine) (I : Inv X pins σ H s) (g : DGot H a y o) (ry : RelV y u) (h : ∀ s', Inv X pins σ H s' → Q (.bool (!o.isSome)) s') :
    wpAny (model X.prog X.w) A (compareOp .NotIn u (.ref a)) Q E s := by
  rcases g with g | ⟨rfl, e, k, b, rfl, eb⟩ | ⟨rfl, e, k, rfl⟩
  · exact d_notIn hu I g ry h
  · cases (show u = Value.ref b from ry)
    obtain ⟨hd, dd⟩ := emptyK I.hok e
    refine wpAny_notIn_heap (tupleKind_room_in1 hu) (key_of I.hok eb) hd dd (h _ (I.tok _))
  · obtain ⟨hd, dd⟩ := emptyT I.hok e
    exact wpAny_notIn_of (kV_is ry) hd dd.mapOf (h _ (I.tok _))
end
def rInDc (neg : Bool) : R2 := fun x y H Q => ∃ a o, y = .ref a ∧ DGot H a x o ∧ Q (.bl (if neg then !o.isSome else o.isSome)) H
theorem op_inDc {X : Cx} (hu : X.A.units + 64 < cLine) : OpR X (compareOp .In) (rInDc false) := by
  intro pins s σ H x y v u Q I rx ry h
  obtain ⟨a, o, rfl, g, q⟩ := h
  cases (show u = Value.ref a from ry)
  exact d_in' (by omega) I g rx fun s' I' => ⟨.bl _, H, I', rfl, q⟩
theorem op_ninDc {X : Cx} (hu : X.A.units + 64 < cLine) : OpR X (compareOp .NotIn) (rInDc true) := by
  intro pins s σ H x y v u Q I rx ry h
  obtain ⟨a, o, rfl, g, q⟩ := h
  cases (show u = Value.ref a from ry)
  exact d_notIn' (by omega) I g rx fun s' I' => ⟨.bl _, H, I', rfl, q⟩
/-! ### what the data's dict says of the layer's -/
theorem deq_kD (a b : Key) : deq (kD a) (kD b) = decide (a = b) := by
  cases a <;> cases b <;> simp [kD, deq]
  rw [Bool.eq_iff_iff]; simp
theorem deqs_kD : ∀ a b : List Key, deqs (a.map kD) (b.map kD) = decide (a = b)
  | [], [] => rfl
  | [], _ :: _ => by simp [deqs]
  | _ :: _, [] => by simp [deqs]
  | x :: xs, y :: ys => by
    show (deq (kD x) (kD y) && deqs (xs.map kD) (ys.map kD)) = _
    rw [deq_kD, deqs_kD xs ys]
    simp
theorem deq_kDs (a b : List Key) : deq (kDs a) (kDs b) = decide (a = b) := deqs_kD a b
section
variable {K : PySem.W.Frag} {L : Addr → Prop} {H : Hp} {κ : Type} [DecidableEq κ] {g : κ → D}
theorem look_val (hg : ∀ a b, deq (g a) (g b) = decide (a = b)) (k : κ) : ∀ {kvs : List (κ × V)} {ds : List (D × D)}, kvs.map (fun p => g p.1) = ds.map (·.1) → RpL K L H (kvs.map (·.2)) (ds.map (·.2)) →
    (∃ v d, valV kvs k = some v ∧ look ds (g k) = some d ∧ Rp K L H v d) ∨ (valV kvs k = none ∧ look ds (g k) = none)
  | [], [], _, _ => .inr ⟨rfl, rfl⟩
  | [], _ :: _, e, _ => by cases e
  | _ :: _, [], e, _ => by cases e
  | (k', v) :: kvs, (d', d) :: ds, e, r => by
    have e1 : g k' = d' := (List.cons.inj e).1
    have e2 := (List.cons.inj e).2
    subst e1
    cases r with
    | cons r1 r2 =>
      by_cases hk : k' = k
      · subst hk
        refine .inl ⟨v, d, valV_pos rfl, ?_, r1⟩
        show (if deq (g k') (g k') = true then some d else look ds (g k')) = some d
        rw [hg, decide_eq_true rfl, if_pos rfl]
      · have l1 : look ((g k', d) :: ds) (g k) = look ds (g k) := by
          show (if deq (g k') (g k) = true then some d else look ds (g k)) = _
          rw [hg, decide_eq_false hk, if_neg Bool.false_ne_true]
        rw [valV_neg (p := (k', v)) hk, l1]
        exact look_val hg k e2 r2
end
/-- a key of whole numbers and texts -/
theorem keyA_of {K : PySem.W.Frag} {L : Addr → Prop} {H : Hp} {y : V} {k : D} (r : Rp K L H y k) (h : keyA k = true) : ∃ q : Key, y = kV q ∧ k = kD q := by
  cases r with
  | int i => exact ⟨.inl i, rfl, rfl⟩
  | str x => exact ⟨.inr x, rfl, rfl⟩
  | _ => cases h
theorem keyAs_of {K : PySem.W.Frag} {L : Addr → Prop} {H : Hp} : ∀ {ys : List V} {ks : List D}, RpL K L H ys ks → ks.all keyA = true → ∃ q : List Key, ys = q.map kV ∧ ks = q.map kD
  | _, _, .nil, _ => ⟨[], rfl, rfl⟩
  | _, _, .cons a b, h => by
    have h1 := Bool.and_eq_true_iff.mp h
    obtain ⟨q, rfl, rfl⟩ := keyA_of a h1.1
    obtain ⟨qs, rfl, rfl⟩ := keyAs_of b h1.2
    exact ⟨q :: qs, rfl, rfl⟩
theorem keyT_of {K : PySem.W.Frag} {L : Addr → Prop} {H : Hp} {y : V} {k : D} (r : Rp K L H y k) (h : keyT k = true) : ∃ (q : List Key) (b : Addr), y = .ref b ∧ H b = some (.tup (q.map kV)) ∧ k = kDs q := by
  cases r with
  | tup n e x =>
    obtain ⟨q, rfl, rfl⟩ := keyAs_of x h
    exact ⟨q, _, rfl, e, rfl⟩
  | _ => cases h
theorem keyA_kD (k : Key) : keyA (kD k) = true := by cases k <;> rfl
theorem kDs_notA (k : List Key) : keyA (kDs k) = false := rfl
theorem kD_notT (k : Key) : keyT (kD k) = false := by cases k <;> rfl
/-- the data's look-up is the dict's -/
theorem dgot {K : PySem.W.Frag} {L : Addr → Prop} {H : Hp} {a : Addr} {ds : List (D × D)} {y : V} {k : D} (c : DcP K L H a ds) (r : Rp K L H y k) (h : keyOk ds k = true) :
    (∃ v d, DGot H a y (some v) ∧ look ds k = some d ∧ Rp K L H v d) ∨ (DGot H a y none ∧ look ds k = none) := by
  rcases Bool.or_eq_true_iff.mp h with h | h
  · have h1 := Bool.and_eq_true_iff.mp h
    obtain ⟨q, rfl, rfl⟩ := keyA_of r h1.1
    rcases c with ⟨kvs, e, ek, rv⟩ | ⟨kvs, e, ek, rv⟩
    · rcases look_val deq_kD q ek rv with ⟨v, d, l1, l2, l3⟩ | ⟨l1, l2⟩
      · exact .inl ⟨v, d, .inl (.inl ⟨kvs, q, e, rfl, l1.symm⟩), l2, l3⟩
      · exact .inr ⟨.inl (.inl ⟨kvs, q, e, rfl, l1.symm⟩), l2⟩
    · cases kvs with
      | nil =>
        have : ds = [] := by cases ds with | nil => rfl | cons _ _ => cases ek
        subst this
        exact .inr ⟨.inr (.inr ⟨rfl, e, q, rfl⟩), rfl⟩
      | cons p kvs =>
        cases ds with
        | nil => cases ek
        | cons x ds =>
          exfalso
          have e1 : kDs p.1 = x.1 := (List.cons.inj ek).1
          have h2 : keyA x.1 = true := (Bool.and_eq_true_iff.mp h1.2).1
          rw [← e1] at h2
          cases h2
  · have h1 := Bool.and_eq_true_iff.mp h
    obtain ⟨q, b, rfl, eb, rfl⟩ := keyT_of r h1.1
    rcases c with ⟨kvs, e, ek, rv⟩ | ⟨kvs, e, ek, rv⟩
    · cases kvs with
      | nil =>
        have : ds = [] := by cases ds with | nil => rfl | cons _ _ => cases ek
        subst this
        exact .inr ⟨.inr (.inl ⟨rfl, e, q, b, rfl, eb⟩), rfl⟩
      | cons p kvs =>
        cases ds with
        | nil => cases ek
        | cons x ds =>
          exfalso
          have e1 : kD p.1 = x.1 := (List.cons.inj ek).1
          have h2 : keyT x.1 = true := (Bool.and_eq_true_iff.mp h1.2).1
          rw [← e1, kD_notT] at h2
          cases h2
    · rcases look_val deq_kDs q ek rv with ⟨v, d, l1, l2, l3⟩ | ⟨l1, l2⟩
      · exact .inl ⟨v, d, .inl (.inr ⟨kvs, q, b, e, rfl, eb, l1.symm⟩), l2, l3⟩
      · exact .inr ⟨.inl (.inr ⟨kvs, q, b, e, rfl, eb, l1.symm⟩), l2⟩
/-! ### comparisons -/
def pyCm : Cm → CmpOp
  | .eq => .Eq
  | .ne => .NotEq
  | .lt => .Lt
  | .le => .LtE
  | .gt => .Gt
  | .ge => .GtE
  | .in_ => .In
  | .nin => .NotIn
def rInSg (neg : Bool) : R2 := fun x y H Q => ∃ (c : Nat) (z : Str), x = .str ⟨#[c]⟩ ∧ y = .str z ∧ Q (.bl (if neg then !decide (c ∈ z.cps.toList) else decide (c ∈ z.cps.toList))) H
def rCm (K : PySem.W.Frag) : Cm → R2
  | .eq => fun x y H Q => rEq x y H Q ∨ rEqM K false x y H Q
  | .ne => fun x y H Q => rNe x y H Q ∨ rEqM K true x y H Q
  | .lt => rI0 fun i j => .bl (decide (i < j))
  | .le => rI0 fun i j => .bl (decide (i ≤ j))
  | .gt => rI0 fun i j => .bl (decide (j < i))
  | .ge => rI0 fun i j => .bl (decide (j ≤ i))
  | .in_ => fun x y H Q => rInD K x y H Q ∨ rIn K false x y H Q ∨ rInSg false x y H Q ∨ rInDc false x y H Q
  | .nin => fun x y H Q => rNotInD K x y H Q ∨ rIn K true x y H Q ∨ rInSg true x y H Q ∨ rInDc true x y H Q
theorem cm_ok {X : Cx} (hu : X.A.units + 100 < cLine) (c : Cm) : OpR X (compareOp (pyCm c)) (rCm X.K c) := by
  cases c with
  | eq => exact op_eq.or (op_eqM (by omega))
  | ne => exact op_ne.or (op_neM (by omega))
  | lt => exact op_lt
  | le => exact op_le
  | gt => exact op_gt
  | ge => exact op_ge
  | in_ => exact (op_inD (by omega)).or (op_in_seq.or (op_in_sign.or (op_inDc (by omega))))
  | nin => exact (op_notInD (by omega)).or (op_notIn_seq.or (op_notIn_sign.or (op_ninDc (by omega))))
section
variable {K : PySem.W.Frag} {L : Addr → Prop} {H : Hp}
theorem atom_flat {v : V} {d : D} (r : Rp K L H v d) (h : atom d = true) : flatV v = true := by
  cases r <;> first | rfl | cases h
theorem atoms_flat : ∀ {vs : List V} {ds : List D}, RpL K L H vs ds → atoms ds = true → vs.all flatV = true
  | _, _, .nil, _ => rfl
  | _, _, .cons a b, h => by
    have h1 := Bool.and_eq_true_iff.mp h
    show (flatV _ && List.all _ flatV) = true
    rw [atom_flat a h1.1, atoms_flat b h1.2]; rfl
theorem eqV_deq {y x : V} {e d : D} (ry : Rp K L H y e) (rx : Rp K L H x d) (he : atom e = true) (hd : atom d = true) : eqV y x = deq e d := by
  cases ry <;> first | (cases he; done) | (cases rx <;> first | (cases hd; done) | rfl | skip)
  all_goals first | rfl | (simp only [eqV, deq, boolI]; rw [Bool.eq_iff_iff]; simp)
theorem inV_has {x : V} {d : D} (rx : Rp K L H x d) (hd : atom d = true) : ∀ {vs : List V} {ds : List D}, RpL K L H vs ds → atoms ds = true → inV x vs = has d ds
  | _, _, .nil, _ => rfl
  | _, _, .cons a b, h => by
    have h1 := Bool.and_eq_true_iff.mp h
    have ih := inV_has rx hd b h1.2
    unfold inV at ih ⊢
    rw [List.any_cons, ih, eqV_deq a rx h1.1 hd]
    rfl
end
section
variable {K : PySem.W.Frag} {M : List Addr} {H : Hp} {st : Sto}
theorem eq_end (sr : SR K M H st) {v u : V} {x y : D} (c1 : CpT K (Lv M st) H v x) (c2 : CpT K (Lv M st) H u y) (neg : Bool) (e : eqOk x y = true) {Q : VK} (w : Q (.bl (if neg then !deq x y else deq x y)) H) : rEqM K neg v u H Q := by
  have h1 := Bool.and_eq_true_iff.mp e
  have h2 := Bool.and_eq_true_iff.mp h1.2
  refine ⟨x, y, c1.dp h1.1, c2.dp h2.1, h1.1, h2.1, ?_, ?_⟩
  · rcases Bool.or_eq_true_iff.mp h2.2 with h | h
    · have := of_decide_eq_true h; omega
    · have := of_decide_eq_true h; omega
  · rw [← deq_eqv]; exact w
theorem in_end (sr : SR K M H st) {v u : V} {x y : D} (c1 : CpT K (Lv M st) H v x) (rx : Rp K (Lv M st) H v x) (c2 : CpT K (Lv M st) H u y) (neg : Bool) (e : inOk y x = true) {Q : VK} (w : Q (.bl (if neg then !isIn y x else isIn y x)) H) :
    (if neg then rNotInD K v u H Q else rInD K v u H Q) ∨ rIn K neg v u H Q ∨ rInSg neg v u H Q ∨ rInDc neg v u H Q := by
  cases y with
  | list ys =>
    left
    have e1 : eqOks x ys = true := e
    have h1 := Bool.and_eq_true_iff.mp e1
    have h2 := Bool.and_eq_true_iff.mp h1.1
    have h3 := Bool.and_eq_true_iff.mp h1.2
    have dy : Dp K H u (.list ys) := c2.dp h3.1
    have sx : SeqAt.shaped x = true := by
      have := of_decide_eq_true h2.2
      unfold SeqAt.shaped
      rw [h2.1, decide_eq_true (by omega)]; rfl
    have sy : SeqAt.shaped (.list ys) = true := by
      have := of_decide_eq_true h3.2
      have ed : PyData.depth (.list ys) = PyData.depthAll ys + 1 := by simp [PyData.depth]
      unfold SeqAt.shaped
      rw [show PyData.canLay0 (.list ys) = true from h3.1, decide_eq_true (by omega)]; rfl
    have w' : Q (.bl (if neg then !(ys.any fun z => PyData.eqv z x) else ys.any fun z => PyData.eqv z x)) H := by
      rw [← has_any]; exact w
    cases neg with
    | false => exact ⟨x, ys, c1.dp h2.1, dy, sx, sy, w'⟩
    | true => exact ⟨x, ys, c1.dp h2.1, dy, sx, sy, w'⟩
  | tuple ys =>
    right; left
    obtain ⟨a, xs, rfl, ra, pa⟩ := c2.tup
    have h1 := Bool.and_eq_true_iff.mp e
    refine ⟨a, xs, rfl, .inr ra, atom_flat rx h1.1, atoms_flat pa h1.2, ?_⟩
    rw [inV_has rx h1.1 pa h1.2]
    exact w
  | str z =>
    right; right; left
    cases c2.str
    cases x with
    | str t =>
      cases c1.str
      have hs : t.cps.size = 1 := of_decide_eq_true e
      obtain ⟨⟨l⟩⟩ := t
      cases l with
      | nil => cases hs
      | cons c r =>
        cases r with
        | nil => exact ⟨c, z, rfl, rfl, w⟩
        | cons _ _ => simp at hs
    | _ => cases e
  | dict ds =>
    right; right; right
    obtain ⟨a, rfl, c⟩ := c2.dict
    rcases dgot c rx e with ⟨z, d, g1, g2, _⟩ | ⟨g1, g2⟩
    · refine ⟨a, _, rfl, g1, ?_⟩
      have : isIn (.dict ds) x = true := by show (look ds x).isSome = true; rw [g2]; rfl
      rw [this] at w
      exact w
    · refine ⟨a, _, rfl, g1, ?_⟩
      have : isIn (.dict ds) x = false := by show (look ds x).isSome = false; rw [g2]; rfl
      rw [this] at w
      exact w
  | none => cases e
  | bool _ => cases e
  | int _ => cases e
theorem cop_end (sr : SR K M H st) {c : Cm} {v u : V} {x y : D} {z : Bool} (c1 : CpT K (Lv M st) H v x) (rx : c = .in_ ∨ c = .nin → Rp K (Lv M st) H v x) (c2 : CpT K (Lv M st) H u y) (e : cop c x y = some z) {Q : VK} (w : Q (.bl z) H) : rCm K c v u H Q := by
  cases c with
  | eq =>
    simp only [cop] at e
    split at e
    · cases e
      rename_i h
      exact .inr (eq_end sr c1 c2 false h w)
    · cases e
  | ne =>
    simp only [cop] at e
    split at e
    · cases e
      rename_i h
      exact .inr (eq_end sr c1 c2 true h w)
    · cases e
  | in_ =>
    simp only [cop] at e
    split at e
    · cases e
      rename_i h
      exact in_end sr c1 (rx (.inl rfl)) c2 false h w
    · cases e
  | nin =>
    simp only [cop] at e
    split at e
    · cases e
      rename_i h
      exact in_end sr c1 (rx (.inr rfl)) c2 true h w
    · cases e
  | _ =>
    cases x <;> cases y <;> first
      | (exfalso; simp [cop] at e; done)
      | skip
    cases e
    cases c1.int; cases c2.int
    exact ⟨_, _, rfl, rfl, w⟩
end
end MiS

namespace MiS
open PySem PySem.Spec PyProof.Rows L2 Mi MiG
variable [Tb]
section
variable {K : PySem.W.Frag} {M : List Addr} {H : Hp} {st : Sto}
theorem truth_end {L : Addr → Prop} {v : V} {d : D} {k : Bool} (c : Cp K L H v d) (e : truthV d = some k) : TruV K v H k := by
  cases d with
  | none => cases c.non; cases e; rfl
  | bool b => cases c.bl; cases e; rfl
  | int i => cases c.int; cases e; simp only [TruV]; rw [Bool.eq_iff_iff]; simp
  | str x =>
    cases c.str
    simp only [truthV] at e
    split at e
    · cases e
      rename_i h
      refine ⟨sizeOk_ok h, ?_⟩
      rw [Bool.eq_iff_iff]; simp
    · cases e
  | list ds =>
    obtain ⟨a, xs, rfl, r, p⟩ := c.list
    cases e
    refine .inl ⟨xs, .inl r, ?_⟩
    cases p <;> rfl
  | tuple ds =>
    obtain ⟨a, xs, rfl, r, p⟩ := c.tup
    cases e
    refine .inr (.inl ⟨xs, r, ?_⟩)
    cases p <;> rfl
  | dict ds => cases e
end
section
variable {X : Cx} {C : Cn} {W : Wish}
theorem cvX {e : Expr} {t t' : TE} (h : PE X e t) (c : ∀ {σ H Q}, t' σ H Q → t σ H Q) : PE X e t' := cvE h fun _ _ _ => c
/-! ### comparisons -/
theorem co_cmp {K : PySem.W.Frag} {c : Cm} {a b : T} {σ : L2.St} {H : Hp} {Q : VK} (h : tE K C W (.cmp c a b) σ H Q) : tOp (rCm K c) (tE K C W a) (tE K C W b) σ H Q := by
  obtain ⟨M, env, st, er, sr, h⟩ := h
  rw [ev] at h
  refine ⟨M, env, st, er, sr, (PR.bind h).imp fun x M1 st1 H1 p1 sr1 s1 h v1 r1 => ?_⟩
  refine ⟨M1, env, st1, er.mono p1 s1, sr1, (PR.bind h).imp fun y M2 st2 H2 p2 sr2 s2 h v2 r2 => ?_⟩
  cases e1 : contentT st2 x with
  | none => simp only [e1] at h; exact h.elim
  | some dx =>
    cases e2 : contentT st2 y with
    | none => simp only [e1, e2] at h; exact h.elim
    | some dy =>
      simp only [e1, e2] at h
      cases e0 : inL c x with
      | false => simp only [e0] at h; exact h.elim
      | true =>
        simp only [e0, if_true] at h
        cases e3 : cop c dx dy with
        | none => simp only [e3] at h; exact h.elim
        | some z =>
          simp only [e3] at h
          have r1' := r1.mono p2 s2
          refine cop_end sr2 (contentT_cp sr2 r1' e1) (fun hc => ?_) (contentT_cp sr2 r2 e2) e3 ((Wants.of h).bl sr2)
          cases x with
          | val d => cases e1; exact r1'
          | ref n => rcases hc with rfl | rfl <;> cases e0
theorem se_cmp {c : Cm} {a b : Expr} {ta tb : T} {pos : Pos} (hu : X.A.units + 100 < cLine) (ha : PE X a (tE X.K C W ta)) (hb : PE X b (tE X.K C W tb)) (hm : behindInMarks (pyCm c) b = false) : PE X (.Compare a [pyCm c] [b] pos) (tE X.K C W (.cmp c ta tb)) :=
  cvX (pe_cmpR (cm_ok hu c) ha hb hm) co_cmp
/-- a test by a value that is True or False -/
theorem co_trb {K : PySem.W.Frag} {a : T} {σ : L2.St} {H : Hp} {Q : Bool → Hp → Prop} (h : tB K C W (.trb a) σ H Q) : tE K C W a σ H (fun x H' => ∃ k, x = .bl k ∧ Q k H') := by
  obtain ⟨M, env, st, er, sr, h⟩ := h
  rw [tst] at h
  refine ⟨M, env, st, er, sr, (PR.bind h).imp fun x M1 st1 H1 p1 sr1 s1 h v1 r1 => ?_⟩
  cases x with
  | ref n => exact h.elim
  | val d =>
    cases d <;> first
      | exact h.elim
      | skip
    cases r1
    exact ⟨_, rfl, PR.here sr1 h⟩
theorem st_cmp {c : Cm} {a b : Expr} {ta tb : T} {pos : Pos} (hu : X.A.units + 100 < cLine) (ha : PE X a (tE X.K C W ta)) (hb : PE X b (tE X.K C W tb)) (hm : behindInMarks (pyCm c) b = false) : PT X (.Compare a [pyCm c] [b] pos) (tB X.K C W (.trb (.cmp c ta tb))) :=
  cvT (pt_cmpR (cm_ok hu c) ha hb hm) fun _ _ _ h => co_cmp (co_trb h)
theorem co_chain {K : PySem.W.Frag} {c c' : Cm} {a b e : T} {σ : L2.St} {H : Hp} {Q : VK} (h : tE K C W (.chain c c' a b e) σ H Q) : tChain (rCm K c) (rCm K c') (tE K C W a) (tE K C W b) (tE K C W e) σ H Q := by
  obtain ⟨M, env, st, er, sr, h⟩ := h
  rw [ev] at h
  refine ⟨M, env, st, er, sr, (PR.bind h).imp fun x M1 st1 H1 p1 sr1 s1 h v1 r1 => ?_⟩
  refine ⟨M1, env, st1, er.mono p1 s1, sr1, (PR.bind h).imp fun y M2 st2 H2 p2 sr2 s2 h v2 r2 => ?_⟩
  cases x with
  | ref n => exact h.elim
  | val dx =>
    cases y with
    | ref n => exact h.elim
    | val dy =>
      simp only [] at h
      have r1' := r1.mono p2 s2
      cases e3 : cop c dx dy with
      | none => simp only [e3] at h; exact h.elim
      | some z =>
        simp only [e3] at h
        refine cop_end sr2 (.inl (.inl r1')) (fun _ => r1') (.inl (.inl r2)) e3 ⟨z, rfl, ?_⟩
        cases z with
        | false => exact (Wants.of h).bl sr2
        | true =>
          simp only [if_true] at h ⊢
          refine ⟨M2, env, st2, (er.mono p1 s1).mono p2 s2, sr2, (PR.bind h).imp fun w M3 st3 H3 p3 sr3 s3 h v3 r3 => ?_⟩
          cases w with
          | ref n => exact h.elim
          | val dw =>
            simp only [] at h
            have r2' := r2.mono p3 s3
            cases e4 : cop c' dy dw with
            | none => simp only [e4] at h; exact h.elim
            | some z =>
              simp only [e4] at h
              exact cop_end sr3 (.inl (.inl r2')) (fun _ => r2') (.inl (.inl r3)) e4 ((Wants.of h).bl sr3)
theorem se_chain {c c' : Cm} {a b e : Expr} {ta tb te : T} {pos : Pos} (hu : X.A.units + 100 < cLine) (ha : PE X a (tE X.K C W ta)) (hb : PE X b (tE X.K C W tb)) (he : PE X e (tE X.K C W te)) (hm : lastMarks [pyCm c, pyCm c'] [b, e] = false) :
    PE X (.Compare a [pyCm c, pyCm c'] [b, e] pos) (tE X.K C W (.chain c c' ta tb te)) := cvX (pe_chain (cm_ok hu c) (cm_ok hu c') ha hb he hm) co_chain
theorem st_chain {c c' : Cm} {a b e : Expr} {ta tb te : T} {pos : Pos} (hu : X.A.units + 100 < cLine) (ha : PE X a (tE X.K C W ta)) (hb : PE X b (tE X.K C W tb)) (he : PE X e (tE X.K C W te)) (hm : lastMarks [pyCm c, pyCm c'] [b, e] = false) :
    PT X (.Compare a [pyCm c, pyCm c'] [b, e] pos) (tB X.K C W (.trb (.chain c c' ta tb te))) := cvT (pt_chain (cm_ok hu c) (cm_ok hu c') ha hb he hm) fun _ _ _ h => co_chain (co_trb h)
/-! ### is -/
theorem Rp.non' {K : PySem.W.Frag} {L : Addr → Prop} {H : Hp} {v : V} {d : D} (r : Rp K L H v d) : decide (v = .non) = (match d with | .none => true | _ => false) := by cases r <;> simp
theorem co_isn {K : PySem.W.Frag} {a : T} {σ : L2.St} {H : Hp} {Q : VK} (h : tE K C W (.isn a) σ H Q) : tIsN (tE K C W a) σ H Q := by
  obtain ⟨M, env, st, er, sr, h⟩ := h
  rw [ev] at h
  refine ⟨M, env, st, er, sr, (PR.bind h).imp fun x M1 st1 H1 p1 sr1 s1 h v1 r1 => ?_⟩
  cases x with
  | ref n =>
    obtain ⟨a, rfl, _⟩ := r1
    have := (Wants.of h).bl sr1
    simpa using this
  | val d =>
    rw [Rp.non' r1]
    cases d <;> exact (Wants.of h).bl sr1
theorem co_nisn {K : PySem.W.Frag} {a : T} {σ : L2.St} {H : Hp} {Q : VK} (h : tE K C W (.nisn a) σ H Q) : tNotN (tE K C W a) σ H Q := by
  obtain ⟨M, env, st, er, sr, h⟩ := h
  rw [ev] at h
  refine ⟨M, env, st, er, sr, (PR.bind h).imp fun x M1 st1 H1 p1 sr1 s1 h v1 r1 => ?_⟩
  cases x with
  | ref n =>
    obtain ⟨a, rfl, _⟩ := r1
    have := (Wants.of h).bl sr1
    simpa using this
  | val d =>
    rw [Rp.non' r1]
    cases d <;> exact (Wants.of h).bl sr1
section
variable {a : Expr} {ta : T} {j : Nat} {p pos : Pos}
theorem se_isn (ha : PE X a (tE X.K C W ta)) : PE X (.Compare a [.Is] [.Constant .none j p] pos) (tE X.K C W (.isn ta)) := cvX (pe_cmp (pc_isN ha)) co_isn
theorem st_isn (ha : PE X a (tE X.K C W ta)) : PT X (.Compare a [.Is] [.Constant .none j p] pos) (tB X.K C W (.trb (.isn ta))) := cvT (pt_cmp (pc_isN ha)) fun _ _ _ h => co_isn (co_trb h)
theorem se_nisn (ha : PE X a (tE X.K C W ta)) : PE X (.Compare a [.IsNot] [.Constant .none j p] pos) (tE X.K C W (.nisn ta)) := cvX (pe_cmp (pc_notN ha)) co_nisn
theorem st_nisn (ha : PE X a (tE X.K C W ta)) : PT X (.Compare a [.IsNot] [.Constant .none j p] pos) (tB X.K C W (.trb (.nisn ta))) := cvT (pt_cmp (pc_notN ha)) fun _ _ _ h => co_nisn (co_trb h)
end
theorem pe_bl {b : Bool} {j : Nat} {p : Pos} : PE X (.Constant (.bool b) j p) (tC (.bl b)) := ⟨fun pins s σ H Q I q => by
  cases b <;> exact wpAny_pure ⟨.bl _, H, I, rfl, q⟩⟩
def rIsB : R2 := fun x y H Q => ∃ a b, x = .bl a ∧ y = .bl b ∧ Q (.bl (decide (a = b))) H
def rNisB : R2 := fun x y H Q => ∃ a b, x = .bl a ∧ y = .bl b ∧ Q (.bl (!decide (a = b))) H
theorem co_isb {K : PySem.W.Frag} {b : Bool} {a : T} {σ : L2.St} {H : Hp} {Q : VK} (h : tE K C W (.isb b a) σ H Q) : tOp rIsB (tE K C W a) (tC (.bl b)) σ H Q := by
  obtain ⟨M, env, st, er, sr, h⟩ := h
  rw [ev] at h
  refine ⟨M, env, st, er, sr, (PR.bind h).imp fun x M1 st1 H1 p1 sr1 s1 h v1 r1 => ?_⟩
  cases x with
  | ref n => exact h.elim
  | val d =>
    cases d <;> first
      | exact h.elim
      | skip
    rename_i c
    cases r1
    refine ⟨c, b, rfl, rfl, ?_⟩
    have := (Wants.of h).bl sr1
    have e : (b == c) = decide (c = b) := by cases b <;> cases c <;> rfl
    rw [← e]; exact this
theorem co_nisb {K : PySem.W.Frag} {b : Bool} {a : T} {σ : L2.St} {H : Hp} {Q : VK} (h : tE K C W (.nisb b a) σ H Q) : tOp rNisB (tE K C W a) (tC (.bl b)) σ H Q := by
  obtain ⟨M, env, st, er, sr, h⟩ := h
  rw [ev] at h
  refine ⟨M, env, st, er, sr, (PR.bind h).imp fun x M1 st1 H1 p1 sr1 s1 h v1 r1 => ?_⟩
  cases x with
  | ref n => exact h.elim
  | val d =>
    cases d <;> first
      | exact h.elim
      | skip
    rename_i c
    cases r1
    refine ⟨c, b, rfl, rfl, ?_⟩
    have := (Wants.of h).bl sr1
    have e : (b == c) = decide (c = b) := by cases b <;> cases c <;> rfl
    rw [← e]; exact this
section
variable {a : Expr} {ta : T} {b : Bool} {j : Nat} {p pos : Pos}
theorem se_isb (ha : PE X a (tE X.K C W ta)) : PE X (.Compare a [.Is] [.Constant (.bool b) j p] pos) (tE X.K C W (.isb b ta)) := cvX (pe_cmpR op_is_bl ha pe_bl rfl) co_isb
theorem st_isb (ha : PE X a (tE X.K C W ta)) : PT X (.Compare a [.Is] [.Constant (.bool b) j p] pos) (tB X.K C W (.trb (.isb b ta))) := cvT (pt_cmpR op_is_bl ha pe_bl rfl) fun _ _ _ h => co_isb (co_trb h)
theorem se_nisb (ha : PE X a (tE X.K C W ta)) : PE X (.Compare a [.IsNot] [.Constant (.bool b) j p] pos) (tE X.K C W (.nisb b ta)) := cvX (pe_cmpR op_isnot_bl ha pe_bl rfl) co_nisb
theorem st_nisb (ha : PE X a (tE X.K C W ta)) : PT X (.Compare a [.IsNot] [.Constant (.bool b) j p] pos) (tB X.K C W (.trb (.nisb b ta))) := cvT (pt_cmpR op_isnot_bl ha pe_bl rfl) fun _ _ _ h => co_nisb (co_trb h)
end
/-! ### -x, not x, and, or, x if c else y -/
theorem se_neg {a : Expr} {ta : T} {pos : Pos} (ha : PE X a (tE X.K C W ta)) : PE X (.UnaryOp .USub a pos) (tE X.K C W (.neg ta)) := by
  refine cvE (pe_un un_neg ha) fun σ H Q ⟨M, env, st, er, sr, h⟩ => ?_
  rw [ev] at h
  refine ⟨M, env, st, er, sr, (PR.bind h).imp fun x M1 st1 H1 p1 sr1 s1 h v1 r1 => ?_⟩
  cases x with
  | ref n => exact h.elim
  | val d =>
    cases d <;> first
      | exact h.elim
      | skip
    cases r1
    exact ⟨_, rfl, (Wants.of h).int sr1⟩
theorem se_not {a : Expr} {ta : T} {pos : Pos} (ha : PE X a (tE X.K C W ta)) : PE X (.UnaryOp .Not a pos) (tE X.K C W (.not_ ta)) := by
  refine cvE (pe_notT ha) fun σ H Q ⟨M, env, st, er, sr, h⟩ => ?_
  rw [ev] at h
  refine ⟨M, env, st, er, sr, (PR.bind h).imp fun x M1 st1 H1 p1 sr1 s1 h v1 r1 => ?_⟩
  cases e1 : content st1 x with
  | none => simp only [e1] at h; exact h.elim
  | some d =>
    simp only [e1] at h
    cases e2 : truthV d with
    | none => simp only [e2] at h; exact h.elim
    | some k =>
      simp only [e2] at h
      exact ⟨k, truth_end (content_cp sr1 r1 e1) e2, (Wants.of h).bl sr1⟩
theorem se_and {a b : Expr} {rest : List Expr} {ta tb : T} {pos : Pos} (ha : PE X a (tE X.K C W ta)) (hb : PE X (.BoolOp .And (b :: rest) pos) (tE X.K C W tb)) : PE X (.BoolOp .And (a :: b :: rest) pos) (tE X.K C W (.and_ ta tb)) := by
  refine cvE (pe_andT ha hb) fun σ H Q ⟨M, env, st, er, sr, h⟩ => ?_
  rw [ev] at h
  refine ⟨M, env, st, er, sr, (PR.bind h).imp fun x M1 st1 H1 p1 sr1 s1 h v1 r1 => ?_⟩
  cases e1 : content st1 x with
  | none => simp only [e1] at h; exact h.elim
  | some d =>
    simp only [e1] at h
    cases e2 : truthV d with
    | none => simp only [e2] at h; exact h.elim
    | some k =>
      simp only [e2] at h
      refine ⟨k, truth_end (content_cp sr1 r1 e1) e2, ?_⟩
      cases k with
      | true => exact ⟨M1, env, st1, er.mono p1 s1, sr1, h⟩
      | false => exact PR.here sr1 h v1 r1
theorem se_or {a b : Expr} {rest : List Expr} {ta tb : T} {pos : Pos} (ha : PE X a (tE X.K C W ta)) (hb : PE X (.BoolOp .Or (b :: rest) pos) (tE X.K C W tb)) : PE X (.BoolOp .Or (a :: b :: rest) pos) (tE X.K C W (.or_ ta tb)) := by
  refine cvE (pe_orT ha hb) fun σ H Q ⟨M, env, st, er, sr, h⟩ => ?_
  rw [ev] at h
  refine ⟨M, env, st, er, sr, (PR.bind h).imp fun x M1 st1 H1 p1 sr1 s1 h v1 r1 => ?_⟩
  cases e1 : content st1 x with
  | none => simp only [e1] at h; exact h.elim
  | some d =>
    simp only [e1] at h
    cases e2 : truthV d with
    | none => simp only [e2] at h; exact h.elim
    | some k =>
      simp only [e2] at h
      refine ⟨k, truth_end (content_cp sr1 r1 e1) e2, ?_⟩
      cases k with
      | true => exact PR.here sr1 h v1 r1
      | false => exact ⟨M1, env, st1, er.mono p1 s1, sr1, h⟩
theorem se_ite {c a b : Expr} {tc ta tb : T} {pos : Pos} (hc : PT X c (tB X.K C W tc)) (ha : PE X a (tE X.K C W ta)) (hb : PE X b (tE X.K C W tb)) : PE X (.IfExp c a b pos) (tE X.K C W (.ite tc ta tb)) := by
  refine cvE (pe_ifExp hc ha hb) fun σ H Q ⟨M, env, st, er, sr, h⟩ => ?_
  rw [ev] at h
  refine ⟨M, env, st, er, sr, (PR.bind h).imp fun k M1 st1 H1 p1 sr1 s1 h => ?_⟩
  cases k with
  | true => exact ⟨M1, env, st1, er.mono p1 s1, sr1, h⟩
  | false => exact ⟨M1, env, st1, er.mono p1 s1, sr1, h⟩
/-! ### tests -/
theorem st_tr {a : Expr} {ta : T} (ha : PE X a (tE X.K C W ta)) (he : ∀ whole, isTrue a X.env whole = (do let v ← whole; standAt a.pos; holding [v] (truthy v))) : PT X a (tB X.K C W (.tr ta)) := by
  refine cvT (pt_truth ha he) fun σ H Q ⟨M, env, st, er, sr, h⟩ => ?_
  rw [tst] at h
  refine ⟨M, env, st, er, sr, (PR.bind h).imp fun x M1 st1 H1 p1 sr1 s1 h v1 r1 => ?_⟩
  cases e1 : content st1 x with
  | none => simp only [e1] at h; exact h.elim
  | some d =>
    simp only [e1] at h
    cases e2 : truthV d with
    | none => simp only [e2] at h; exact h.elim
    | some k =>
      simp only [e2] at h
      exact ⟨k, truth_end (content_cp sr1 r1 e1) e2, PR.here sr1 h⟩
theorem st_not {a : Expr} {ta : T} {pos : Pos} (ha : PT X a (tB X.K C W ta)) : PT X (.UnaryOp .Not a pos) (tB X.K C W (.not_ ta)) := by
  refine cvT (pt_not ha) fun σ H Q ⟨M, env, st, er, sr, h⟩ => ?_
  rw [tst] at h
  exact ⟨M, env, st, er, sr, (PR.bind h).imp fun k M1 st1 H1 p1 sr1 s1 h => PR.here (a := !k) (Q := QB Q) sr1 h⟩
theorem sw_and {a b : Expr} {rest : List Expr} {ta tb : T} {pos : Pos} (ha : PT X a (tB X.K C W ta)) (hb : PW X (.BoolOp .And (b :: rest) pos) (tB X.K C W tb)) : PW X (.BoolOp .And (a :: b :: rest) pos) (tB X.K C W (.and_ ta tb)) := by
  refine cvW (pw_and ha hb) fun σ H Q ⟨M, env, st, er, sr, h⟩ => ?_
  rw [tst] at h
  refine ⟨M, env, st, er, sr, (PR.bind h).imp fun k M1 st1 H1 p1 sr1 s1 h => ?_⟩
  cases k with
  | true => exact ⟨M1, env, st1, er.mono p1 s1, sr1, h⟩
  | false => exact PR.here (a := false) (Q := QB Q) sr1 h
theorem sw_or {a b : Expr} {rest : List Expr} {ta tb : T} {pos : Pos} (ha : PT X a (tB X.K C W ta)) (hb : PW X (.BoolOp .Or (b :: rest) pos) (tB X.K C W tb)) : PW X (.BoolOp .Or (a :: b :: rest) pos) (tB X.K C W (.or_ ta tb)) := by
  refine cvW (pw_or ha hb) fun σ H Q ⟨M, env, st, er, sr, h⟩ => ?_
  rw [tst] at h
  refine ⟨M, env, st, er, sr, (PR.bind h).imp fun k M1 st1 H1 p1 sr1 s1 h => ?_⟩
  cases k with
  | true => exact PR.here (a := true) (Q := QB Q) sr1 h
  | false => exact ⟨M1, env, st1, er.mono p1 s1, sr1, h⟩
theorem pt_pw {e : Expr} {t : TT} (h : PW X e t) : PT X e t := ⟨fun pins s σ H Q I q => h.run _ pins s σ H Q I q⟩
end
end MiS

namespace MiS
open PySem PySem.Spec PyProof.Rows L2 Mi MiG
variable [Tb]
section
variable {X : Cx} {C : Cn} {W : Wish}
/-! ### a[i] -/
theorem IxR.or {r1 r2 : R2} (h1 : IxR X r1) (h2 : IxR X r2) : IxR X (fun x y H Q => r1 x y H Q ∨ r2 x y H Q) := by
  intro value slice pins s σ H x y v u Q I rx ry h hs
  rcases h with h | h
  · exact h1 value slice pins s σ H x y v u Q I rx ry h hs
  · exact h2 value slice pins s σ H x y v u Q I rx ry h hs
theorem DGet.ty {P : Program} {w : World} {H : Hp} {s : Shared} {a : Addr} {y : V} {o : Option V} (ok : HOk P w H s.heap) (g : DGet H a y o) : s.TypeIs (.ref a) "dict" := by
  rcases g with ⟨kvs, k, e, _, _⟩ | ⟨kvs, k, b, e, _, _, _⟩
  · obtain ⟨z, hd, vs, rel, dd⟩ := dk_rd ok e
    exact dd.mapOf.typeIs
  · obtain ⟨z, hd, xs, rel, o, es, ep, h1, h2, _⟩ := dt_rd ok e
    exact ⟨o, h1, h2.1⟩
def rIxDc : R2 := fun x y H Q => ∃ a v, x = .ref a ∧ DGet H a y (some v) ∧ Q v H
theorem ix_dc (hu : X.A.units + 100 < cLine) : IxR X rIxDc := by
  intro value slice pins s σ H x y v u Q I rx ry h hs
  obtain ⟨a, z, rfl, g, q⟩ := h
  cases (show v = Value.ref a from rx)
  exact tail_any (DGet.ty I.hok g) slot_dict_getitem.lookup (d_getItem (by omega) I g ry fun w' s' I' r => ⟨z, H, I', r, q⟩) hs
def rIxA (K : PySem.W.Frag) : R2 := fun x y H Q => rIx K x y H Q ∨ rIxDc x y H Q
theorem ix_all (hu : X.A.units + 100 < cLine) : IxR X (rIxA X.K) := IxR.or ix_seq (ix_dc hu)
theorem item_end {K : PySem.W.Frag} {M : List Addr} {H : Hp} {st : Sto} (sr : SR K M H st) {v u : V} {x y z : D} (c1 : CpT K (Lv M st) H v x) (r2 : Rp K (Lv M st) H u y) (e : item x y = some z) {Q : VK} (w : Wants K M H st z Q) : rIxA K v u H Q := by
  cases x with
  | list ds =>
    cases y <;> first
      | (exfalso; simp [item] at e; done)
      | skip
    obtain ⟨a, xs, rfl, ra, pa⟩ := c1.list
    cases r2
    obtain ⟨o, h1, h2⟩ := pa.at e
    exact .inl (.inl ⟨a, xs, _, o, rfl, rfl, .inl ra, h1, w.here sr h2⟩)
  | tuple ds =>
    cases y <;> first
      | (exfalso; simp [item] at e; done)
      | skip
    obtain ⟨a, xs, rfl, ra, pa⟩ := c1.tup
    cases r2
    obtain ⟨o, h1, h2⟩ := pa.at e
    exact .inl (.inr (.inl ⟨a, xs, _, o, rfl, rfl, ra, h1, w.here sr h2⟩))
  | str t =>
    cases y <;> first
      | (exfalso; simp [item] at e; done)
      | skip
    cases c1.str
    cases r2
    simp only [item] at e
    split at e
    · rename_i hz
      obtain ⟨c, h1, rfl⟩ := Option.map_eq_some_iff.mp e
      exact .inl (.inr (.inr ⟨t, _, c, rfl, rfl, sizeOk_ok hz, h1, w.str sr⟩))
    · cases e
  | dict ds =>
    obtain ⟨a, rfl, c⟩ := c1.dict
    have e' : (if keyOk ds y then look ds y else none) = some z := by cases y <;> exact e
    split at e'
    · rename_i hk
      rcases dgot c r2 hk with ⟨o, d, g1, g2, g3⟩ | ⟨g1, g2⟩
      · rw [g2] at e'
        cases e'
        rcases g1 with g1 | ⟨g1, _⟩ | ⟨g1, _⟩
        · exact .inr ⟨a, o, rfl, g1, w.here sr g3⟩
        · cases g1
        · cases g1
      · rw [g2] at e'; cases e'
    · cases e'
  | none => cases y <;> cases e
  | bool _ => cases y <;> cases e
  | int _ => cases y <;> cases e
theorem se_idx {a i : Expr} {ta ti : T} {pos : Pos} (hu : X.A.units + 100 < cLine) (ha : PE X a (tE X.K C W ta)) (hi : PE X i (tE X.K C W ti)) (hs : PlainIx i) : PE X (.Subscript a i pos) (tE X.K C W (.idx ta ti)) := by
  refine cvE (pe_ix (ix_all hu) ha hi hs) fun σ H Q ⟨M, env, st, er, sr, h⟩ => ?_
  rw [ev] at h
  refine ⟨M, env, st, er, sr, (PR.bind h).imp fun x M1 st1 H1 p1 sr1 s1 h v1 r1 => ?_⟩
  refine ⟨M1, env, st1, er.mono p1 s1, sr1, (PR.bind h).imp fun y M2 st2 H2 p2 sr2 s2 h v2 r2 => ?_⟩
  cases e1 : contentT st2 x with
  | none => simp only [e1] at h; exact h.elim
  | some dx =>
    cases y with
    | ref n => simp only [e1] at h; exact h.elim
    | val dy =>
      simp only [e1] at h
      cases e3 : item dx dy with
      | none => simp only [e3] at h; exact h.elim
      | some z =>
        simp only [e3] at h
        exact item_end sr2 (contentT_cp sr2 (r1.mono p2 s2) e1) r2 e3 (Wants.of h)
/-! ### a[i:j] -/
def rSlAny (K : PySem.W.Frag) : V → Option Int → Option Int → Hp → VK → Prop := fun x lo hi H Q => rSlL K x lo hi H Q ∨ rSlA K x lo hi H Q ∨ rSlS x lo hi H Q
theorem sl_any : SlR X (rSlAny X.K) := by
  intro pins s σ H x v vl vu lo hi sl Q I rx hs hl hh h
  rcases h with h | h | h
  · exact sl_list pins s σ H x v vl vu lo hi sl Q I rx hs hl hh h
  · exact sl_tupA pins s σ H x v vl vu lo hi sl Q I rx hs hl hh h
  · exact sl_str pins s σ H x v vl vu lo hi sl Q I rx hs hl hh h
/-- a part of a slice -/
def tO (K : PySem.W.Frag) (C : Cn) (W : Wish) (e : T) : TO := fun σ H Q => ∃ M env st, ER K M (Lv M st) H env σ ∧ SR K M H st ∧ PR K M H st (evo C e env st) W (fun o _ _ H => Q o H)
theorem so_none : PO X none (tO X.K C W .nil) := ⟨fun pins s σ H Q I ⟨M, env, st, er, sr, h⟩ => po_none.run pins s σ H Q I (by
  rw [evo] at h
  exact PR.here (Q := fun o _ _ H => Q o H) sr h)⟩
theorem so_some {e : Expr} {t : T} (he : PE X e (tE X.K C W t)) : PO X (some e) (tO X.K C W (.cons t .nil)) := ⟨fun pins s σ H Q I ⟨M, env, st, er, sr, h⟩ => (po_some he).run pins s σ H Q I (by
  rw [evo] at h
  refine ⟨M, env, st, er, sr, (PR.bind h).imp fun x M1 st1 H1 p1 sr1 s1 h v1 r1 => ?_⟩
  cases x with
  | ref n => exact h.elim
  | val d =>
    cases d <;> first
      | exact h.elim
      | skip
    cases r1
    exact ⟨_, rfl, PR.here (Q := fun o _ _ H => Q o H) sr1 h⟩)⟩
theorem cut_end {K : PySem.W.Frag} {M : List Addr} {H : Hp} {st : Sto} (sr : SR K M H st) {v : V} {x z : D} {lo hi : Option Int} (c : Cp K (Lv M st) H v x) (e : cut x lo hi = some z) {Q : VK} (w : Wants K M H st z Q) : rSlAny K v lo hi H Q := by
  cases x with
  | list ds =>
    obtain ⟨a, xs, rfl, ra, pa⟩ := c.list
    cases e
    exact .inl ⟨a, xs, rfl, .inl ra, w.lst sr (pa.cut lo hi)⟩
  | tuple ds =>
    have k := c.rt
    obtain ⟨a, xs, rfl, ra, pa⟩ := c.tup
    cases e
    refine .inr (.inl ⟨a, xs, rfl, ra, fun hw => ?_, fun _ => w.tup sr (pa.cut lo hi)⟩)
    have : cutL ds lo hi = ds := by
      unfold cutL
      rw [← pa.len, hw.1, hw.2, List.drop_zero, Nat.sub_zero, pa.len, List.take_length]
    rw [this] at w
    exact w.here sr k
  | str t =>
    cases c.str
    simp only [cut] at e
    split at e
    · cases e
      rename_i hz
      exact .inr (.inr ⟨t, rfl, sizeOk_ok hz, w.str sr⟩)
    · cases e
  | dict ds => cases e
  | none => cases e
  | bool _ => cases e
  | int _ => cases e
theorem se_slc {a : Expr} {lo hi : Option Expr} {ta tl th : T} {pos p2 : Pos} (ha : PE X a (tE X.K C W ta)) (hl : PO X lo (tO X.K C W tl)) (hh : PO X hi (tO X.K C W th)) : PE X (.Subscript a (.Slice lo hi none p2) pos) (tE X.K C W (.slc ta tl th)) := by
  refine cvE (pe_slice sl_any ha hl hh) fun σ H Q ⟨M, env, st, er, sr, h⟩ => ?_
  rw [ev] at h
  refine ⟨M, env, st, er, sr, (PR.bind h).imp fun x M1 st1 H1 p1 sr1 s1 h v1 r1 => ?_⟩
  refine ⟨M1, env, st1, er.mono p1 s1, sr1, (PR.bind h).imp fun i M2 st2 H2 p2 sr2 s2 h => ?_⟩
  refine ⟨M2, env, st2, (er.mono p1 s1).mono p2 s2, sr2, (PR.bind h).imp fun j M3 st3 H3 p3 sr3 s3 h => ?_⟩
  cases e1 : content st3 x with
  | none => simp only [e1] at h; exact h.elim
  | some dx =>
    simp only [e1] at h
    cases e3 : cut dx i j with
    | none => simp only [e3] at h; exact h.elim
    | some z =>
      simp only [e3] at h
      exact cut_end sr3 (content_cp sr3 ((r1.mono p2 s2).mono p3 s3) e1) e3 (Wants.of h)
end
end MiS

namespace MiS
open PySem PySem.Spec PyProof.Rows L2 Mi MiG
variable [Tb]
section
variable {K : PySem.W.Frag} {M : List Addr} {H : Hp} {st : Sto}
inductive CpL (K : PySem.W.Frag) (L : Addr → Prop) (H : Hp) : List V → List D → Prop
  | nil : CpL K L H [] []
  | cons {v : V} {vs : List V} {d : D} {ds : List D} : Cp K L H v d → CpL K L H vs ds → CpL K L H (v :: vs) (d :: ds)
theorem vals_cp (sr : SR K M H st) : ∀ {vs : List V} {rs : List RV} {ds : List D}, RVs K M (Lv M st) H vs rs → vals st rs = some ds → CpL K (Lv M st) H vs ds
  | _, _, _, .nil, e => by cases e; exact .nil
  | _, _, ds, .cons (r := r) (rs := rs) a b, e => by
    cases r with
    | val d =>
      have e1 : (vals st rs).map (d :: ·) = some ds := e
      obtain ⟨es, q, rfl⟩ := Option.map_eq_some_iff.mp e1
      exact .cons (.inl a) (vals_cp sr b q)
    | ref n =>
      cases q : content st (.ref n) with
      | none => simp only [vals, q] at e; cases e
      | some d =>
        simp only [vals, q] at e
        obtain ⟨es, q2, rfl⟩ := Option.map_eq_some_iff.mp e
        exact .cons (content_cp sr a q) (vals_cp sr b q2)
/-- a tuple is never an object of the store -/
theorem SR.tup_nl (sr : SR K M H st) {a : Addr} {xs : List V} (e : H a = some (.tup xs)) : ¬ Lv M st a := by
  rintro ⟨n, o, h1, h2, h3⟩
  have ob := sr.obj n o a h2 h1
  cases o with
  | lst ds => obtain ⟨_, e2, _⟩ := ob; rw [e] at e2; cases e2
  | dic ds => rcases ob with ⟨_, e2, _⟩ | ⟨_, e2, _⟩ <;> (rw [e] at e2; cases e2)
  | tpl _ => obtain ⟨_, _, e2, _⟩ := ob; rw [e] at e2; cases e2
  | dead => exact h3 rfl
theorem keysA_rp {L : Addr → Prop} : ∀ {kvs : List (Key × V)} {ds : List (D × D)}, kvs.map (fun p => kD p.1) = ds.map (·.1) → RpL K L H (kvs.map fun p => kV p.1) (ds.map (·.1))
  | [], [], _ => .nil
  | [], _ :: _, e => by cases e
  | _ :: _, [], e => by cases e
  | (k, v) :: kvs, (d, x) :: ds, e => by
    have e1 : kD k = d := (List.cons.inj e).1
    subst e1
    refine .cons ?_ (keysA_rp (List.cons.inj e).2)
    cases k with
    | inl i => exact .int i
    | inr z => exact .str z
theorem keyL_rp {L : Addr → Prop} : ∀ ks : List Key, RpL K L H (ks.map kV) (ks.map kD)
  | [] => .nil
  | .inl i :: r => .cons (.int i) (keyL_rp r)
  | .inr z :: r => .cons (.str z) (keyL_rp r)
theorem keysT_rp (sr : SR K M H st) : ∀ {kvs : List (List Key × V)} {bs : List Addr} {ds : List (D × D)}, IsKeys H kvs bs → kvs.map (fun p => kDs p.1) = ds.map (·.1) → RpL K (Lv M st) H (bs.map V.ref) (ds.map (·.1))
  | [], _, [], .nil, _ => .nil
  | [], _, _ :: _, _, e => by cases e
  | _ :: _, _, [], _, e => by cases e
  | (k, v) :: kvs, b :: bs, (d, x) :: ds, .cons h t, e => by
    have e1 : kDs k = d := (List.cons.inj e).1
    subst e1
    exact .cons (.tup (sr.tup_nl h) h (keyL_rp k)) (keysT_rp sr t (List.cons.inj e).2)
end
theorem CallR.or {X : Cx} {f : Value} {r1 r2 : List V → Hp → VK → Prop} (h1 : CallR X f r1) (h2 : CallR X f r2) : CallR X f (fun xs H Q => r1 xs H Q ∨ r2 xs H Q) := by
  intro pins s σ H xs us Q I r h
  rcases h with h | h
  · exact h1 pins s σ H xs us Q I r h
  · exact h2 pins s σ H xs us Q I r h
section
variable {X : Cx} {C : Cn} {W : Wish}
def rLenK : List V → Hp → VK → Prop := fun xs H Q => ∃ a kvs, xs = [V.ref a] ∧ Rd H a (.dK kvs) ∧ Q (.int kvs.length) H
theorem call_lenK : CallR X (.builtin "len") rLenK := by
  intro pins s σ H xs us Q I r h
  obtain ⟨a, kvs, rfl, ha, q⟩ := h
  obtain ⟨u, rfl, ru⟩ := vals1 r
  cases (show u = Value.ref a from ru)
  exact d_len I ha fun t s' I' => ⟨.int kvs.length, H, I', ⟨t, rfl⟩, q⟩
def rLenDT : List V → Hp → VK → Prop := fun xs H Q => ∃ (p : Addr) (kvs : List (List Key × V)), xs = [.ref p] ∧ Rd H p (.dT kvs) ∧ Q (.int ((kvs.length : Nat) : Int)) H
theorem call_lenDT : CallR X (.builtin "len") rLenDT := by
  intro pins s σ H xs us Q I r h
  obtain ⟨p, kvs, rfl, hp, q⟩ := h
  obtain ⟨u, rfl, rx⟩ := vals1 r
  obtain rfl : u = .ref p := rx
  obtain ⟨z, hd, ys, rel, dd⟩ := dt_rd I.hok hp
  have hl : kvs.length = ys.length := Paired.length rel
  refine call_len_dictH hd dd (by rw [← hl]; rw [sizeLine_eq] at z; omega) ?_
  rw [← hl]
  exact ⟨.int ((kvs.length : Nat) : Int), H, I.tok _, ⟨_, rfl⟩, q⟩
def rLen (K : PySem.W.Frag) : List V → Hp → VK → Prop := fun xs H Q => (∃ x n, xs = [x] ∧ LenV K x H n ∧ Q (.int n) H) ∨ rLenK xs H Q ∨ rLenDT xs H Q
theorem call_lenA : CallR X (.builtin "len") (rLen X.K) := CallR.or call_len (CallR.or call_lenK call_lenDT)
def rLst (K : PySem.W.Frag) : List V → Hp → VK → Prop := fun xs H Q => (∃ p ys, xs = [.ref p] ∧ (SqL K H p ys ∨ SqT K H p ys) ∧ ∀ l, H l = none → Q (.ref l) (upd H l (.lst ys))) ∨
  (∃ (a : Addr) (kvs : List (Key × V)), xs = [.ref a] ∧ Rd H a (.dK kvs) ∧ ∀ p, H p = none → Q (.ref p) (upd H p (.lst (kvs.map fun kv => kV kv.1)))) ∨
  (∃ d kvs, xs = [V.ref d] ∧ Rd H d (.dT kvs) ∧ ∀ p bs, H p = none → IsKeys H kvs bs → Q (.ref p) (upd H p (.lst (bs.map V.ref))))
theorem call_lstA (hc : X.calm = true) : CallR X (.type "list") (rLst X.K) := CallR.or call_list_of (CallR.or (call_listD hc) (call_list_dT hc))
/-- what a built-in wants, by its name -/
def rBi (K : PySem.W.Frag) : Bi → List V → Hp → VK → Prop
  | .len => rLen K
  | .list => rLst K
  | .tuple => fun xs H Q => ∃ p ys, xs = [.ref p] ∧ ((SqL K H p ys ∧ ∀ l, H l = none → Q (.ref l) (upd H l (.tup ys))) ∨ (SqT K H p ys ∧ Q (.ref p) H))
  | .int => fun xs H Q => (∃ i, xs = [.int i] ∧ Q (.int i) H) ∨ ∃ k, xs = [.bl k] ∧ Q (.int (if k then 1 else 0)) H
  | .str => fun xs H Q => ∃ i, xs = [.int i] ∧ i.natAbs.log2 < 1920 ∧ Q (.str (toString i)) H
  | .max => fun xs H Q => (∃ i j, xs = [.int i, .int j] ∧ Q (.int (if j > i then j else i)) H) ∨ rNuC3 nuMax3 xs H Q
  | .min => fun xs H Q => ∃ i j, xs = [.int i, .int j] ∧ Q (.int (if j < i then j else i)) H
  | .minl => rMinL K
  | .maxt => rMaxT K
  | _ => fun _ _ _ => False
theorem valsB_plain {b : Bi} {st : Sto} {rs : List RV} (h : isMx b = false) : valsB b st rs = vals st rs := by
  unfold valsB
  rw [h]; rfl
def biV : Bi → Value
  | .len => .builtin "len"
  | .list => .type "list"
  | .tuple => .type "tuple"
  | .int => .type "int"
  | .str => .type "str"
  | .max => .builtin "max"
  | .min => .builtin "min"
  | .sorted => .builtin "sorted"
  | .minl => .builtin "min"
  | .maxt => .builtin "max"
  | _ => .builtin "len"
/-- those whose argument is an easy one -/
def easyBi : Bi → Bool
  | .len | .list | .tuple | .int | .str | .max | .min | .minl | .maxt => true
  | _ => false
theorem call_bi (hc : X.calm = true) (hu : X.A.units + 100 < cLine) (b : Bi) (h : easyBi b = true) : CallR X (biV b) (rBi X.K b) := by
  cases b <;> first
    | exact call_lenA
    | exact call_lstA hc
    | exact call_tuple_of
    | exact call_int1
    | exact call_str_int
    | exact CallR.or (call_max2 hc) (call_max3Nu hc)
    | exact call_min2 hc
    | exact cr_minL hc (by omega)
    | exact cr_maxT hc (by omega)
    | exact absurd h (by decide)
section
variable {K : PySem.W.Frag} {M : List Addr} {H : Hp} {st : Sto}
theorem CpL.one {L : Addr → Prop} {vs : List V} {d : D} (h : CpL K L H vs [d]) : ∃ v, vs = [v] ∧ Cp K L H v d := by
  cases h with
  | cons a b => cases b; exact ⟨_, rfl, a⟩
theorem CpL.two {L : Addr → Prop} {vs : List V} {d e : D} (h : CpL K L H vs [d, e]) : ∃ v u, vs = [v, u] ∧ Cp K L H v d ∧ Cp K L H u e := by
  cases h with
  | cons a b =>
    obtain ⟨u, rfl, h⟩ := b.one
    exact ⟨_, u, rfl, a, h⟩
theorem log2_small {n : Nat} (h : n < 1000000) : n.log2 < 1920 := by
  by_cases h0 : n = 0
  · subst h0; decide
  · have : n.log2 < 20 := (Nat.log2_lt h0).mpr (by omega)
    omega
theorem nuMax2_int (i j : Int) : nuMax2 (.int i) (.int j) = some (.int (if j > i then j else i)) := by
  show (some (decide (i < j))).map (fun c => if c = true then V.int j else V.int i) = _
  by_cases h : j > i
  · have h' : i < j := h
    simp [h']
  · have h' : ¬ i < j := h
    simp [h']
theorem pairs_of {xs : List D} (h : pairsA xs = true) : ∀ x ∈ xs, ∀ y ∈ xs, PySem.W.alike x y = true := fun x hx y hy => List.all_eq_true.mp (List.all_eq_true.mp h x hx) y hy
theorem best_of {xs : List D} (h : bestOk xs = true) : (∀ x ∈ xs, ∀ y ∈ xs, PySem.W.alike x y = true) ∧ (∀ x ∈ xs, x ≠ .none) ∧ PyData.depthAll xs ≤ 8 ∧ PyData.canLayAll0 xs = true := by
  have h1 := Bool.and_eq_true_iff.mp h
  have h2 := Bool.and_eq_true_iff.mp h1.2
  have h3 := Bool.and_eq_true_iff.mp h2.2
  refine ⟨pairs_of h1.1, fun x hx => ?_, of_decide_eq_true h3.1, h3.2⟩
  rintro rfl
  have := List.all_eq_true.mp h2.1 _ hx
  cases this
theorem bi_end (sr : SR K M H st) {b : Bi} {vs : List V} {ds : List D} {z : D} (cl : CpL K (Lv M st) H vs ds) (ez : easyBi b = true) (e : blt b ds = some z) {Q : VK} (w : Wants K M H st z Q) : rBi K b vs H Q := by
  cases b with
  | len =>
    obtain ⟨d, rfl⟩ : ∃ d, ds = [d] := by
      cases ds with
      | nil => cases e
      | cons d r => cases r with | nil => exact ⟨d, rfl⟩ | cons _ _ => cases e
    obtain ⟨v, rfl, c⟩ := cl.one
    cases d <;> first
      | (cases e; done)
      | skip
    · cases c.str
      rename_i t
      cases hz : Mi.sizeOk t.length with
      | true =>
        simp only [blt, lenOf, hz, if_true, Option.map_some] at e
        cases e
        exact .inl ⟨_, _, rfl, ⟨sizeOk_ok hz, rfl⟩, w.int sr⟩
      | false =>
        simp only [blt, lenOf, hz] at e
        cases e
    · obtain ⟨a, xs, rfl, ra, pa⟩ := c.list
      cases e
      refine .inl ⟨_, _, rfl, .inl ⟨xs, .inl ra, rfl⟩, ?_⟩
      rw [pa.len]; exact w.int sr
    · obtain ⟨a, xs, rfl, ra, pa⟩ := c.tup
      cases e
      refine .inl ⟨_, _, rfl, .inr ⟨xs, ra, rfl⟩, ?_⟩
      rw [pa.len]; exact w.int sr
    · obtain ⟨a, rfl, dc⟩ := c.dict
      cases e
      rcases dc with ⟨kvs, r, q, x⟩ | ⟨kvs, r, q, x⟩
      · refine .inr (.inl ⟨a, kvs, rfl, r, ?_⟩)
        have := congrArg List.length q
        rw [List.length_map, List.length_map] at this
        rw [this]; exact w.int sr
      · refine .inr (.inr ⟨a, kvs, rfl, r, ?_⟩)
        have := congrArg List.length q
        rw [List.length_map, List.length_map] at this
        rw [this]; exact w.int sr
  | list =>
    obtain ⟨d, rfl⟩ : ∃ d, ds = [d] := by
      cases ds with
      | nil => cases e
      | cons d r => cases r with | nil => exact ⟨d, rfl⟩ | cons _ _ => (cases d <;> cases e)
    obtain ⟨v, rfl, c⟩ := cl.one
    cases d <;> first
      | (cases e; done)
      | skip
    · obtain ⟨a, xs, rfl, ra, pa⟩ := c.list
      cases e
      exact .inl ⟨a, xs, rfl, .inl (.inl ra), w.lst sr pa⟩
    · obtain ⟨a, xs, rfl, ra, pa⟩ := c.tup
      cases e
      exact .inl ⟨a, xs, rfl, .inr ra, w.lst sr pa⟩
    · obtain ⟨a, rfl, dc⟩ := c.dict
      cases e
      rcases dc with ⟨kvs, r, q, x⟩ | ⟨kvs, r, q, x⟩
      · exact .inr (.inl ⟨a, kvs, rfl, r, w.lst sr (keysA_rp q)⟩)
      · exact .inr (.inr ⟨a, kvs, rfl, r, fun p bs hp hk => w.lst sr (keysT_rp sr hk q) p hp⟩)
  | tuple =>
    obtain ⟨d, rfl⟩ : ∃ d, ds = [d] := by
      cases ds with
      | nil => cases e
      | cons d r => cases r with | nil => exact ⟨d, rfl⟩ | cons _ _ => (cases d <;> cases e)
    obtain ⟨v, rfl, c⟩ := cl.one
    cases d <;> first
      | (cases e; done)
      | skip
    · obtain ⟨a, xs, rfl, ra, pa⟩ := c.list
      cases e
      exact ⟨a, xs, rfl, .inl ⟨.inl ra, w.tup sr pa⟩⟩
    · have k := c.rt
      obtain ⟨a, xs, rfl, ra, pa⟩ := c.tup
      cases e
      exact ⟨a, xs, rfl, .inr ⟨ra, w.here sr k⟩⟩
  | int =>
    obtain ⟨d, rfl⟩ : ∃ d, ds = [d] := by
      cases ds with
      | nil => cases e
      | cons d r => cases r with | nil => exact ⟨d, rfl⟩ | cons _ _ => (cases d <;> cases e)
    obtain ⟨v, rfl, c⟩ := cl.one
    cases d <;> first
      | (cases e; done)
      | skip
    · cases c.bl
      cases e
      exact .inr ⟨_, rfl, w.int sr⟩
    · cases c.int
      cases e
      exact .inl ⟨_, rfl, w.int sr⟩
  | str =>
    obtain ⟨d, rfl⟩ : ∃ d, ds = [d] := by
      cases ds with
      | nil => cases e
      | cons d r => cases r with | nil => exact ⟨d, rfl⟩ | cons _ _ => (cases d <;> cases e)
    obtain ⟨v, rfl, c⟩ := cl.one
    cases d <;> first
      | (cases e; done)
      | skip
    cases c.int
    simp only [blt] at e
    split at e
    · rename_i hz
      cases e
      exact ⟨_, rfl, log2_small hz, w.str sr⟩
    · cases e
  | max =>
    match ds, e, ez, cl with
    | [.int i, .int j], e, _, c =>
      obtain ⟨v, u, rfl, c1, c2⟩ := c.two
      cases c1.int; cases c2.int
      cases e
      exact .inl ⟨i, j, rfl, w.int sr⟩
    | [.int i, .int j, .int k], e, _, c =>
      cases c with
      | cons c1 c =>
        obtain ⟨v, u, rfl, c2, c3⟩ := c.two
        cases c1.int; cases c2.int; cases c3.int
        cases e
        refine .inr ⟨_, _, _, _, rfl, ?_, w.int sr⟩
        unfold nuMax3
        rw [nuMax2_int, Option.bind_some, nuMax2_int]
  | min =>
    match ds, e, ez, cl with
    | [.int i, .int j], e, _, c =>
      obtain ⟨v, u, rfl, c1, c2⟩ := c.two
      cases c1.int; cases c2.int
      cases e
      exact ⟨i, j, rfl, w.int sr⟩
  | sorted => cases ez
  | lenset => cases ez
  | sortset => cases ez
  | lrange => cases ez
  | ltup => cases ez
  | maxt =>
    have key : ∀ (y : D) (r : List D), ds = [.tuple (y :: r)] → rBi K .maxt vs H Q := fun y r q => by
      subst q
      obtain ⟨v, rfl, c⟩ := cl.one
      obtain ⟨a, xs, rfl, ra, rl⟩ := c.tup
      cases hb : bestOk (y :: r) with
      | false => simp [blt, hb] at e
      | true =>
        simp only [blt, hb, if_true] at e
        cases e
        obtain ⟨b1, b2, b3, b4⟩ := best_of hb
        refine ⟨a, xs, y, r, rfl, ra, rl.dp b4, ⟨b1, b2⟩, b3, fun i v hv he => ?_⟩
        obtain ⟨d, g1, g2⟩ := rl.get' hv
        rw [g1] at he
        cases he
        exact w.here sr g2
    match ds, e with
    | [.tuple (y :: r)], e => exact key y r rfl
    | [.tuple []], e => simp [blt] at e
    | [], e => simp [blt] at e
    | [.none], e => simp [blt] at e
    | [.bool _], e => simp [blt] at e
    | [.int _], e => simp [blt] at e
    | [.str _], e => simp [blt] at e
    | [.list _], e => simp [blt] at e
    | [.dict _], e => simp [blt] at e
    | _ :: _ :: _, e => simp [blt] at e
  | minl =>
    have key : ∀ (y : D) (r : List D), ds = [.list (y :: r)] → rBi K .minl vs H Q := fun y r q => by
      subst q
      obtain ⟨v, rfl, c⟩ := cl.one
      obtain ⟨a, xs, rfl, ra, rl⟩ := c.list
      cases hb : bestOk (y :: r) with
      | false => simp [blt, hb] at e
      | true =>
        simp only [blt, hb, if_true] at e
        cases e
        obtain ⟨b1, b2, b3, b4⟩ := best_of hb
        refine ⟨a, xs, y, r, rfl, .inl ra, rl.dp b4, ⟨b1, b2⟩, b3, fun i v hv he => ?_⟩
        obtain ⟨d, g1, g2⟩ := rl.get' hv
        rw [g1] at he
        cases he
        exact w.here sr g2
    match ds, e with
    | [.list (y :: r)], e => exact key y r rfl
    | [.list []], e => simp [blt] at e
    | [], e => simp [blt] at e
    | [.none], e => simp [blt] at e
    | [.bool _], e => simp [blt] at e
    | [.int _], e => simp [blt] at e
    | [.str _], e => simp [blt] at e
    | [.tuple _], e => simp [blt] at e
    | [.dict _], e => simp [blt] at e
    | _ :: _ :: _, e => simp [blt] at e
theorem maxt_end (sr : SR K M H st) {vs : List V} {rs : List RV} {ds : List D} {z : D} (rv : RVs K M (Lv M st) H vs rs) (e1 : valsB .maxt st rs = some ds) (e : blt .maxt ds = some z) {Q : VK} (w : Wants K M H st z Q) : rBi K .maxt vs H Q := by
    have key : ∀ (y : D) (r : List D), ds = [.tuple (y :: r)] → rBi K .maxt vs H Q := fun y r q => by
      subst q
      obtain ⟨r1, rfl⟩ : ∃ r1, rs = [r1] := by
        cases rs with
        | nil => cases e1
        | cons r1 r2 =>
          cases r2 with
          | nil => exact ⟨r1, rfl⟩
          | cons r2 r3 =>
            exfalso
            have e1' : valsT st (r1 :: r2 :: r3) = some [.tuple (y :: r)] := e1
            unfold valsT at e1'
            split at e1'
            · obtain ⟨l, e3, e4⟩ := Option.map_eq_some_iff.mp e1'
              injection e4 with e5 e6
              subst e6
              unfold valsT at e3
              split at e3
              · obtain ⟨l2, _, e7⟩ := Option.map_eq_some_iff.mp e3
                cases e7
              · cases e3
            · cases e1'
      cases rv with
      | cons rv1 rv2 =>
      cases rv2
      rename_i v
      have c : CpT K (Lv M st) H v (.tuple (y :: r)) := by
        have e1' : valsT st [r1] = some [.tuple (y :: r)] := e1
        unfold valsT at e1'
        split at e1'
        · rename_i d ed
          obtain ⟨l, _, e4⟩ := Option.map_eq_some_iff.mp e1'
          injection e4 with e5 e6
          subst e5
          exact contentT_cp sr rv1 ed
        · cases e1'
      obtain ⟨a, xs, rfl, ra, rl⟩ := c.tup
      cases hb : bestOk (y :: r) with
      | false => simp [blt, hb] at e
      | true =>
        simp only [blt, hb, if_true] at e
        cases e
        obtain ⟨b1, b2, b3, b4⟩ := best_of hb
        refine ⟨a, xs, y, r, rfl, ra, rl.dp b4, ⟨b1, b2⟩, b3, fun i v hv he => ?_⟩
        obtain ⟨d, g1, g2⟩ := rl.get' hv
        rw [g1] at he
        cases he
        exact w.here sr g2
    match ds, e with
    | [.tuple (y :: r)], e => exact key y r rfl
    | [.tuple []], e => simp [blt] at e
    | [], e => simp [blt] at e
    | [.none], e => simp [blt] at e
    | [.bool _], e => simp [blt] at e
    | [.int _], e => simp [blt] at e
    | [.str _], e => simp [blt] at e
    | [.list _], e => simp [blt] at e
    | [.dict _], e => simp [blt] at e
    | _ :: _ :: _, e => simp [blt] at e
end
def biN : Bi → Str
  | .len => "len"
  | .list => "list"
  | .tuple => "tuple"
  | .int => "int"
  | .str => "str"
  | .max => "max"
  | .min => "min"
  | .sorted => "sorted"
  | .maxt => "max"
  | .minl => "min"
  | .lenset => "len"
  | .sortset => "sorted"
  | .lrange => "list"
  | .ltup => "tuple"
theorem co_bi {K : PySem.W.Frag} {b : Bi} {es : T} {σ : L2.St} {H : Hp} {Q : VK} (ez : easyBi b = true) (h : tE K C W (.bi b es) σ H Q) : tCB (rBi K b) (tEs K C W es) σ H Q := by
  obtain ⟨M, env, st, er, sr, h⟩ := h
  rw [ev] at h
  refine ⟨M, env, st, er, sr, (PR.bind h).imp fun rs M1 st1 H1 p1 sr1 s1 h vs r => ?_⟩
  cases hm : isMx b with
  | false =>
    rw [valsB_plain hm] at h
    cases e1 : vals st1 rs with
    | none => simp only [e1] at h; exact h.elim
    | some ds =>
      simp only [e1] at h
      cases e2 : blt b ds with
      | none => simp only [e2] at h; exact h.elim
      | some z =>
        simp only [e2] at h
        exact bi_end sr1 (vals_cp sr1 r e1) ez e2 (Wants.of h)
  | true =>
    have eb : b = .maxt := by cases b <;> first | rfl | cases hm
    subst eb
    cases e1 : valsB .maxt st1 rs with
    | none => simp only [e1] at h; exact h.elim
    | some ds =>
      simp only [e1] at h
      cases e2 : blt .maxt ds with
      | none => simp only [e2] at h; exact h.elim
      | some z =>
        simp only [e2] at h
        exact maxt_end sr1 r e1 e2 (Wants.of h)
theorem boot_bi (b : Bi) (ez : easyBi b = true) : bootBuiltins (biN b) = some (biV b) := by
  cases b <;> first
    | decide +kernel
    | exact absurd ez (by decide)
theorem se_bi {b : Bi} {e : Expr} {es : List Expr} {t : T} {p pos : Pos} (hc : X.calm = true) (hu : X.A.units + 100 < cLine) (ez : easyBi b = true) (hg : Gl X (biN b)) (hm : X.mg (biN b) = none) (ha : PA X (e :: es) (tEs X.K C W t))
    (he : starEach (e :: es) X.env = (false, eval e X.env) :: starEach es X.env) (hpl : (backTo pos (starEach es X.env)).any (·.1) = false) : PE X (.Call (.Name (biN b) p) (e :: es) [] pos) (tE X.K C W (.bi b t)) := by
  refine cvX (t := tCB (rBi X.K b) (tEs X.K C W t)) ?_ (co_bi ez)
  have hv := boot_bi b ez
  have cb := call_bi (X := X) hc hu b ez
  cases b <;> first
    | exact pe_callB cb hg hm hv ha (by decide) (by decide) he hpl
    | exact pe_callTy cb hg hm hv ha (by decide) (by decide) he hpl
    | exact absurd ez (by decide)
/-! ### isinstance -/
def tyN : Ty → String
  | .int => "int"
  | .bool => "bool"
  | .str => "str"
  | .tuple => "tuple"
  | .list => "list"
end
end MiS

namespace MiS
open PySem PySem.Spec PyProof.Rows L2 Mi MiG
variable [Tb]
section
variable {X : Cx} {C : Cn} {W : Wish} {K : PySem.W.Frag}
/-- a built-in of one argument -/
theorem co_bi1 {b : Bi} (hx : isMx b = false) (hb : ∀ ds z, blt b ds = some z → ∃ d, ds = [d]) {es : Mi.T} {σ : L2.St} {H : Hp} {Q : VK} (h : tE K C W (.bi b es) σ H Q) :
    tEs K C W es σ H fun vs H1 => ∃ M1 st1 v d z, vs = [v] ∧ SR K M1 H1 st1 ∧ Cp K (Lv M1 st1) H1 v d ∧ blt b [d] = some z ∧ Wants K M1 H1 st1 z Q := by
  obtain ⟨M, env, st, er, sr, h⟩ := h
  rw [ev] at h
  refine ⟨M, env, st, er, sr, (PR.bind h).imp fun rs M1 st1 H1 p1 sr1 s1 h vs rv => ?_⟩
  rw [valsB_plain hx] at h
  cases e1 : vals st1 rs with
  | none => simp only [e1] at h; exact h.elim
  | some ds =>
    simp only [e1] at h
    cases e2 : blt b ds with
    | none => simp only [e2] at h; exact h.elim
    | some z =>
      simp only [e2] at h
      have cl := vals_cp sr1 rv e1
      obtain ⟨d, rfl⟩ := hb _ _ e2
      obtain ⟨v, rfl, c⟩ := cl.one
      exact ⟨M1, st1, v, d, z, rfl, sr1, c, e2, Wants.of h⟩
theorem one_lenset : ∀ ds z, blt .lenset ds = some z → ∃ d, ds = [d]
  | [], z, h => by cases h
  | [d], _, _ => ⟨d, rfl⟩
  | _ :: _ :: _, z, h => by simp [blt] at h
theorem one_sortset : ∀ ds z, blt .sortset ds = some z → ∃ d, ds = [d]
  | [], z, h => by cases h
  | [d], _, _ => ⟨d, rfl⟩
  | _ :: _ :: _, z, h => by simp [blt] at h
/-! ### len(set(xs)) -/
theorem ints_of {L : Addr → Prop} {H : Hp} : ∀ {vs : List V} {ds : List D}, RpL K L H vs ds → allInt ds = true → ∃ ns : List Int, vs = ns.map V.int ∧ ds = ns.map PyData.int
  | _, _, .nil, _ => ⟨[], rfl, rfl⟩
  | _, _, .cons (d := d) a b, h => by
    cases a with
    | int i =>
      obtain ⟨ns, e1, e2⟩ := ints_of b h
      exact ⟨i :: ns, by rw [e1]; rfl, by rw [e2]; rfl⟩
    | _ => cases h
theorem deq_int (i j : Int) : deq (.int i) (.int j) = decide (i = j) := rfl
theorem has_ints (i : Int) : ∀ ns : List Int, has (.int i) (ns.map PyData.int) = decide (i ∈ ns)
  | [] => rfl
  | n :: ns => by
    show (deq (.int n) (.int i) || has (.int i) (ns.map PyData.int)) = _
    rw [has_ints i ns, deq_int]
    by_cases h : n = i
    · simp [h]
    · have : ¬ i = n := fun z => h z.symm
      simp [h, this]
/-- the first ones are dropped where they come again -/
def ded : List Int → List Int
  | [] => []
  | x :: r => if x ∈ r then ded r else x :: ded r
theorem ded_ints : ∀ ns : List Int, dedup (ns.map PyData.int) = (ded ns).map PyData.int
  | [] => rfl
  | n :: ns => by
    show (if has (.int n) (ns.map PyData.int) then dedup (ns.map PyData.int) else .int n :: dedup (ns.map PyData.int)) = _
    rw [has_ints, ded_ints ns]
    by_cases h : n ∈ ns
    · simp [h, ded]
    · simp [h, ded]
theorem ded_mem {k : Int} : ∀ {ns : List Int}, k ∈ ded ns ↔ k ∈ ns
  | [] => Iff.rfl
  | n :: ns => by
    by_cases h : n ∈ ns
    · simp only [ded, h, if_true, ded_mem, List.mem_cons]
      constructor
      · exact .inr
      · rintro (rfl | q)
        · exact h
        · exact q
    · simp only [ded, h, if_false, List.mem_cons, ded_mem]
theorem ded_nd : ∀ ns : List Int, (ded ns).Nodup
  | [] => List.nodup_nil
  | n :: ns => by
    by_cases h : n ∈ ns
    · simp only [ded, h, if_true]; exact ded_nd ns
    · simp only [ded, h, if_false]
      exact List.nodup_cons.mpr ⟨fun q => h (ded_mem.mp q), ded_nd ns⟩
theorem co_lenset {ta : Mi.T} {σ : L2.St} {H : Hp} {Q : VK} (h : tE K C W (.bi .lenset ta) σ H Q) : tLenSetM K (tEs K C W ta) σ H Q := by
  obtain ⟨M, env, st, er, sr, h⟩ := co_bi1 rfl one_lenset h
  refine ⟨M, env, st, er, sr, h.imp fun rs M1 st1 H1 p1 sr1 s1 h vv rv => ?_⟩
  obtain ⟨M2, st2, v, d, z, rfl, sr2, c, e, w⟩ := h vv rv
  have key : ∀ xs, (if decide (xs.length < 4000) && allInt xs then some (PyData.int (dedup xs).length) else none) = some z → ∀ a vs, RpL K (Lv M2 st2) H1 vs xs → (Rd H1 a (.lst vs) ∨ SqT K H1 a vs) → v = .ref a →
      ∃ (l : Addr) (ns us : List Int), [v] = [V.ref l] ∧ (SqL K H1 l (ns.map V.int) ∨ SqT K H1 l (ns.map V.int)) ∧ ns.length < 4000 ∧ us.Nodup ∧ (∀ k, k ∈ us ↔ k ∈ ns) ∧ Q (.int us.length) H1 := fun xs e a vs rl ra ev => by
    cases hi : decide (xs.length < 4000) && allInt xs with
    | false => simp [hi] at e
    | true =>
      simp only [hi, if_true] at e
      cases e
      have hh := Bool.and_eq_true_iff.mp hi
      obtain ⟨ns, rfl, rfl⟩ := ints_of rl hh.2
      have hl := of_decide_eq_true hh.1
      rw [List.length_map] at hl
      refine ⟨a, ns, ded ns, by rw [ev], ra.imp (fun q => .inl q) id, hl, ded_nd ns, fun k => ded_mem, ?_⟩
      have := w.here sr2 (v := .int (ded ns).length) (by rw [ded_ints, List.length_map]; exact .int _)
      exact this
  cases d with
  | list xs =>
    obtain ⟨a, vs, ev, ra, rl⟩ := c.list
    exact key xs e a vs rl (.inl ra) ev
  | tuple xs =>
    obtain ⟨a, vs, ev, ra, rl⟩ := c.tup
    exact key xs e a vs rl (.inr ra) ev
  | _ => cases e
theorem se_lenset {a : Expr} {ta : Mi.T} {p p2 q pos : Pos} (hc : X.calm = true) (hg : Gl X "len") (hm : X.mg "len" = none) (hg2 : Gl X "set") (hm2 : X.mg "set" = none) (ha : PA X [a] (tEs X.K C W ta))
    (na : starEach [a] X.env = (false, eval a X.env) :: starEach [] X.env) : PE X (.Call (.Name "len" p) [.Call (.Name "set" p2) [a] [] q] [] pos) (tE X.K C W (.bi .lenset ta)) := cvX (pe_lenSetM hc hg hm hg2 hm2 ha na) co_lenset
/-! ### sorted(set(xs)) -/
mutual
theorem nd_deq : ∀ {a b : D}, nd a = true → nd b = true → deq a b = true → a = b
  | .int i, .int j, _, _, h => by rw [of_decide_eq_true (show decide (i = j) = true from h)]
  | .tuple xs, .tuple ys, h1, h2, h => by rw [nds_deqs (a := xs) (b := ys) h1 h2 h]
  | .int _, .tuple _, _, _, h => by cases h
  | .tuple _, .int _, _, _, h => by cases h
  | .none, _, h, _, _ => by cases h
  | .bool _, _, h, _, _ => by cases h
  | .str _, _, h, _, _ => by cases h
  | .list _, _, h, _, _ => by cases h
  | .dict _, _, h, _, _ => by cases h
  | _, .none, _, h, _ => by cases h
  | _, .bool _, _, h, _ => by cases h
  | _, .str _, _, h, _ => by cases h
  | _, .list _, _, h, _ => by cases h
  | _, .dict _, _, h, _ => by cases h
theorem nds_deqs : ∀ {a b : List D}, nds a = true → nds b = true → deqs a b = true → a = b
  | [], [], _, _, _ => rfl
  | x :: xs, y :: ys, h1, h2, h => by
    have h1 := Bool.and_eq_true_iff.mp (show (nd x && nds xs) = true from h1)
    have h2 := Bool.and_eq_true_iff.mp (show (nd y && nds ys) = true from h2)
    have h := Bool.and_eq_true_iff.mp (show (deq x y && deqs xs ys) = true from h)
    rw [nd_deq h1.1 h2.1 h.1, nds_deqs h1.2 h2.2 h.2]
  | [], _ :: _, _, _, h => by cases h
  | _ :: _, [], _, _, h => by cases h
end
theorem has_nd {x : D} (hx : nd x = true) : ∀ {ys : List D}, ys.all nd = true → has x ys = true → x ∈ ys
  | [], _, h => by cases h
  | y :: ys, hn, h => by
    have hn := Bool.and_eq_true_iff.mp (show (nd y && ys.all nd) = true from hn)
    rcases Bool.or_eq_true_iff.mp (show (deq y x || has x ys) = true from h) with q | q
    · rw [nd_deq hn.1 hx q]; exact List.mem_cons_self
    · exact List.mem_cons_of_mem _ (has_nd hx hn.2 q)
theorem strictly_pw : ∀ {r : List D}, strictly r = true → r.Pairwise fun x y => PySem.W.dataLt x y = true ∧ PySem.W.dataLt y x = false
  | [], _ => .nil
  | x :: r, h => by
    have h := Bool.and_eq_true_iff.mp (show (r.all (fun y => PySem.W.dataLt x y && !PySem.W.dataLt y x) && strictly r) = true from h)
    refine .cons (fun y hy => ?_) (strictly_pw h.2)
    have q := Bool.and_eq_true_iff.mp (List.all_eq_true.mp h.1 y hy)
    exact ⟨q.1, by simpa using q.2⟩
theorem mem_ins {x z : D} : ∀ {r : List D}, z ∈ ins1 x r → z = x ∨ z ∈ r
  | [], h => .inl (List.mem_singleton.mp h)
  | y :: r, h => by
    unfold ins1 at h
    split at h
    · rcases List.mem_cons.mp h with q | q
      · exact .inr (by rw [q]; exact List.mem_cons_self)
      · rcases mem_ins q with q | q
        · exact .inl q
        · exact .inr (List.mem_cons_of_mem _ q)
    · rcases List.mem_cons.mp h with q | q
      · exact .inl q
      · exact .inr q
theorem mem_isort {z : D} : ∀ {r : List D}, z ∈ isort r → z ∈ r
  | [], h => by cases h
  | x :: r, h => by
    rcases mem_ins (show z ∈ ins1 x (isort r) from h) with q | q
    · rw [q]; exact List.mem_cons_self
    · exact List.mem_cons_of_mem _ (mem_isort q)
theorem mem_dedup {z : D} : ∀ {r : List D}, z ∈ dedup r → z ∈ r
  | [], h => by cases h
  | x :: r, h => by
    unfold dedup at h
    split at h
    · exact List.mem_cons_of_mem _ (mem_dedup h)
    · rcases List.mem_cons.mp h with q | q
      · rw [q]; exact List.mem_cons_self
      · exact List.mem_cons_of_mem _ (mem_dedup q)
/-- a list of tuples: where each stands -/
theorem places_of {L : Addr → Prop} {H : Hp} : ∀ {vs : List V} {ds : List D}, RpL K L H vs ds → ds.all tupNE = true → ∃ ks : List Ed, vs = ks.map (fun p => V.ref p.1) ∧ ds = ks.map (·.2) ∧ ∀ p ∈ ks, Rp K L H (.ref p.1) p.2
  | _, _, .nil, _ => ⟨[], rfl, rfl, fun p hp => by cases hp⟩
  | _, _, .cons (d := d) a b, h => by
    have h := Bool.and_eq_true_iff.mp (show (tupNE d && _) = true from h)
    obtain ⟨ks, e1, e2, e3⟩ := places_of b h.2
    cases a with
    | tup n q r =>
      refine ⟨(_, _) :: ks, by rw [e1]; rfl, by rw [e2]; rfl, fun p hp => ?_⟩
      rcases List.mem_cons.mp hp with z | z
      · rw [z]; exact .tup n q r
      · exact e3 p z
    | _ => cases h.1
theorem depth_mem : ∀ {xs : List D} {x : D}, x ∈ xs → x.depth ≤ PyData.depthAll xs
  | y :: ys, x, h => by
    simp only [PyData.depthAll]
    rcases List.mem_cons.mp h with q | q
    · rw [q]; omega
    · have := depth_mem q; omega
theorem lay_mem : ∀ {xs : List D} {x : D}, PyData.canLayAll0 xs = true → x ∈ xs → PyData.canLay0 x = true
  | y :: ys, x, h, hm => by
    simp only [PyData.canLayAll0, Bool.and_eq_true] at h
    rcases List.mem_cons.mp hm with q | q
    · rw [q]; exact h.1
    · exact lay_mem h.2 q
theorem rpL_map {L : Addr → Prop} {H : Hp} : ∀ {ks : List Ed}, (∀ p ∈ ks, Rp K L H (.ref p.1) p.2) → RpL K L H (ks.map fun p => V.ref p.1) (ks.map (·.2))
  | [], _ => .nil
  | p :: ks, h => .cons (h p List.mem_cons_self) (rpL_map fun q hq => h q (List.mem_cons_of_mem _ hq))
theorem co_sortset {ta : Mi.T} {σ : L2.St} {H : Hp} {Q : VK} (h : tE K C W (.bi .sortset ta) σ H Q) : tSortSet K (tEs K C W ta) σ H Q := by
  obtain ⟨M, env, st, er, sr, h⟩ := co_bi1 rfl one_sortset h
  refine ⟨M, env, st, er, sr, h.imp fun rs M1 st1 H1 p1 sr1 s1 h vv rv => ?_⟩
  obtain ⟨M2, st2, v, d, z, rfl, sr2, c, e, w⟩ := h vv rv
  cases d with
  | list xs =>
    obtain ⟨a, vs, ev, ra, rl⟩ := c.list
    rw [blt] at e
    unfold sorS at e
    split at e
    · rename_i hb
      cases e
      obtain ⟨a1, b1⟩ := Bool.and_eq_true_iff.mp hb
      obtain ⟨a2, b2⟩ := Bool.and_eq_true_iff.mp b1
      obtain ⟨a3, b3⟩ := Bool.and_eq_true_iff.mp b2
      obtain ⟨a4, b4⟩ := Bool.and_eq_true_iff.mp b3
      obtain ⟨a5, b5⟩ := Bool.and_eq_true_iff.mp b4
      obtain ⟨a6, b6⟩ := Bool.and_eq_true_iff.mp b5
      obtain ⟨a7, b7⟩ := Bool.and_eq_true_iff.mp b6
      obtain ⟨a8, a9⟩ := Bool.and_eq_true_iff.mp b7
      obtain ⟨ks, rfl, rfl, hk⟩ := places_of rl a2
      have ndk : ∀ p ∈ ks, nd p.2 = true := fun p hp => List.all_eq_true.mp a1 _ (List.mem_map.mpr ⟨p, hp, rfl⟩)
      have hl := of_decide_eq_true a3
      rw [List.length_map] at hl
      have hd := of_decide_eq_true a4
      refine ⟨a, ks, by rw [ev], .inl ra, fun p hp => ⟨ndk p hp, (hk p hp).dp (lay_mem a6 (List.mem_map.mpr ⟨p, hp, rfl⟩)), Nat.le_trans (depth_mem (List.mem_map.mpr ⟨p, hp, rfl⟩)) hd⟩, hl, fun d hd d' hd' => pairs_of a5 d hd d' hd', .inl fun d hd => ?_, fun L' p sub all nodup pw hp => ?_⟩
      · have := List.all_eq_true.mp a2 d hd
        cases d with
        | tuple ys =>
          cases ys with
          | nil => cases this
          | cons y ys => exact ⟨y, ys, rfl⟩
        | _ => cases this
      · generalize hr : isort (dedup (ks.map (·.2))) = r at a7 a8 a9 w
        have spw := strictly_pw a7
        have ndr : r.Nodup := spw.imp fun {x y} q z => by
          rw [z] at q
          rw [q.1] at q
          exact Bool.noConfusion q.2
        have memr : ∀ k, k ∈ r → k ∈ ks.map (·.2) := fun k hk => by rw [← hr] at hk; exact mem_dedup (mem_isort hk)
        have memL : ∀ k, k ∈ L'.map (·.2) → k ∈ ks.map (·.2) := fun k hk => by
          obtain ⟨q, hq, e⟩ := List.mem_map.mp hk
          exact List.mem_map.mpr ⟨q, sub q hq, e⟩
        have ndall : ∀ k ∈ ks.map (·.2), nd k = true := fun k hk => List.all_eq_true.mp a1 _ hk
        have toR : ∀ k, k ∈ ks.map (·.2) → k ∈ r := fun k hk => has_nd (ndall k hk) (List.all_eq_true.mpr fun y hy => ndall y (memr y hy)) (List.all_eq_true.mp a9 k hk)
        have toL : ∀ k, k ∈ ks.map (·.2) → k ∈ L'.map (·.2) := fun k hk => by
          obtain ⟨q, hq, e⟩ := List.mem_map.mp hk
          rw [← e]; exact all q hq
        have pm : (L'.map (·.2)).Perm r := (List.perm_ext_iff_of_nodup nodup ndr).mpr fun k => ⟨fun hk => toR k (memL k hk), fun hk => toL k (memr k hk)⟩
        have eqL : L'.map (·.2) = r := by
          refine List.Perm.eq_of_pairwise (le := fun x y : D => PySem.W.dataLt y x = false) (fun x y hx hy h1 h2 => ?_) (List.pairwise_map.mpr pw) (spw.imp fun q => q.2) pm
          have hx' : x ∈ r := pm.mem_iff.mp hx
          rcases Classical.em (x = y) with q | q
          · exact q
          · exfalso
            obtain ⟨i, hi, ei⟩ := List.getElem_of_mem hx'
            obtain ⟨j, hj, ej⟩ := List.getElem_of_mem hy
            have pi := List.pairwise_iff_getElem.mp spw
            rcases Nat.lt_trichotomy i j with k | k | k
            · have := (pi i j hi hj k).1; rw [ei, ej] at this; rw [this] at h2; cases h2
            · subst k; exact q (ei.symm.trans ej)
            · have := (pi j i hj hi k).1; rw [ei, ej] at this; rw [this] at h1; cases h1
        have rl2 : RpL K (Lv M2 st2) H1 (L'.map fun q => V.ref q.1) r := by
          rw [← eqL]
          exact rpL_map fun q hq => hk q (sub q hq)
        exact w.lst sr2 rl2 p hp
    · cases e
  | _ => cases e
theorem se_sortset {a : Expr} {ta : Mi.T} {p p2 q pos : Pos} (hc : X.calm = true) (hu : X.A.units + 100 < cLine) (hg : Gl X "sorted") (hm : X.mg "sorted" = none) (hg2 : Gl X "set") (hm2 : X.mg "set" = none) (ha : PA X [a] (tEs X.K C W ta))
    (na : starEach [a] X.env = (false, eval a X.env) :: starEach [] X.env) : PE X (.Call (.Name "sorted" p) [.Call (.Name "set" p2) [a] [] q] [] pos) (tE X.K C W (.bi .sortset ta)) := cvX (pe_sortSet hc (by omega) hg hm hg2 hm2 ha na) co_sortset
end
end MiS

namespace MiS
open PySem PySem.Spec PyProof.Rows L2 Mi MiG
variable [Tb]
/-! ### the store changes -/
section
variable {K : PySem.W.Frag} {M : List Addr} {H : Hp} {st : Sto}
/-- an object's new form, its parts at the heap ahead of the change -/
def RpU (K : PySem.W.Frag) (L : Addr → Prop) (H : Hp) (u : HO) : O → Prop
  | .lst ds => ∃ xs, u = .lst xs ∧ RpL K L H xs ds
  | .dic ds => (∃ kvs : List (Key × V), u = .dK kvs ∧ kvs.map (fun p => kD p.1) = ds.map (·.1) ∧ RpL K L H (kvs.map (·.2)) (ds.map (·.2))) ∨
      ∃ kvs : List (List Key × V), u = .dT kvs ∧ kvs.map (fun p => kDs p.1) = ds.map (·.1) ∧ RpL K L H (kvs.map (·.2)) (ds.map (·.2))
  | .tpl ds => ∃ xs o, u = .frz o (.tup xs) ∧ o.dict = none ∧ RpL K L H xs ds
  | .dead => False
theorem RpU.live {L : Addr → Prop} {u : HO} {o : O} (h : RpU K L H u o) : o ≠ .dead := by rintro rfl; exact h
theorem RpU.at {L L' : Addr → Prop} {H' : Hp} {a : Addr} {u : HO} {o : O} (h : RpU K L H u o) (s : Step L H L' H') (e : H' a = some u) : RpO K L' H' a o := by
  cases o with
  | lst ds => obtain ⟨xs, rfl, r⟩ := h; exact ⟨xs, e, r.mono s⟩
  | dic ds =>
    rcases h with ⟨kvs, rfl, q, r⟩ | ⟨kvs, rfl, q, r⟩
    · exact .inl ⟨kvs, e, q, r.mono s⟩
    · exact .inr ⟨kvs, e, q, r.mono s⟩
  | tpl _ => obtain ⟨xs, o, rfl, q, r⟩ := h; exact ⟨xs, o, e, q, r.mono s⟩
  | dead => exact h.elim
theorem Lv.set {n : Nat} {o o' : O} (hs : st[n]? = some o) (hd : o ≠ .dead) (hd' : o' ≠ .dead) (a : Addr) : Lv M (st.set n o') a ↔ Lv M st a := by
  have hn : n < st.length := (List.getElem?_eq_some_iff.mp hs).1
  constructor
  · rintro ⟨m, x, h1, h2, h3⟩
    by_cases q : n = m
    · subst q; exact ⟨n, o, h1, hs, hd⟩
    · rw [List.getElem?_set_ne q] at h2; exact ⟨m, x, h1, h2, h3⟩
  · rintro ⟨m, x, h1, h2, h3⟩
    by_cases q : n = m
    · subst q; exact ⟨n, o', h1, by rw [List.getElem?_set_self hn], hd'⟩
    · exact ⟨m, x, h1, by rw [List.getElem?_set_ne q]; exact h2, h3⟩
theorem Lv.set_eq {n : Nat} {o o' : O} (hs : st[n]? = some o) (hd : o ≠ .dead) (hd' : o' ≠ .dead) : Lv M (st.set n o') = Lv M st := funext fun a => propext (Lv.set hs hd hd' a)
theorem RpO.nt {L : Addr → Prop} {a : Addr} {o : O} (h : RpO K L H a o) (hd : o ≠ .dead) : ∀ ps, H a ≠ some (.tbl ps) := by
  intro ps z
  cases o with
  | lst ds => obtain ⟨xs, e, _⟩ := h; rw [e] at z; cases z
  | dic kvs => rcases h with ⟨ks, e, _⟩ | ⟨ks, e, _⟩ <;> (rw [e] at z; cases z)
  | tpl _ => obtain ⟨xs, o, e, _⟩ := h; rw [e] at z; cases z
  | dead => exact hd rfl
/-- an object of the store takes a new form -/
theorem SR.write (sr : SR K M H st) {n : Nat} {o o' : O} {a : Addr} {u : HO} (hM : M[n]? = some a) (hs : st[n]? = some o) (hd : o ≠ .dead) (new : RpU K (Lv M st) H u o') :
    Step (Lv M st) H (Lv M (st.set n o')) (upd H a u) ∧ SR K M (upd H a u) (st.set n o') := by
  have hn : n < st.length := (List.getElem?_eq_some_iff.mp hs).1
  have la : Lv M st a := ⟨n, o, hM, hs, hd⟩
  have eL := Lv.set_eq (M := M) hs hd new.live
  have s : Step (Lv M st) H (Lv M (st.set n o')) (upd H a u) := by
    rw [eL]
    refine .mk' (fun b v e nl => ⟨?_, nl⟩) fun b e => ?_
    · rw [upd_ne (fun q => by subst q; exact nl la)]; exact e
    · by_cases q : b = a
      · subst q; rw [upd_same]; simp
      · rw [upd_ne q]; exact e
  refine ⟨s, ⟨by rw [List.length_set]; exact sr.len, sr.nd, fun m x b h1 h2 => ?_, fun P hP => tab_upd (sr.tab P hP) ((sr.obj n o a hs hM).nt hd)⟩⟩
  by_cases q : n = m
  · subst q
    rw [List.getElem?_set_self hn] at h1
    cases h1
    cases hM.symm.trans h2
    exact new.at s upd_same
  · rw [List.getElem?_set_ne q] at h1
    have hb : b ≠ a := fun e => q (sr.nd n m a hM (by rw [← e]; exact h2))
    exact (sr.obj m x b h1 h2).mono s fun v e => by rw [upd_ne hb]; exact e
/-- an object of the store is changed no more -/
theorem SR.freeze (sr : SR K M H st) {n : Nat} {o : O} {a : Addr} (hM : M[n]? = some a) (hs : st[n]? = some o) : Step (Lv M st) H (Lv M (st.set n .dead)) H ∧ SR K M H (st.set n .dead) ∧ ¬ Lv M (st.set n .dead) a := by
  have hn : n < st.length := (List.getElem?_eq_some_iff.mp hs).1
  have sub : ∀ b, Lv M (st.set n .dead) b → Lv M st b := by
    rintro b ⟨m, x, h1, h2, h3⟩
    by_cases q : n = m
    · subst q; rw [List.getElem?_set_self hn] at h2; cases h2; exact absurd rfl h3
    · rw [List.getElem?_set_ne q] at h2; exact ⟨m, x, h1, h2, h3⟩
  have s : Step (Lv M st) H (Lv M (st.set n .dead)) H := .mk' (fun b u e nl => ⟨e, fun q => nl (sub b q)⟩) fun b e => e
  refine ⟨s, ⟨by rw [List.length_set]; exact sr.len, sr.nd, fun m x b h1 h2 => ?_, sr.tab⟩, ?_⟩
  · by_cases q : n = m
    · subst q
      rw [List.getElem?_set_self hn] at h1
      cases h1
      cases hM.symm.trans h2
      exact (sr.obj n o a hs hM).there
    · rw [List.getElem?_set_ne q] at h1
      exact (sr.obj m x b h1 h2).mono s fun u e => e
  · rintro ⟨m, x, h1, h2, h3⟩
    by_cases q : n = m
    · subst q; rw [List.getElem?_set_self hn] at h2; cases h2; exact h3 rfl
    · exact q (sr.nd n m a hM h1)
/-- a new object of the store, laid at a new address -/
theorem SR.push (sr : SR K M H st) {p : Addr} {o : O} {u : HO} (hp : H p = none) (new : RpU K (Lv M st) H u o) :
    Step (Lv M st) H (Lv (M ++ [p]) (st ++ [o])) (upd H p u) ∧ SR K (M ++ [p]) (upd H p u) (st ++ [o]) := by
  have up : ∀ b, Lv (M ++ [p]) (st ++ [o]) b → b = p ∨ Lv M st b := by
    rintro b ⟨m, x, h1, h2, h3⟩
    by_cases q : m < M.length
    · rw [List.getElem?_append_left q] at h1
      rw [List.getElem?_append_left (by rw [← sr.len]; exact q)] at h2
      exact .inr ⟨m, x, h1, h2, h3⟩
    · rw [List.getElem?_append_right (by omega)] at h1
      cases e : m - M.length with
      | zero => rw [e] at h1; cases h1; exact .inl rfl
      | succ k => rw [e] at h1; cases h1
  have s : Step (Lv M st) H (Lv (M ++ [p]) (st ++ [o])) (upd H p u) := by
    refine .mk' (fun b v e nl => ?_) fun b e => ?_
    · have hb : b ≠ p := fun q => by subst q; rw [hp] at e; cases e
      refine ⟨by rw [upd_ne hb]; exact e, fun q => ?_⟩
      rcases up b q with q | q
      · exact hb q
      · exact nl q
    · by_cases q : b = p
      · subst q; rw [upd_same]; simp
      · rw [upd_ne q]; exact e
  have there : ∀ (i : Nat) (b : Addr), M[i]? = some b → b ≠ p := fun i b h1 q => by
    subst q
    have hi : i < st.length := by rw [← sr.len]; exact (List.getElem?_eq_some_iff.mp h1).1
    exact absurd hp (sr.obj i _ b (List.getElem?_eq_getElem hi) h1).there
  have last : ∀ (m : Nat) (b : Addr), ¬ m < M.length → (M ++ [p])[m]? = some b → m = M.length ∧ b = p := fun m b q h => by
    rw [List.getElem?_append_right (by omega)] at h
    cases e : m - M.length with
    | zero => rw [e] at h; cases h; exact ⟨by omega, rfl⟩
    | succ k => rw [e] at h; cases h
  refine ⟨s, ⟨by simp [sr.len], fun i j b h1 h2 => ?_, fun m x b h1 h2 => ?_, fun P hP => tab_upd (sr.tab P hP) fun ps z => by rw [hp] at z; cases z⟩⟩
  · by_cases qi : i < M.length
    · have h1' := h1
      rw [List.getElem?_append_left qi] at h1'
      by_cases qj : j < M.length
      · rw [List.getElem?_append_left qj] at h2
        exact sr.nd i j b h1' h2
      · exact absurd (last j b qj h2).2 (there i b h1')
    · obtain ⟨ei, eb⟩ := last i b qi h1
      by_cases qj : j < M.length
      · rw [List.getElem?_append_left qj] at h2
        exact absurd eb (there j b h2)
      · rw [ei, (last j b qj h2).1]
  · by_cases q : m < M.length
    · rw [List.getElem?_append_left q] at h2
      rw [List.getElem?_append_left (by rw [← sr.len]; exact q)] at h1
      exact (sr.obj m x b h1 h2).mono s fun v e => by rw [upd_ne (there m b h2)]; exact e
    · obtain ⟨em, rfl⟩ := last m b q h2
      rw [List.getElem?_append_right (by rw [← sr.len]; omega), em, sr.len, Nat.sub_self] at h1
      cases h1
      exact new.at s upd_same
end
end MiS

namespace MiS
open PySem PySem.Spec PyProof.Rows L2 Mi MiG
variable [Tb]
/-! ### dicts that are written -/
section
variable {K : PySem.W.Frag} {L : Addr → Prop} {H : Hp} {κ : Type} [DecidableEq κ] {g : κ → D}
theorem any_key (hg : ∀ a b, deq (g a) (g b) = decide (a = b)) (k : κ) : ∀ {kvs : List (κ × V)} {ds : List (D × D)}, kvs.map (fun p => g p.1) = ds.map (·.1) → (kvs.any fun p => decide (p.1 = k)) = ds.any fun p => deq p.1 (g k)
  | [], [], _ => rfl
  | [], _ :: _, e => by cases e
  | _ :: _, [], e => by cases e
  | (k', v) :: kvs, (d', d) :: ds, e => by
    have e1 : g k' = d' := (List.cons.inj e).1
    subst e1
    rw [List.any_cons, List.any_cons, any_key hg k (List.cons.inj e).2, hg]
theorem put_map (hg : ∀ a b, deq (g a) (g b) = decide (a = b)) (k : κ) {v : V} {d : D} (r : Rp K L H v d) : ∀ {kvs : List (κ × V)} {ds : List (D × D)}, kvs.map (fun p => g p.1) = ds.map (·.1) → RpL K L H (kvs.map (·.2)) (ds.map (·.2)) →
    (kvs.map fun kv => if kv.1 = k then (kv.1, v) else kv).map (fun p => g p.1) = (ds.map fun p => if deq p.1 (g k) = true then (p.1, d) else p).map (·.1) ∧
      RpL K L H ((kvs.map fun kv => if kv.1 = k then (kv.1, v) else kv).map (·.2)) ((ds.map fun p => if deq p.1 (g k) = true then (p.1, d) else p).map (·.2))
  | [], [], _, _ => ⟨rfl, .nil⟩
  | [], _ :: _, e, _ => by cases e
  | _ :: _, [], e, _ => by cases e
  | (k', v') :: kvs, (d', x) :: ds, e, rl => by
    have e1 : g k' = d' := (List.cons.inj e).1
    subst e1
    cases rl with
    | cons r1 r2 =>
      obtain ⟨h1, h2⟩ := put_map hg k r (List.cons.inj e).2 r2
      by_cases hk : k' = k
      · subst hk
        have hd : deq (g k') (g k') = true := by rw [hg]; simp
        simp only [List.map_cons, if_true, hd]
        exact ⟨by rw [h1], .cons r h2⟩
      · have hd : deq (g k') (g k) = false := by rw [hg]; simp [hk]
        simp only [List.map_cons, if_neg hk, hd, Bool.false_eq_true, if_false]
        exact ⟨by rw [h1], .cons r1 h2⟩
theorem put_put (hg : ∀ a b, deq (g a) (g b) = decide (a = b)) (k : κ) {v : V} {d : D} (r : Rp K L H v d) {kvs : List (κ × V)} {ds : List (D × D)} (e : kvs.map (fun p => g p.1) = ds.map (·.1)) (rl : RpL K L H (kvs.map (·.2)) (ds.map (·.2))) :
    (putK kvs k v).map (fun p => g p.1) = (put ds (g k) d).map (·.1) ∧ RpL K L H ((putK kvs k v).map (·.2)) ((put ds (g k) d).map (·.2)) := by
  unfold putK put
  rw [any_key hg k e]
  cases ds.any fun p => deq p.1 (g k) with
  | true => exact put_map hg k r e rl
  | false =>
    simp only [Bool.false_eq_true, if_false, List.map_append, List.map_cons, List.map_nil]
    exact ⟨by rw [e], rl.app (.cons r .nil)⟩
end
section
variable {X : Cx} {pins : List (Addr × Obj)} {σ : L2.St} {H : Hp} {s : Shared} {a : Addr}
/-- an empty dict is one of either kind -/
theorem retypeT (I : Inv X pins σ H s) (e : H a = some (.dK [])) : Inv X pins σ (upd H a (.dT [])) s := by
  obtain ⟨hd, o, es, ep, h1, h2, h3, h4, h5, h6⟩ := emptyK I.hok (.inl e)
  exact d_write (t' := s.toks) I (by rw [e]; exact True.intro) (Heap.SameBut.refl a s.heap) ⟨o, h1⟩ ⟨Nat.zero_le _, hd, [], .nil, o, es, ep, h1, h2, h3, h4, h6⟩
theorem retypeK (I : Inv X pins σ H s) (e : H a = some (.dT [])) : Inv X pins σ (upd H a (.dK [])) s := by
  obtain ⟨hd, dd⟩ := emptyT I.hok (.inl e)
  have ⟨o, es, ep, h1, _⟩ := dd
  exact d_write (t' := s.toks) I (by rw [e]; exact True.intro) (Heap.SameBut.refl a s.heap) ⟨o, h1⟩ ⟨Nat.zero_le _, hd, [], .nil, dd⟩
/-- the heap behind d[y] = z, an empty dict of either kind -/
def DPut' (H : Hp) (a : Addr) (y v : V) (H' : Hp) : Prop :=
  DPut H a y v H' ∨ (∃ (k : List Key) (b : Addr), H a = some (.dK []) ∧ y = .ref b ∧ H b = some (.tup (k.map kV)) ∧ H' = upd H a (.dT (putK [] k v))) ∨ (∃ k : Key, H a = some (.dT []) ∧ y = kV k ∧ H' = upd H a (.dK (putK [] k v)))
theorem d_setItem' {H' : Hp} {y v : V} {u r : Value} {A : Around} {E : Value → Shared → Prop} {Q : Unit → Shared → Prop} (hu : A.units + 1 < cLine) (I : Inv X pins σ H s) (g : DPut' H a y v H') (ry : RelV y u) (rv : RelV v r) (h : ∀ s', Inv X pins σ H' s' → Q () s') :
    wpAny (model X.prog X.w) A (setItem (.ref a) u r) Q E s := by
  rcases g with g | ⟨k, b, e, rfl, eb, rfl⟩ | ⟨k, e, rfl, rfl⟩
  · exact d_setItem hu I g ry rv h
  · have hb : b ≠ a := fun q => by subst q; rw [e] at eb; cases eb
    refine d_setItem hu (retypeT I e) (.inr ⟨[], k, b, upd_same, rfl, by rw [upd_ne hb]; exact eb, by decide, ?_⟩) ry rv h
    rw [upd_upd]
  · refine d_setItem hu (retypeK I e) (.inl ⟨[], k, upd_same, rfl, by decide, ?_⟩) ry rv h
    rw [upd_upd]
/-- setdefault with a tuple as key -/
theorem d_setdT {kvs : List (List Key × V)} {k : List Key} {b : Addr} {d : V} {r : Value} {A : Around} {E : Value → Shared → Prop} {Q : Value → Shared → Prop} (hu : A.units + 2 < cLine) (I : Inv X pins σ H s) (e : H a = some (.dT kvs)) (eb : H b = some (.tup (k.map kV))) (rd : RelV d r) (hl : kvs.length < sizeLine)
    (h1 : ∀ v, valV kvs k = some v → ∀ (w' : Value) (s' : Shared), Inv X pins σ H s' → RelV v w' → Q w' s') (h2 : valV kvs k = none → ∀ (w' : Value) (s' : Shared), Inv X pins σ (upd H a (.dT (putK kvs k d))) s' → RelV d w' → Q w' s') :
    wpAny (model X.prog X.w) A (call (.builtin "dict.setdefault") [.ref a, .ref b, r]) Q E s := by
  obtain ⟨z, hd, xs, rel, dd⟩ := dt_of I.hok e
  have hz : xs.length ≤ sizeLine := by rw [← Paired.length rel]; exact z
  refine call_setdefault_heap (hsz := hz) (tupleKind_room_in1 (by omega)) (key_of I.hok eb) hd dd (fun p hp => ?_) fun hn h' dd' hs => ?_
  · have q := rel.val k
    rw [hp] at q
    cases q0 : valV kvs k with
    | none => rw [q0] at q; exact (show False from q).elim
    | some v0 => rw [q0] at q; exact h1 v0 q0 _ _ (I.tok _) q
  · have q := rel.val k
    rw [hn] at q
    cases q0 : valV kvs k with
    | some v0 => rw [q0] at q; exact (show False from q).elim
    | none =>
      have hl2 : (putK kvs k d).length ≤ sizeLine := by have := length_putK kvs k d; omega
      obtain ⟨o, es, ep, hq, g2, g3, g4, _, g5⟩ := dd'
      refine h2 q0 _ _ (d_write I (by rw [e]; exact True.intro) hs ⟨o, hq⟩ ⟨hl2, hd, _, (rel.put k eb rd).keeps fun c ys ec => ?_, o, es, ep, hq, g2, g3, g4, g5⟩) rd
      rw [upd_ne (ne_of ec e (fun z => nomatch z))]
      exact ec
/-- setdefault -/
def rSetd (x : V) (xs : List V) (H : Hp) (Q : VK) : Prop := ∃ a y z, x = V.ref a ∧ xs = [y, z] ∧
  ((∃ (kvs : List (Key × V)) (k : Key), H a = some (.dK kvs) ∧ y = kV k ∧ kvs.length < sizeLine ∧ (∀ v, valV kvs k = some v → Q v H) ∧ (valV kvs k = none → Q z (upd H a (.dK (putK kvs k z))))) ∨
    (∃ (kvs : List (List Key × V)) (k : List Key) (b : Addr), H a = some (.dT kvs) ∧ y = .ref b ∧ H b = some (.tup (k.map kV)) ∧ kvs.length < sizeLine ∧ (∀ v, valV kvs k = some v → Q v H) ∧ (valV kvs k = none → Q z (upd H a (.dT (putK kvs k z))))) ∨
    (∃ (k : List Key) (b : Addr), H a = some (.dK []) ∧ y = .ref b ∧ H b = some (.tup (k.map kV)) ∧ Q z (upd H a (.dT (putK [] k z)))) ∨
    (∃ (k : Key), H a = some (.dT []) ∧ y = kV k ∧ Q z (upd H a (.dK (putK [] k z)))))
theorem mt_setd (hu : X.A.units + 100 < cLine) : MtR X "dict.setdefault" rSetd := by
  intro pins s σ H x xs v us Q I rx rxs h
  obtain ⟨a, y, z, rfl, rfl, h⟩ := h
  cases (show v = Value.ref a from rx)
  obtain ⟨u, r, rfl, ry, rz⟩ := vals2 rxs
  rcases h with ⟨kvs, k, e, rfl, hl, q1, q2⟩ | ⟨kvs, k, b, e, rfl, eb, hl, q1, q2⟩ | ⟨k, b, e, rfl, eb, q⟩ | ⟨k, e, rfl, q⟩
  · exact d_setd I e ry rz hl (fun v hv w' s' I' r' => ⟨v, H, I', r', q1 v hv⟩) fun hn w' s' I' r' => ⟨z, _, I', r', q2 hn⟩
  · cases (show u = Value.ref b from ry)
    exact d_setdT (by omega) I e eb rz hl (fun v hv w' s' I' r' => ⟨v, H, I', r', q1 v hv⟩) fun hn w' s' I' r' => ⟨z, _, I', r', q2 hn⟩
  · cases (show u = Value.ref b from ry)
    have hb : b ≠ a := fun q => by subst q; rw [e] at eb; cases eb
    refine d_setdT (by omega) (retypeT I e) upd_same (by rw [upd_ne hb]; exact eb) rz (by decide) (fun v hv => ?_) fun hn w' s' I' r' => ?_
    · cases hv
    · rw [upd_upd] at I'
      exact ⟨z, _, I', r', q⟩
  · refine d_setd (retypeK I e) upd_same ry rz (by decide) (fun v hv => ?_) fun hn w' s' I' r' => ?_
    · cases hv
    · rw [upd_upd] at I'
      exact ⟨z, _, I', r', q⟩
end
end MiS

namespace MiS
open PySem PySem.Spec PyProof.Rows L2 Mi MiG
variable [Tb]
/-! ### the text's small conditions -/
def nostar : Expr → Bool
  | .Starred .. => false
  | _ => true
theorem star_cons {e : Expr} {es : List Expr} {env : Env} (h : nostar e = true) : starEach (e :: es) env = (false, eval e env) :: starEach es env := by
  cases e <;> first
    | rfl
    | cases h
theorem stars_all {env : Env} {pos : Pos} : ∀ {es : List Expr}, es.all nostar = true → (backTo pos (starEach es env)).all (fun x => !x.1) = true
  | [], _ => rfl
  | e :: es, h => by
    have h1 := Bool.and_eq_true_iff.mp h
    rw [star_cons h1.1]
    show (!false && _) = true
    exact stars_all h1.2
theorem stars_off {env : Env} {pos : Pos} {es : List Expr} (h : es.all nostar = true) : (backTo pos (starEach es env)).any (·.1) = false := by
  have h2 := stars_all (env := env) (pos := pos) h
  rw [List.any_eq_false]
  intro x hx
  have := List.all_eq_true.mp h2 x hx
  simpa using this
def notCall0 : Expr → Bool
  | .Call (.Name _ _) [] [] _ => false
  | _ => true
theorem base_of {o : Expr} {name : Str} {env : Env} {whole : Sem Value} (h : notCall0 o = true) : attributeBase o name env whole = whole := by
  unfold attributeBase
  split
  · cases h
  · rfl
def okM (o : Expr) (es : List Expr) (apos cpos : Pos) : Bool := notCall0 o && (es.all nostar && (decide (es.length < 30) && (apos.endLine == cpos.line)))
theorem okM_few {o : Expr} {es : List Expr} {apos cpos : Pos} {env : Env} (h : okM o es apos cpos = true) :
    ((backTo cpos (starEach es env)).all (fun x => !x.1) && (backToKw cpos (keywordEach [] env)).all (fun x => x.1.isSome) && decide (es.length + ([] : List Keyword).length + (if ([] : List Keyword).isEmpty then 0 else 1) < 30)) = true := by
  have h1 := Bool.and_eq_true_iff.mp h
  have h2 := Bool.and_eq_true_iff.mp h1.2
  have h3 := Bool.and_eq_true_iff.mp h2.2
  rw [stars_all h2.1]
  have := of_decide_eq_true h3.1
  show (true && true && decide (es.length + 0 + 0 < 30)) = true
  simp
  exact this
section
variable {X : Cx} {C : Cn} {W : Wish} {K : PySem.W.Frag}
/-! ### methods -/
/-- what a method's rule must give -/
def MthEnd (K : PySem.W.Frag) (W : Wish) (m : Me) (r : V → List V → Hp → VK → Prop) : Prop :=
  ∀ (M : List Addr) (H : Hp) (st : Sto) (v : V) (x : RV) (vs : List V) (ds : List D) (Q : VK), SR K M H st → RVp K M (Lv M st) H v x → RpL K (Lv M st) H vs ds → mthAt m st x = true → PR K M H st (mthR m x ds st) W (QV K Q) → r v vs H Q
def MthTy (K : PySem.W.Frag) (m : Me) (T : String) : Prop := ∀ (M : List Addr) (H : Hp) (st : Sto) (v : V) (x : RV), SR K M H st → RVp K M (Lv M st) H v x → mthAt m st x = true → tyV K T v H
theorem co_mth {m : Me} {T : String} {r : V → List V → Hp → VK → Prop} {o es : Mi.T} (ty : MthTy K m T) (fin : MthEnd K W m r) {σ : L2.St} {H : Hp} {Q : VK} (h : tE K C W (.mth m o es) σ H Q) : tBM K T r (tE K C W o) (tEs K C W es) σ H Q := by
  obtain ⟨M, env, st, er, sr, h⟩ := h
  rw [ev] at h
  refine ⟨M, env, st, er, sr, (PR.bind h).imp fun x M1 st1 H1 p1 sr1 s1 h v1 r1 => ?_⟩
  cases e0 : mthAt m st1 x with
  | false => simp only [e0] at h; exact h.elim
  | true =>
    simp only [e0, if_true] at h
    refine ⟨ty M1 H1 st1 v1 x sr1 r1 e0, M1, env, st1, er.mono p1 s1, sr1, (PR.bind h).imp fun rs M2 st2 H2 p2 sr2 s2 h vs r2 => ?_⟩
    cases e1 : pures rs with
    | none => simp only [e1] at h; exact h.elim
    | some ds =>
      simp only [e1] at h
      cases e9 : mthAt m st2 x with
      | false => simp only [e9] at h; exact h.elim
      | true =>
        simp only [e9, if_true] at h
        exact fin M2 H2 st2 v1 x vs ds Q sr2 (r1.mono p2 s2) (pures_rp r2 e1) e9 h
theorem se_mth {m : Me} {T id : String} {name : Str} {r : V → List V → Hp → VK → Prop} {o e : Expr} {es : List Expr} {to tes : Mi.T} {apos cpos : Pos} (pa : PlainAttrs T) (slot : Slot T name id) (hty : typeOf (.builtin id) = pure (.type "method_descriptor")) (hm : MtR X id r)
    (ty : MthTy X.K m T) (fin : MthEnd X.K W m r) (ho : PE X o (tE X.K C W to)) (ha : PA X (e :: es) (tEs X.K C W tes)) (ok : okM o (e :: es) apos cpos = true) : PE X (.Call (.Attribute o name apos) (e :: es) [] cpos) (tE X.K C W (.mth m to tes)) := by
  have h1 := Bool.and_eq_true_iff.mp ok
  have h2 := Bool.and_eq_true_iff.mp h1.2
  have h3 := Bool.and_eq_true_iff.mp h2.2
  have h4 := Bool.and_eq_true_iff.mp h2.1
  exact cvX (pe_bm pa slot hty hm ho ha (base_of h1.1) (okM_few ok) h3.2 (star_cons h4.1) (stars_off h4.2)) (co_mth ty fin)
theorem se_mth0 {m : Me} {T id : String} {name : Str} {r : V → List V → Hp → VK → Prop} {o : Expr} {to : Mi.T} {apos cpos : Pos} (pa : PlainAttrs T) (slot : Slot T name id) (hty : typeOf (.builtin id) = pure (.type "method_descriptor")) (hm : MtR X id r)
    (ty : MthTy X.K m T) (fin : MthEnd X.K W m r) (ho : PE X o (tE X.K C W to)) (ok : okM o [] apos cpos = true) : PE X (.Call (.Attribute o name apos) [] [] cpos) (tE X.K C W (.mth m to .nil)) := by
  have h1 := Bool.and_eq_true_iff.mp ok
  have h2 := Bool.and_eq_true_iff.mp h1.2
  have h3 := Bool.and_eq_true_iff.mp h2.2
  refine cvX (pe_bm0 pa slot hty hm ho (base_of h1.1) h3.2) fun {σ H Q} h => ?_
  obtain ⟨M, env, st, er, sr, h⟩ := h
  rw [ev] at h
  refine ⟨M, env, st, er, sr, (PR.bind h).imp fun x M1 st1 H1 p1 sr1 s1 h v1 r1 => ?_⟩
  cases e0 : mthAt m st1 x with
  | false => simp only [e0] at h; exact h.elim
  | true =>
    simp only [e0, if_true] at h
    rw [evs] at h
    have h' : PR X.K M1 H1 st1 (if mthAt m st1 x = true then mthR m x [] st1 else R.bad) W (QV X.K Q) := h
    rw [if_pos e0] at h'
    exact ⟨ty M1 H1 st1 v1 x sr1 r1 e0, fin M1 H1 st1 v1 x [] [] Q sr1 r1 .nil e0 h'⟩
/-! the objects' types -/
theorem ty_list {m : Me} (hm : m = .append ∨ m = .pop ∨ m = .popAt) : MthTy K m "list" := by
  intro M H st v x sr rv h
  cases e : content st x with
  | none => rcases hm with rfl | rfl | rfl <;> (simp [mthAt, isTi, e] at h)
  | some d =>
    cases d with
    | list ds =>
      obtain ⟨a, xs, rfl, ra, pa⟩ := (content_cp sr rv e).list
      exact .inl ⟨rfl, xs, .inl ra⟩
    | _ => rcases hm with rfl | rfl | rfl <;> (simp [mthAt, isTi, e] at h)
theorem wr_end {M : List Addr} {H : Hp} {st : Sto} {n : Nat} {o o' : O} {a : Addr} {u : HO} {d : D} {v : V} {Q : VK} (sr : SR K M H st) (hM : M[n]? = some a) (hs : st[n]? = some o) (hd : o ≠ .dead) (new : RpU K (Lv M st) H u o') (rv : Rp K (Lv M st) H v d)
    (h : PR K M H st (.ok (.val d) (st.set n o')) W (QV K Q)) : Q v (upd H a u) := by
  obtain ⟨s, sr'⟩ := sr.write hM hs hd new
  exact h M _ (List.prefix_refl _) sr' s v (rv.mono s)
theorem end_append : MthEnd K W .append rAppend := by
  intro M H st v x vs ds Q sr rv rl at_ h
  cases x with
  | val d => exact h.elim
  | ref n =>
    obtain ⟨a, rfl, hM⟩ := rv
    cases e : st[n]? with
    | none => simp only [mthR, changes, isTi, if_true, e] at h; exact h.elim
    | some o =>
      simp only [mthR, changes, isTi, if_true, e] at h
      cases e2 : mth1 .append o ds with
      | none => simp only [e2] at h; exact h.elim
      | some q =>
        obtain ⟨d, o'⟩ := q
        simp only [e2] at h
        cases o with
        | lst xs =>
          match ds, rl, e2 with
          | [x], rl, e2 =>
            simp only [mth1] at e2
            split at e2
            · cases e2
              rename_i hz
              cases rl with
              | cons r1 r2 =>
                cases r2
                obtain ⟨ys, ha, ry⟩ := sr.obj n _ a e hM
                have := sizeOk_ok hz
                refine ⟨a, ys, _, rfl, rfl, ha, by rw [ry.len]; omega, ?_⟩
                exact wr_end (o' := .lst (xs ++ [x])) sr hM e (by simp) ⟨_, rfl, ry.app (.cons r1 .nil)⟩ .non h
            · cases e2
          | [], _, e2 => cases e2
          | _ :: _ :: _, _, e2 => cases e2
        | dic _ => simp [mth1] at e2
        | tpl _ => simp [mth1] at e2
        | dead => simp [mth1] at e2
theorem RpL.dropLast {L : Addr → Prop} {H : Hp} : ∀ {vs : List V} {ds : List D}, RpL K L H vs ds → RpL K L H vs.dropLast ds.dropLast
  | _, _, .nil => .nil
  | _, _, .cons a .nil => .nil
  | _, _, .cons a (.cons b c) => .cons a (RpL.dropLast (.cons b c))
theorem RpL.erase {L : Addr → Prop} {H : Hp} : ∀ {vs : List V} {ds : List D} (i : Nat), RpL K L H vs ds → RpL K L H (vs.eraseIdx i) (ds.eraseIdx i)
  | _, _, _, .nil => .nil
  | _, _, 0, .cons a b => b
  | _, _, i + 1, .cons a b => .cons a (RpL.erase i b)
theorem end_pop : MthEnd K W .pop rPop := by
  intro M H st v x vs ds Q sr rv rl at_ h
  cases x with
  | val d => exact h.elim
  | ref n =>
    obtain ⟨a, rfl, hM⟩ := rv
    cases e : st[n]? with
    | none => simp only [mthR, changes, isTi, if_true, e] at h; exact h.elim
    | some o =>
      simp only [mthR, changes, isTi, if_true, e] at h
      cases e2 : mth1 .pop o ds with
      | none => simp only [e2] at h; exact h.elim
      | some q =>
        obtain ⟨d, o'⟩ := q
        simp only [e2] at h
        cases o with
        | lst xs =>
          match ds, rl, e2 with
          | [], rl, e2 =>
            cases rl
            cases e3 : xs.getLast? with
            | none => simp only [mth1, e3] at e2; cases e2
            | some x =>
              simp only [mth1, e3] at e2
              cases e2
              obtain ⟨ys, ha, ry⟩ := sr.obj n _ a e hM
              have hg : xs[xs.length - 1]? = some d := by rw [← List.getLast?_eq_getElem?]; exact e3
              obtain ⟨y, hy, r⟩ := ry.get hg
              refine ⟨a, ys, y, rfl, rfl, ha, by rw [ry.len]; exact hy, ?_⟩
              exact wr_end (o' := .lst xs.dropLast) sr hM e (by simp) ⟨_, rfl, ry.dropLast⟩ r h
          | _ :: _, _, e2 => simp [mth1] at e2
        | dic _ => simp [mth1] at e2
        | tpl _ => simp [mth1] at e2
        | dead => simp [mth1] at e2
theorem end_popAt : MthEnd K W .popAt rPopAt := by
  intro M H st v x vs ds Q sr rv rl at_ h
  cases x with
  | val d => exact h.elim
  | ref n =>
    obtain ⟨a, rfl, hM⟩ := rv
    cases e : st[n]? with
    | none => simp only [mthR, changes, isTi, if_true, e] at h; exact h.elim
    | some o =>
      simp only [mthR, changes, isTi, if_true, e] at h
      cases e2 : mth1 .popAt o ds with
      | none => simp only [e2] at h; exact h.elim
      | some q =>
        obtain ⟨d, o'⟩ := q
        simp only [e2] at h
        cases o with
        | lst xs =>
          match ds, rl, e2 with
          | [.int i], rl, e2 =>
            cases rl with
            | cons r1 r2 =>
              cases r2; cases r1
              cases e5 : inside i with
              | false => simp only [mth1, e5] at e2; cases e2
              | true =>
                cases e3 : ixOf xs.length i with
                | none => simp only [mth1, e5, e3] at e2; cases e2
                | some j =>
                  cases e4 : xs[j]? with
                  | none => simp only [mth1, e5, e3, e4] at e2; cases e2
                  | some z =>
                    simp only [mth1, e5, e3, e4, if_true] at e2
                    cases e2
                    obtain ⟨ys, ha, ry⟩ := sr.obj n _ a e hM
                    obtain ⟨y, hy, r⟩ := ry.get e4
                    obtain ⟨h1, h2, h3, h4⟩ := ixN_seq e3
                    have hi := Bool.and_eq_true_iff.mp e5
                    have i1 := of_decide_eq_true hi.1
                    have i2 := of_decide_eq_true hi.2
                    refine ⟨a, ys, i, j, y, rfl, rfl, ha, by omega, by omega, by rw [ry.len]; exact h1, hy, ?_⟩
                    exact wr_end (o' := .lst (xs.eraseIdx j)) sr hM e (by simp) ⟨_, rfl, ry.erase j⟩ r h
          | [], _, e2 => simp [mth1] at e2
          | _ :: _ :: _, _, e2 => simp [mth1] at e2
        | dic _ => simp [mth1] at e2
        | tpl _ => simp [mth1] at e2
        | dead => simp [mth1] at e2
section
variable {o e : Expr} {to te : Mi.T} {apos cpos : Pos}
theorem se_append (ho : PE X o (tE X.K C W to)) (ha : PA X [e] (tEs X.K C W te)) (ok : okM o [e] apos cpos = true) : PE X (.Call (.Attribute o "append" apos) [e] [] cpos) (tE X.K C W (.mth .append to te)) :=
  se_mth F.plainAttrs_list F.slot_list_append F.type_list_append mt_append (ty_list (.inl rfl)) end_append ho ha ok
theorem se_pop (ho : PE X o (tE X.K C W to)) (ok : okM o [] apos cpos = true) : PE X (.Call (.Attribute o "pop" apos) [] [] cpos) (tE X.K C W (.mth .pop to .nil)) :=
  se_mth0 F.plainAttrs_list F.slot_list_pop F.type_list_pop mt_pop (ty_list (.inr (.inl rfl))) end_pop ho ok
theorem se_popAt (ho : PE X o (tE X.K C W to)) (ha : PA X [e] (tEs X.K C W te)) (ok : okM o [e] apos cpos = true) : PE X (.Call (.Attribute o "pop" apos) [e] [] cpos) (tE X.K C W (.mth .popAt to te)) :=
  se_mth F.plainAttrs_list F.slot_list_pop F.type_list_pop mt_popAt (ty_list (.inr (.inr rfl))) end_popAt ho ha ok
end
end
end MiS

namespace MiS
open PySem PySem.Spec PyProof.Rows L2 Mi MiG
variable [Tb]
section
variable {X : Cx} {C : Cn} {W : Wish} {K : PySem.W.Frag}
theorem ty_dict {M : List Addr} {H : Hp} {st : Sto} {v : V} {n : Nat} {kvs : List (D × D)} (sr : SR K M H st) (rv : RVp K M (Lv M st) H v (.ref n)) (e : content st (.ref n) = some (.dict kvs)) : tyV K "dict" v H := by
  obtain ⟨a, rfl, hM⟩ := rv
  cases q : st[n]? with
  | none => simp only [content, q] at e; cases e
  | some o =>
    simp only [content, q] at e
    have ob := sr.obj n o a q hM
    cases o with
    | dic ds => 
      refine .inr (.inr (.inl ⟨rfl, ?_⟩))
      rcases ob with ⟨ks, e1, _⟩ | ⟨ks, e1, _⟩
      · exact .inl ⟨ks, e1⟩
      · exact .inr ⟨ks, e1⟩
    | lst _ => cases e
    | tpl _ => cases e
    | dead => cases e
theorem ty_setd : MthTy K .setdefault "dict" := by
  intro M H st v x sr rv h
  cases x with
  | val d => cases d <;> cases h
  | ref n =>
    cases e : content st (.ref n) with
    | none => simp [mthAt, isTi, e] at h
    | some d =>
      cases d with
      | dict kvs => exact ty_dict sr rv e
      | _ => simp [mthAt, isTi, e] at h
theorem keys_nil {κ : Type} {g : κ → D} {kvs : List (κ × V)} (e : kvs.map (fun p => g p.1) = ([] : List (D × D)).map (·.1)) : kvs = [] := by
  cases kvs with
  | nil => rfl
  | cons _ _ => cases e
theorem put_nilK {L : Addr → Prop} {H : Hp} (k : Key) {v : V} {d : D} (r : Rp K L H v d) : RpU K L H (.dK (putK [] k v)) (.dic (put [] (kD k) d)) := by
  obtain ⟨h1, h2⟩ := put_put (g := kD) deq_kD k r (kvs := []) (ds := []) rfl .nil
  exact .inl ⟨_, rfl, h1, h2⟩
theorem put_nilT {L : Addr → Prop} {H : Hp} (k : List Key) {v : V} {d : D} (r : Rp K L H v d) : RpU K L H (.dT (putK [] k v)) (.dic (put [] (kDs k) d)) := by
  obtain ⟨h1, h2⟩ := put_put (g := kDs) deq_kDs k r (kvs := []) (ds := []) rfl .nil
  exact .inr ⟨_, rfl, h1, h2⟩
/-- a dict of the store, a key that fits it: what stands there, and what it becomes -/
theorem dic_key {M : List Addr} {H : Hp} {st : Sto} {a : Addr} {kvs : List (D × D)} {y : V} {k : D} (ob : RpO K (Lv M st) H a (.dic kvs)) (ry : Rp K (Lv M st) H y k) (hk : keyOk kvs k = true) :
    (∃ (vs : List (Key × V)) (q : Key), H a = some (.dK vs) ∧ y = kV q ∧ k = kD q ∧ vs.map (fun p => kD p.1) = kvs.map (·.1) ∧ RpL K (Lv M st) H (vs.map (·.2)) (kvs.map (·.2))) ∨
    (∃ (vs : List (List Key × V)) (q : List Key) (b : Addr), H a = some (.dT vs) ∧ y = .ref b ∧ H b = some (.tup (q.map kV)) ∧ k = kDs q ∧ vs.map (fun p => kDs p.1) = kvs.map (·.1) ∧ RpL K (Lv M st) H (vs.map (·.2)) (kvs.map (·.2))) ∨
    (∃ (q : List Key) (b : Addr), H a = some (.dK []) ∧ kvs = [] ∧ y = .ref b ∧ H b = some (.tup (q.map kV)) ∧ k = kDs q) ∨
    (∃ (q : Key), H a = some (.dT []) ∧ kvs = [] ∧ y = kV q ∧ k = kD q) := by
  rcases Bool.or_eq_true_iff.mp hk with h | h
  · have h1 := Bool.and_eq_true_iff.mp h
    obtain ⟨q, rfl, rfl⟩ := keyA_of ry h1.1
    rcases ob with ⟨vs, e, ek, rv⟩ | ⟨vs, e, ek, rv⟩
    · exact .inl ⟨vs, q, e, rfl, rfl, ek, rv⟩
    · cases vs with
      | nil =>
        have : kvs = [] := by cases kvs with | nil => rfl | cons _ _ => cases ek
        exact .inr (.inr (.inr ⟨q, e, this, rfl, rfl⟩))
      | cons p vs =>
        cases kvs with
        | nil => cases ek
        | cons x ds =>
          exfalso
          have e1 : kDs p.1 = x.1 := (List.cons.inj ek).1
          have h2 : keyA x.1 = true := (Bool.and_eq_true_iff.mp h1.2).1
          rw [← e1] at h2
          cases h2
  · have h1 := Bool.and_eq_true_iff.mp h
    obtain ⟨q, b, rfl, eb, rfl⟩ := keyT_of ry h1.1
    rcases ob with ⟨vs, e, ek, rv⟩ | ⟨vs, e, ek, rv⟩
    · cases vs with
      | nil =>
        have : kvs = [] := by cases kvs with | nil => rfl | cons _ _ => cases ek
        exact .inr (.inr (.inl ⟨q, b, e, this, rfl, eb, rfl⟩))
      | cons p vs =>
        cases kvs with
        | nil => cases ek
        | cons x ds =>
          exfalso
          have e1 : kD p.1 = x.1 := (List.cons.inj ek).1
          have h2 : keyT x.1 = true := (Bool.and_eq_true_iff.mp h1.2).1
          rw [← e1, kD_notT] at h2
          cases h2
    · exact .inr (.inl ⟨vs, q, b, e, rfl, eb, rfl, ek, rv⟩)
theorem map_len {κ : Type} {g : κ → D} {vs : List (κ × V)} {kvs : List (D × D)} (e : vs.map (fun p => g p.1) = kvs.map (·.1)) : vs.length = kvs.length := by
  have := congrArg List.length e
  rwa [List.length_map, List.length_map] at this
theorem set_same {α : Type} {l : List α} {n : Nat} {x : α} (h : l[n]? = some x) : l.set n x = l := by
  obtain ⟨hn, e⟩ := List.getElem?_eq_some_iff.mp h
  rw [← e]
  exact List.set_getElem_self hn
theorem end_setd : MthEnd K W .setdefault rSetd := by
  intro M H st v x vs ds Q sr rv rl at_ h
  cases x with
  | val d => exact h.elim
  | ref n =>
    obtain ⟨a, rfl, hM⟩ := rv
    cases e : st[n]? with
    | none => simp only [mthR, changes, isTi, if_true, e] at h; exact h.elim
    | some o =>
      simp only [mthR, changes, isTi, if_true, e] at h
      cases e2 : mth1 .setdefault o ds with
      | none => simp only [e2] at h; exact h.elim
      | some q =>
        obtain ⟨d, o'⟩ := q
        simp only [e2] at h
        cases o with
        | dic kvs =>
          match ds, rl, e2 with
          | [k, x], rl, e2 =>
            cases rl with
            | cons r1 rl =>
              cases rl with
              | cons r2 rl =>
                cases rl
                rename_i y z
                cases e3 : keyOk kvs k && sizeOk (kvs.length + 1) with
                | false => simp only [mth1, e3] at e2; cases e2
                | true =>
                  simp only [mth1, e3, if_true] at e2
                  have h3 := Bool.and_eq_true_iff.mp e3
                  have hsz := sizeOk_ok h3.2
                  have ob := sr.obj n _ a e hM
                  refine ⟨a, y, z, rfl, rfl, ?_⟩
                  rcases dic_key ob r1 h3.1 with ⟨vs, q, ha, rfl, rfl, ek, rv⟩ | ⟨vs, q, b, ha, rfl, eb, rfl, ek, rv⟩ | ⟨q, b, ha, rfl, rfl, eb, rfl⟩ | ⟨q, ha, rfl, rfl, rfl⟩
                  · refine .inl ⟨vs, q, ha, rfl, by rw [map_len ek]; omega, fun v hv => ?_, fun hn => ?_⟩
                    · rcases look_val deq_kD q ek rv with ⟨v', d', l1, l2, l3⟩ | ⟨l1, l2⟩
                      · rw [l1] at hv
                        cases hv
                        rw [l2] at e2
                        cases e2
                        have hst : st.set n (.dic kvs) = st := set_same e
                        rw [hst] at h
                        exact PR.here sr h v l3
                      · rw [l1] at hv; cases hv
                    · rcases look_val deq_kD q ek rv with ⟨v', d', l1, l2, l3⟩ | ⟨l1, l2⟩
                      · rw [l1] at hn; cases hn
                      · rw [l2] at e2
                        cases e2
                        obtain ⟨g1, g2⟩ := put_put (g := kD) deq_kD q r2 ek rv
                        exact wr_end (o' := .dic (put kvs (kD q) d)) sr hM e (by simp) (.inl ⟨_, rfl, g1, g2⟩) r2 h
                  · refine .inr (.inl ⟨vs, q, b, ha, rfl, eb, by rw [map_len ek]; omega, fun v hv => ?_, fun hn => ?_⟩)
                    · rcases look_val deq_kDs q ek rv with ⟨v', d', l1, l2, l3⟩ | ⟨l1, l2⟩
                      · rw [l1] at hv
                        cases hv
                        rw [l2] at e2
                        cases e2
                        have hst : st.set n (.dic kvs) = st := set_same e
                        rw [hst] at h
                        exact PR.here sr h v l3
                      · rw [l1] at hv; cases hv
                    · rcases look_val deq_kDs q ek rv with ⟨v', d', l1, l2, l3⟩ | ⟨l1, l2⟩
                      · rw [l1] at hn; cases hn
                      · rw [l2] at e2
                        cases e2
                        obtain ⟨g1, g2⟩ := put_put (g := kDs) deq_kDs q r2 ek rv
                        exact wr_end (o' := .dic (put kvs (kDs q) d)) sr hM e (by simp) (.inr ⟨_, rfl, g1, g2⟩) r2 h
                  · cases e2
                    exact .inr (.inr (.inl ⟨q, b, ha, rfl, eb, wr_end sr hM e (by simp) (put_nilT q r2) r2 h⟩))
                  · cases e2
                    exact .inr (.inr (.inr ⟨q, ha, rfl, wr_end sr hM e (by simp) (put_nilK q r2) r2 h⟩))
          | [], _, e2 => simp [mth1] at e2
          | [_], _, e2 => simp [mth1] at e2
          | _ :: _ :: _ :: _, _, e2 => simp [mth1] at e2
        | lst _ => simp [mth1] at e2
        | tpl _ => simp [mth1] at e2
        | dead => simp [mth1] at e2
/-! index in a list -/
theorem at_index {M : List Addr} {H : Hp} {st : Sto} {x : RV} (h : mthAt .index st x = true) : ∃ xs, content st x = some (.list xs) := by
  cases e : content st x with
  | none => simp [mthAt, isTi, e] at h
  | some d =>
    cases d with
    | list xs => exact ⟨xs, rfl⟩
    | _ => simp [mthAt, isTi, e] at h
theorem ty_index : MthTy K .index "list" := by
  intro M H st v x sr rv h
  obtain ⟨xs, e⟩ := at_index (M := M) (H := H) h
  obtain ⟨a, ys, rfl, ra, pa⟩ := (content_cp sr rv e).list
  exact .inl ⟨rfl, ys, .inl ra⟩
theorem place_has {x : D} : ∀ {ys : List D} {n m : Nat}, place x ys n = some m → n ≤ m ∧ (∃ z, ys[m - n]? = some z ∧ deq z x = true) ∧ ∀ (i : Nat) (z' : D), i < m - n → ys[i]? = some z' → deq z' x = false
  | [], _, _, h => by cases h
  | y :: r, n, m, h => by
    cases hy : deq y x with
    | true =>
      have : some n = some m := by rw [← h]; simp [place, hy]
      cases this
      exact ⟨Nat.le_refl _, ⟨y, by rw [Nat.sub_self]; rfl, hy⟩, fun i z' hi => by omega⟩
    | false =>
      have h' : place x r (n + 1) = some m := by rw [← h]; simp [place, hy]
      obtain ⟨h1, ⟨z, h2, h3⟩, h4⟩ := place_has h'
      refine ⟨by omega, ⟨z, ?_, h3⟩, fun i z' hi e => ?_⟩
      · rw [show m - n = (m - (n + 1)) + 1 by omega]; exact h2
      · cases i with
        | zero => cases e; exact hy
        | succ i => exact h4 i z' (by omega) e
theorem end_index : MthEnd K W .index (rIndexD K) := by
  intro M H st v x vs ds Q sr rv rl at_ h
  obtain ⟨xs, e⟩ := at_index (M := M) (H := H) at_
  simp only [mthR, changes, isTi, Bool.false_eq_true, if_false, e] at h
  match ds, rl, h with
  | [y], rl, h =>
    cases rl with
    | cons r1 rl =>
      cases rl
      obtain ⟨a, zs, rfl, ra, pa⟩ := (content_cp sr rv e).list
      cases e3 : eqOks y xs with
      | false => simp only [mth0, e3] at h; exact h.elim
      | true =>
        simp only [mth0, e3, if_true] at h
        cases e4 : place y xs 0 with
        | none => simp only [e4] at h; exact h.elim
        | some j =>
          simp only [e4, Option.map_some] at h
          obtain ⟨_, ⟨z, h2, h3⟩, h4⟩ := place_has e4
          have h1 := Bool.and_eq_true_iff.mp e3
          have g1 := Bool.and_eq_true_iff.mp h1.1
          have g2 := Bool.and_eq_true_iff.mp h1.2
          have d1 := of_decide_eq_true g1.2
          have d2 := of_decide_eq_true g2.2
          have s1 : SeqAt.shaped y = true := by
            unfold SeqAt.shaped
            rw [g1.1, decide_eq_true (by omega)]; rfl
          have s2 : SeqAt.shaped (.list xs) = true := by
            have ed : PyData.depth (.list xs) = PyData.depthAll xs + 1 := by simp [PyData.depth]
            unfold SeqAt.shaped
            rw [show PyData.canLay0 (.list xs) = true from g2.1, decide_eq_true (by omega)]; rfl
          refine ⟨a, _, y, xs, j, z, rfl, rfl, .lst (.inl ra) (pa.dp g2.1), r1.dp g1.1, s2, s1, h2, by rw [← deq_eqv]; exact h3, fun m z' hm ez => by rw [← deq_eqv]; exact h4 m z' (by omega) ez, ?_⟩
          exact (Wants.of h).int sr
  | [], _, h => exact h.elim
  | _ :: _ :: _, _, h => exact h.elim
section
variable {o e f : Expr} {to te tf : Mi.T} {apos cpos : Pos}
theorem se_setd (hu : X.A.units + 100 < cLine) (ho : PE X o (tE X.K C W to)) (ha : PA X [e, f] (tEs X.K C W te)) (ok : okM o [e, f] apos cpos = true) : PE X (.Call (.Attribute o "setdefault" apos) [e, f] [] cpos) (tE X.K C W (.mth .setdefault to te)) :=
  se_mth F.plainAttrs_dict F.slot_dict_setdefault F.type_dict_setdefault (mt_setd hu) ty_setd end_setd ho ha ok
theorem se_index (hu : X.A.units + 100 < cLine) (ho : PE X o (tE X.K C W to)) (ha : PA X [e] (tEs X.K C W te)) (ok : okM o [e] apos cpos = true) : PE X (.Call (.Attribute o "index" apos) [e] [] cpos) (tE X.K C W (.mth .index to te)) := by
  exact se_mth F.plainAttrs_list F.slot_list_index F.type_list_index (mt_indexD (by omega)) ty_index end_index ho ha ok
end
end
end MiS

namespace MiS
open PySem PySem.Spec PyProof.Rows L2 Mi MiG
variable [Tb]
section
variable {X : Cx} {C : Cn} {W : Wish} {K : PySem.W.Frag}
/-! ### d.get(k) -/
theorem get_ne {L : Addr → Prop} {H : Hp} {a : Addr} {ds : List (D × D)} {y : V} {k : D} (c : DcP K L H a ds) (r : Rp K L H y k) (h : keyOk ds k = true) (hn : ds.isEmpty = false) :
    (∃ v d, DGet H a y (some v) ∧ look ds k = some d ∧ Rp K L H v d) ∨ (DGet H a y none ∧ look ds k = none) := by
  have ne : ∀ {κ : Type} {g : κ → D} {kvs : List (κ × V)}, kvs.map (fun p => g p.1) = ds.map (·.1) → kvs ≠ [] := by
    intro κ g kvs e q
    subst q
    cases ds with
    | nil => cases hn
    | cons _ _ => cases e
  have rdE : ∀ u u', Rd H a u → Rd H a u' → (∀ o w, u ≠ .frz o w) → (∀ o w, u' ≠ .frz o w) → u = u' := by
    intro u u' h1 h2 f1 f2
    rcases h1 with h1 | ⟨o, h1⟩ <;> rcases h2 with h2 | ⟨o', h2⟩ <;> rw [h1] at h2
    · exact Option.some.inj h2
    · exact absurd (Option.some.inj h2) (f1 _ _)
    · exact absurd (Option.some.inj h2).symm (f2 _ _)
    · injection (Option.some.inj h2)
  have off : ∀ o, DGot H a y o → DGet H a y o := by
    intro o g
    rcases g with g | ⟨_, e, _⟩ | ⟨_, e, _⟩
    · exact g
    · rcases c with ⟨kvs, e2, ek, _⟩ | ⟨kvs, e2, ek, _⟩
      · have := rdE _ _ e e2 (by intros; simp) (by intros; simp)
        injection this with this
        exact absurd this.symm (ne ek)
      · have := rdE _ _ e e2 (by intros; simp) (by intros; simp)
        cases this
    · rcases c with ⟨kvs, e2, ek, _⟩ | ⟨kvs, e2, ek, _⟩
      · have := rdE _ _ e e2 (by intros; simp) (by intros; simp)
        cases this
      · have := rdE _ _ e e2 (by intros; simp) (by intros; simp)
        injection this with this
        exact absurd this.symm (ne ek)
  rcases dgot c r h with ⟨v, d, g1, g2, g3⟩ | ⟨g1, g2⟩
  · exact .inl ⟨v, d, off _ g1, g2, g3⟩
  · exact .inr ⟨off _ g1, g2⟩
theorem at_get {st : Sto} {x : RV} (h : mthAt .get st x = true) : ∃ n xs, x = .ref n ∧ content st x = some (.dict xs) := by
  cases x with
  | val d => cases d <;> cases h
  | ref n =>
    cases e : content st (.ref n) with
    | none => simp [mthAt, isTi, e] at h
    | some d =>
      cases d with
      | dict xs => exact ⟨n, xs, rfl, rfl⟩
      | _ => simp [mthAt, isTi, e] at h
def rGet (x : V) (xs : List V) (H : Hp) (Q : VK) : Prop := ∃ a y o, x = V.ref a ∧ xs = [y] ∧ DGet H a y o ∧ Q (o.getD .non) H
theorem mt_get (hu : X.A.units + 100 < cLine) : MtR X "dict.get" rGet := by
  intro pins s σ H x xs v us Q I rx rxs h
  obtain ⟨a, y, o, rfl, rfl, g, q⟩ := h
  cases (show v = Value.ref a from rx)
  obtain ⟨u, rfl, ry⟩ := vals1 rxs
  exact d_get1 (by omega) I g ry fun w' s' I' r => ⟨_, H, I', r, q⟩
theorem ty_get : MthTy K .get "dict" := by
  intro M H st v x sr rv h
  obtain ⟨n, xs, rfl, e⟩ := at_get h
  exact ty_dict sr rv e
theorem end_get : MthEnd K W .get rGet := by
  intro M H st v x vs ds Q sr rv rl at_ h
  obtain ⟨n, kvs, rfl, ec⟩ := at_get at_
  obtain ⟨a, rfl, dc⟩ := (content_cp sr rv ec).dict
  match ds, rl, h with
  | [k], rl, h =>
    cases rl with
    | cons r1 rl =>
      cases rl
      simp only [mthR, changes, isTi, ec, Bool.false_eq_true, if_false] at h
      cases e3 : keyOk kvs k && !kvs.isEmpty with
      | false => simp only [mth0, e3] at h; exact h.elim
      | true =>
        simp only [mth0, e3, if_true] at h
        have g := Bool.and_eq_true_iff.mp e3
        rcases get_ne dc r1 g.1 (by simpa using g.2) with ⟨v, d, g1, g2, g3⟩ | ⟨g1, g2⟩
        · rw [g2] at h
          exact ⟨a, _, _, rfl, rfl, g1, (Wants.of h).here sr g3⟩
        · rw [g2] at h
          exact ⟨a, _, _, rfl, rfl, g1, (Wants.of h).here sr .non⟩
  | [], _, h => simp only [mthR, changes, isTi, Bool.false_eq_true, if_false, ec] at h; exact h.elim
  | _ :: _ :: _, _, h => simp only [mthR, changes, isTi, Bool.false_eq_true, if_false, ec] at h; exact h.elim
theorem se_get {o e : Expr} {to te : Mi.T} {apos cpos : Pos} (hu : X.A.units + 100 < cLine) (ho : PE X o (tE X.K C W to)) (ha : PA X [e] (tEs X.K C W te)) (ok : okM o [e] apos cpos = true) : PE X (.Call (.Attribute o "get" apos) [e] [] cpos) (tE X.K C W (.mth .get to te)) :=
  se_mth F.plainAttrs_dict F.slot_dict_get F.type_dict_get (mt_get hu) ty_get end_get ho ha ok
/-! ### isinstance -/
theorem kit_ok (t : Ty) (d : D) (nd : ∀ kvs, d ≠ .dict kvs) : ∃ n : String, (∀ {L : Addr → Prop} {H : Hp} {v : V}, Cp K L H v d → TyX K H v (.type n)) ∧ kitB n (tyN t) = some (isTy d t) := by
  cases d with
  | none => exact ⟨"NoneType", fun c => by cases c.non; exact .base .non, by cases t <;> decide +kernel⟩
  | bool b => exact ⟨"bool", fun c => by cases c.bl; exact .base (.bl _), by cases t <;> (show _ = some _; simp only [isTy]; decide +kernel)⟩
  | int i => exact ⟨"int", fun c => by cases c.int; exact .base (.int _), by cases t <;> (show _ = some _; simp only [isTy]; decide +kernel)⟩
  | str x => exact ⟨"str", fun c => by cases c.str; exact .base (.str _), by cases t <;> (show _ = some _; simp only [isTy]; decide +kernel)⟩
  | list ds => exact ⟨"list", fun c => by
      obtain ⟨a, xs, rfl, r, p⟩ := c.list
      rcases r with r | ⟨o, r⟩
      · exact .base (.lst r)
      · exact .base (.frz r), by cases t <;> (show _ = some _; simp only [isTy]; decide +kernel)⟩
  | tuple ds => exact ⟨"tuple", fun {L H v} c => by
      have k := c.rt
      cases k with
      | tup n r x => exact .base (.tup r), by cases t <;> (show _ = some _; simp only [isTy]; decide +kernel)⟩
  | dict kvs => exact absurd rfl (nd kvs)
theorem boot_ty (t : Ty) : bootBuiltins (Str.ofString (tyN t)) = some (.type (tyN t)) := by cases t <;> decide +kernel
theorem se_isi {e : Expr} {te : Mi.T} {t : Ty} {p p2 pos : Pos} (hg : Gl X "isinstance") (hm : X.mg "isinstance" = none) (hgt : Gl X (Str.ofString (tyN t))) (hmt : X.mg (Str.ofString (tyN t)) = none) (ha : PE X e (tE X.K C W te)) (hs : nostar e = true) :
    PE X (.Call (.Name "isinstance" p) [e, .Name (Str.ofString (tyN t)) p2] [] pos) (tE X.K C W (.isi te [t])) := by
  have hT : PE X (.Name (Str.ofString (tyN t)) p2) (tC (.ty (tyN t))) := pe_bltn hgt hmt (boot_ty t) rfl (by cases t <;> decide) (by cases t <;> decide)
  refine cvE (pe_callB call_isi hg hm boot_isinstance (pa_cons ha (pa_cons hT pa_nil) (star_cons hs)) (by decide) (by decide) (star_cons hs) (by rfl)) fun σ H Q ⟨M, env, st, er, sr, h⟩ => ?_
  rw [ev] at h
  refine ⟨M, env, st, er, sr, (PR.bind h).imp fun x M1 st1 H1 p1 sr1 s1 h v1 r1 => ?_⟩
  cases e1 : content st1 x with
  | none => simp only [e1] at h; exact h.elim
  | some d =>
    simp only [e1] at h
    have nd : ∀ kvs, d ≠ .dict kvs := by rintro kvs rfl; exact h
    obtain ⟨n, ty, kt⟩ := kit_ok (K := X.K) t d nd
    have h' : PR X.K M1 H1 st1 (.ok (.val (.bool ([t].any (isTy d)))) st1) W (QV X.K Q) := by
      cases d <;> first
        | exact h
        | exact absurd rfl (nd _)
    refine ⟨v1, .ty (tyN t), .type n, .type (tyN t), isTy d t, rfl, .ty _, ty (content_cp sr1 r1 e1), kit_ty kt, ?_⟩
    have := (Wants.of h').bl sr1
    simpa using this
/-! ### a name that gives its object away; new objects -/
theorem se_mv {i : Nat} {x : Str} {pos : Pos} (hN : X.N[i]? = some x) (hv : Vis X.env.scope x) (hd : (x == ("__debug__" : Str)) = false) (hcd : (x == ("__classdict__" : Str)) = false) : PE X (.Name x pos) (tE X.K C W (.mv i)) := by
  refine cvE (pe_var (pos := pos) hN hv hd hcd) fun σ H Q ⟨M, env, st, er, sr, h⟩ => ?_
  rw [ev] at h
  cases e : env[i]? with
  | none => simp only [e] at h; exact h.elim
  | some o =>
    cases o with
    | none => simp only [e] at h; exact h.elim
    | some r =>
      cases r with
      | val d => simp only [e] at h; exact h.elim
      | ref n =>
        simp only [e] at h
        cases e2 : content st (.ref n) with
        | none => simp only [e2] at h; exact h.elim
        | some d =>
          simp only [e2] at h
          obtain ⟨v, h1, a, rfl, hM⟩ := er.at_ i _ e
          cases q : st[n]? with
          | none => simp only [content, q] at e2; cases e2
          | some o =>
            simp only [content, q] at e2
            have ob := sr.obj n o a q hM
            obtain ⟨s, sr', nl⟩ := sr.freeze hM q
            refine ⟨.ref a, h1, h M H (List.prefix_refl _) sr' s _ ?_⟩
            cases o with
            | lst ds =>
              cases e2
              obtain ⟨xs, e1, r1⟩ := ob
              exact .lst nl (.inl e1) (r1.mono s)
            | dic kvs =>
              cases e2
              rcases ob with ⟨ks, e1, q1, r1⟩ | ⟨ks, e1, q1, r1⟩
              · exact .dicA nl (.inl e1) q1 (r1.mono s)
              · exact .dicT nl (.inl e1) q1 (r1.mono s)
            | tpl _ => cases e2
            | dead => cases e2
theorem new_end {M : List Addr} {H : Hp} {st : Sto} {o : O} {Q : VK} (sr : SR K M H st) {u : HO} (new : RpU K (Lv M st) H u o) (h : PR K M H st (.ok (.ref st.length) (st ++ [o])) W (QV K Q)) : ∀ p, H p = none → Q (.ref p) (upd H p u) := by
  intro p hp
  obtain ⟨s, sr'⟩ := sr.push hp new
  refine h (M ++ [p]) _ (List.prefix_append _ _) sr' s _ ⟨p, rfl, ?_⟩
  rw [← sr.len]; simp
theorem se_newLst {es : List Expr} {pos : Pos} {t : Mi.T} (ha : PA X es (tEs X.K C W t)) : PE X (.List es pos) (tE X.K C W (.new (.lst t))) := by
  refine cvE (pe_lst (pos := pos) ha) fun σ H Q ⟨M, env, st, er, sr, h⟩ => ?_
  rw [ev, ev] at h
  refine ⟨M, env, st, er, sr, (PR.bind (PR.bind h)).imp fun rs M1 st1 H1 p1 sr1 s1 h vs r => ?_⟩
  cases e : pures rs with
  | none => simp only [e] at h; exact h.elim
  | some ds =>
    simp only [e] at h
    have rl := pures_rp r e
    cases z : sizeOk ds.length with
    | false => simp only [z] at h; exact h.elim
    | true =>
      simp only [z, if_true] at h
      exact ⟨by rw [rl.len]; exact sizeOk_ok z, new_end sr1 (o := .lst ds) ⟨_, rfl, rl⟩ (PR.here sr1 h)⟩
theorem se_dic0 {pos : Pos} : PE X (.Dict [] [] pos) (tE X.K C W (.dic .nil)) := by
  refine cvE (pe_dnewK (pos := pos)) fun σ H Q ⟨M, env, st, er, sr, h⟩ => ?_
  rw [ev, evs] at h
  have hg : (st ++ [O.dic []])[st.length]? = some (.dic []) := by simp
  have hs : (st ++ [O.dic []]).set st.length (.dic (puts [] [])) = st ++ [O.dic []] := set_same hg
  have h' : PR X.K M H st (match (st ++ [O.dic []])[st.length]? with
        | some (.dic []) => .ok (.ref st.length) ((st ++ [O.dic []]).set st.length (.dic (puts [] [])))
        | _ => .bad) W (QV X.K Q) := h
  rw [hg, hs] at h'
  exact new_end sr (o := .dic []) (.inl ⟨[], rfl, rfl, .nil⟩) h'
end
end MiS

namespace MiS
open PySem PySem.Spec PyProof.Rows L2 Mi MiG
variable [Tb]
section
variable {X : Cx} {C : Cn} {W : Wish} {K : PySem.W.Frag}
theorem place_atoms {L : Addr → Prop} {H : Hp} {x : V} {d : D} (rx : Rp K L H x d) (hx : atom d = true) : ∀ {vs : List V} {ds : List D} {n j : Nat}, RpL K L H vs ds → atoms ds = true → place d ds n = some j → n ≤ j ∧ (∃ z, vs[j - n]? = some z ∧ eqV z x = true) ∧ ∀ m z', m < j - n → vs[m]? = some z' → eqV z' x = false
  | _, _, n, j, .nil, _, h => by cases h
  | v :: vs, e :: ds, n, j, .cons r rl, ha, h => by
    have ha := Bool.and_eq_true_iff.mp (show (atom e && atoms ds) = true from ha)
    have e1 := eqV_deq r rx ha.1 hx
    cases hq : deq e d with
    | true =>
      have h : (if deq e d = true then some n else place d ds (n + 1)) = some j := h
      rw [hq, if_pos rfl] at h
      cases h
      exact ⟨Nat.le_refl _, ⟨v, by rw [Nat.sub_self]; rfl, by rw [e1]; exact hq⟩, fun m z' hm => by omega⟩
    | false =>
      have h : (if deq e d = true then some n else place d ds (n + 1)) = some j := h
      rw [hq, if_neg (by decide)] at h
      obtain ⟨g1, ⟨z, g2, g3⟩, g4⟩ := place_atoms rx hx rl ha.2 h
      have ej : j - n = (j - (n + 1)) + 1 := by omega
      refine ⟨by omega, ⟨z, by rw [ej]; exact g2, g3⟩, fun m z' hm hz => ?_⟩
      cases m with
      | zero => cases hz; rw [e1]; exact hq
      | succ m => exact g4 m z' (by omega) hz
theorem co_tix {o es : Mi.T} {σ : L2.St} {H : Hp} {Q : VK} (h : tE K C W (.mth .tindex o es) σ H Q) : tTix K (tE K C W o) (tEs K C W es) σ H Q := by
  obtain ⟨M, env, st, er, sr, h⟩ := h
  rw [ev] at h
  refine ⟨M, env, st, er, sr, (PR.bind h).imp fun x M1 st1 H1 p1 sr1 s1 h v1 r1 => ?_⟩
  have look : ∀ {M1 : List Addr} {st1 : Sto} {H1 : Hp} {x : RV}, SR K M1 H1 st1 → RVp K M1 (Lv M1 st1) H1 v1 x → mthAt .tindex st1 x = true → ∃ (p : Addr) (ob : Obj) (ys : List V) (ds : List D), v1 = .ref p ∧ H1 p = some (.frz ob (.tup ys)) ∧ ob.dict = none ∧ RpL K (Lv M1 st1) H1 ys ds ∧ contentT st1 x = some (.tuple ds) := by
    intro M1 st1 H1 x sr1 r1 e0
    cases x with
    | val d => simp [mthAt, isTi] at e0
    | ref n =>
      obtain ⟨a, rfl, hM⟩ := r1
      cases q : st1[n]? with
      | none => simp [mthAt, isTi, q] at e0
      | some o =>
        cases o with
        | tpl ds =>
          obtain ⟨xs, ob, g1, g2, g3⟩ := sr1.obj n _ a q hM
          exact ⟨a, ob, xs, ds, rfl, g1, g2, g3, by simp only [contentT, q]⟩
        | _ => simp [mthAt, isTi, q] at e0
  cases e0 : mthAt .tindex st1 x with
  | false => simp only [e0] at h; exact h.elim
  | true =>
    simp only [e0, if_true] at h
    obtain ⟨p, ob, ys, ds, rfl, g1, g2, g3, g4⟩ := look sr1 r1 e0
    refine ⟨⟨p, ob, ys, rfl, g1, g2⟩, M1, env, st1, er.mono p1 s1, sr1, (PR.bind h).imp fun rs M2 st2 H2 p2 sr2 s2 h vs r2 => ?_⟩
    cases e1 : pures rs with
    | none => simp only [e1] at h; exact h.elim
    | some qs =>
      simp only [e1] at h
      cases e9 : mthAt .tindex st2 x with
      | false => simp only [e9] at h; exact h.elim
      | true =>
        simp only [e9, if_true] at h
        obtain ⟨p', ob', ys', ds', ep, k1, k2, k3, k4⟩ := look sr2 (r1.mono p2 s2) e9
        cases ep
        have rl := pures_rp r2 e1
        simp only [mthR, changes, isTi, Bool.false_eq_true, if_false, if_true, k4] at h
        match qs, rl, h with
        | [y], rl, h =>
          cases rl with
          | cons ry rl =>
            cases rl
            cases e3 : (atom y && atoms ds') with
            | false => simp only [mth0, e3] at h; exact h.elim
            | true =>
              simp only [mth0, e3, if_true] at h
              cases e4 : place y ds' 0 with
              | none => simp only [e4] at h; exact h.elim
              | some j =>
                simp only [e4, Option.map_some] at h
                have a := Bool.and_eq_true_iff.mp e3
                obtain ⟨_, ⟨z, q1, q2⟩, q3⟩ := place_atoms ry a.1 k3 a.2 e4
                exact ⟨p, ys', _, z, j, rfl, rfl, .inl (.inr ⟨ob', k1⟩), atom_flat ry a.1, atoms_flat k3 a.2, q1, q2, q3, (Wants.of h).int sr2⟩
        | [], _, h => simp only [mth0] at h; exact h.elim
        | _ :: _ :: _, _, h => simp only [mth0] at h; exact h.elim
theorem se_tix {o e : Expr} {es : List Expr} {to tes : Mi.T} {apos cpos : Pos} (ho : PE X o (tE X.K C W to)) (ha : PA X (e :: es) (tEs X.K C W tes)) (ok : okM o (e :: es) apos cpos = true) : PE X (.Call (.Attribute o "index" apos) (e :: es) [] cpos) (tE X.K C W (.mth .tindex to tes)) := by
  have h1 := Bool.and_eq_true_iff.mp ok
  have h2 := Bool.and_eq_true_iff.mp h1.2
  have h3 := Bool.and_eq_true_iff.mp h2.2
  have h4 := Bool.and_eq_true_iff.mp h2.1
  exact cvX (pe_tix ho ha (base_of h1.1) (okM_few ok) h3.2 (star_cons h4.1) (stars_off h4.2)) co_tix
/-- tuple(xs), an object of its own -/
theorem co_newT {es : Mi.T} {σ : L2.St} {H : Hp} {Q : VK} (h : tE K C W (.new (.bi .ltup es)) σ H Q) : tCB (rTupF K) (tEs K C W es) σ H Q := by
  obtain ⟨M, env, st, er, sr, h⟩ := h
  rw [ev, ev] at h
  refine ⟨M, env, st, er, sr, (PR.bind (PR.bind h)).imp fun rs M1 st1 H1 p1 sr1 s1 h vs rv => ?_⟩
  rw [valsB_plain rfl] at h
  cases e1 : vals st1 rs with
  | none => simp only [e1] at h; exact h.elim
  | some ds =>
    simp only [e1] at h
    cases e2 : blt .ltup ds with
    | none => simp only [e2] at h; exact h.elim
    | some z =>
      simp only [e2] at h
      have cl := vals_cp sr1 rv e1
      have key : ∀ qs, ds = [.list qs] → rTupF K vs H1 Q := fun qs e => by
        subst e
        obtain ⟨v, rfl, c⟩ := cl.one
        obtain ⟨a, xs, rfl, ra, rl⟩ := c.list
        cases e2
        have h := PR.here (a := RV.val (.tuple qs)) sr1 h
        refine ⟨a, xs, rfl, .inl ra, fun l o hl hd => ?_⟩
        have hp := hl
        obtain ⟨s0, sr0⟩ := sr1.push (o := .tpl qs) (u := .frz o (.tup xs)) hl ⟨xs, o, rfl, hd, rl⟩
        have h' : PR K M1 H1 st1 (.ok (.ref st1.length) (st1 ++ [.tpl qs])) W (QV K Q) := h
        refine h' (M1 ++ [l]) _ (List.prefix_append _ _) sr0 s0 (.ref l) ⟨l, rfl, ?_⟩
        rw [← sr1.len]; simp
      match ds, e2, h with
      | [.list qs], _, _ => exact key qs rfl
      | [.tuple qs], e2, _ => cases e2
      | [], e2, _ => cases e2
      | [.none], e2, _ => cases e2
      | [.bool _], e2, _ => cases e2
      | [.int _], e2, _ => cases e2
      | [.str _], e2, _ => cases e2
      | [.dict _], e2, _ => cases e2
      | _ :: _ :: _, e2, _ => simp [blt] at e2
end
end MiS

namespace MiS
open PySem PySem.Spec PyProof.Rows L2 Mi MiG
variable [Tb]
section
variable {X : Cx} {C : Cn} {W : Wish} {K : PySem.W.Frag}
theorem strs_of {L : Addr → Prop} {H : Hp} : ∀ {vs : List V} {ds : List D} {zs : List Str}, RpL K L H vs ds → strsOf ds = some zs → vs = zs.map V.str
  | _, _, _, .nil, h => by cases h; rfl
  | _, _, zs, .cons (d := d) (ds := ds) a b, h => by
    cases a with
    | str x =>
      cases e : strsOf ds with
      | none => rw [strsOf, e] at h; cases h
      | some r =>
        rw [strsOf, e] at h
        cases h
        rw [strs_of b e]; rfl
    | _ => cases h
theorem sum_len : ∀ zs : List Str, (zs.map (·.length)).sum = sumLen zs
  | [] => rfl
  | z :: zs => by
    show z.length + (zs.map (·.length)).sum = z.length + sumLen zs
    rw [sum_len zs]
def rSix (x : V) (xs : List V) (H : Hp) (Q : VK) : Prop := ∃ a b, x = .str a ∧ xs = [.str b] ∧ 0 ≤ Txt.find a b ∧ Q (.int (Txt.find a b)) H
theorem mt_six {X : Cx} : MtR X "str.index" rSix := by
  intro pins s σ H x xs v us Q I rx rs h
  obtain ⟨a, b, rfl, rfl, hk, q⟩ := h
  obtain ⟨t, rfl⟩ := rx
  obtain ⟨u, rfl, ru⟩ := vals1 rs
  obtain ⟨z, rfl⟩ := ru
  unfold Txt.find at hk q
  cases e : Builtin.Str.occurrences a b 0 a.length 1 with
  | nil => rw [e] at hk; exact absurd hk (by decide)
  | cons k r =>
    rw [e] at q
    exact PySem.SC.index e ⟨.int (k : Nat), H, I.tok _, ⟨_, rfl⟩, q⟩
theorem at_six {st : Sto} {x : RV} (h : mthAt .sindex st x = true) : ∃ s, content st x = some (.str s) := by
  cases e : content st x with
  | none => simp [mthAt, isTi, e] at h
  | some d =>
    cases d with
    | str s => exact ⟨s, rfl⟩
    | _ => simp [mthAt, isTi, e] at h
theorem ty_six : MthTy K .sindex "str" := by
  intro M H st v x sr rv h
  obtain ⟨s, e⟩ := at_six h
  have := (content_cp sr rv e).str
  subst this
  rfl
theorem end_six : MthEnd K W .sindex rSix := by
  intro M H st v x vs ds Q sr rv rl at_ h
  obtain ⟨s, e⟩ := at_six at_
  simp only [mthR, changes, isTi, Bool.false_eq_true, if_false, e] at h
  have ev := (content_cp sr rv e).str
  subst ev
  match ds, rl, h with
  | [y], rl, h =>
    cases rl with
    | cons r1 rl =>
      cases rl
      cases y with
      | str z =>
        by_cases hz : 0 ≤ Txt.find s z
        · simp only [mth0, hz, if_true] at h
          cases r1 with
          | str => exact ⟨s, z, rfl, rfl, hz, (Wants.of h).int sr⟩
        · simp only [mth0, hz, if_false] at h
          exact h.elim
      | _ => simp only [mth0] at h; exact h.elim
  | [], _, h => simp only [mth0] at h; exact h.elim
  | _ :: _ :: _, _, h => simp only [mth0] at h; exact h.elim
theorem se_six {o e : Expr} {to te : Mi.T} {apos cpos : Pos} (ho : PE X o (tE X.K C W to)) (ha : PA X [e] (tEs X.K C W te)) (ok : okM o [e] apos cpos = true) : PE X (.Call (.Attribute o "index" apos) [e] [] cpos) (tE X.K C W (.mth .sindex to te)) :=
  se_mth F.plainAttrs_str F.slot_str_index F.type_str_index mt_six ty_six end_six ho ha ok
def rJoin (K : PySem.W.Frag) (x : V) (xs : List V) (H : Hp) (Q : VK) : Prop := ∃ a p, ∃ ys : List Str, x = .str a ∧ xs = [.ref p] ∧ (SqL K H p (ys.map V.str) ∨ SqT K H p (ys.map V.str)) ∧ (ys.map (·.length)).sum + ys.length * a.length ≤ 16777216 ∧ Q (.str (Txt.join a ys)) H
theorem at_join {st : Sto} {x : RV} (h : mthAt .join st x = true) : ∃ s, content st x = some (.str s) := by
  cases e : content st x with
  | none => simp [mthAt, isTi, e] at h
  | some d =>
    cases d with
    | str s => exact ⟨s, rfl⟩
    | _ => simp [mthAt, isTi, e] at h
theorem ty_join : MthTy K .join "str" := by
  intro M H st v x sr rv h
  obtain ⟨s, e⟩ := at_join h
  have := (content_cp sr rv e).str
  subst this
  rfl
theorem end_join : MthEnd K W .join (rJoin K) := by
  intro M H st v x vs ds Q sr rv rl at_ h
  obtain ⟨s, e⟩ := at_join at_
  simp only [mthR, changes, isTi, Bool.false_eq_true, if_false, e] at h
  have ev := (content_cp sr rv e).str
  subst ev
  match ds, rl, h with
  | [y], rl, h =>
    cases rl with
    | cons r1 rl =>
      cases rl
      cases y with
      | list xs =>
        cases e2 : strsOf xs with
        | none => simp only [mth0, e2] at h; exact h.elim
        | some zs =>
          cases e3 : Mi.sizeOk (sumLen zs + zs.length * s.length) with
          | false => simp only [mth0, e2, e3] at h; exact h.elim
          | true =>
            simp only [mth0, e2, e3, if_true] at h
            cases r1 with
            | lst nl ra x =>
              have ez := strs_of x e2
              subst ez
              exact ⟨s, _, zs, rfl, rfl, .inl (.inl ra), by rw [sum_len]; exact of_decide_eq_true e3, (Wants.of h).str sr⟩
      | _ => simp only [mth0] at h; exact h.elim
  | [], _, h => simp only [mth0] at h; exact h.elim
  | _ :: _ :: _, _, h => simp only [mth0] at h; exact h.elim
theorem se_join {o e : Expr} {to te : Mi.T} {apos cpos : Pos} (ho : PE X o (tE X.K C W to)) (ha : PA X [e] (tEs X.K C W te)) (ok : okM o [e] apos cpos = true) : PE X (.Call (.Attribute o "join" apos) [e] [] cpos) (tE X.K C W (.mth .join to te)) :=
  se_mth F.plainAttrs_str F.slot_str_join F.type_str_join mt_join ty_join end_join ho ha ok
end
end MiS

namespace MiS
open PySem PySem.Spec PyProof.Rows L2 Mi MiG
variable [Tb]
section
variable {K : PySem.W.Frag} {M : List Addr} {H : Hp} {st : Sto} {C : Cn} {W : Wish}
/-- a new list is wanted -/
def WantsL (K : PySem.W.Frag) (M : List Addr) (H : Hp) (st : Sto) (ds : List D) (Q : VK) : Prop := ∀ xs, RpL K (Lv M st) H xs ds → ∀ p, H p = none → Q (.ref p) (upd H p (.lst xs))
theorem WantsL.of {t : Bool} {d : D} {Q : VK} (sr : SR K M H st) (h : PR K M H st (newR t d st) W (QV K Q)) : (∃ ds, d = .list ds ∧ WantsL K M H st ds Q) ∨ ∃ ds, t = true ∧ d = .tuple ds := by
  cases d with
  | list ds => exact .inl ⟨ds, rfl, fun xs rl => new_end sr (o := .lst ds) ⟨_, rfl, rl⟩ h⟩
  | tuple ds =>
    cases t with
    | true => exact .inr ⟨ds, rfl, rfl⟩
    | false => exact h.elim
  | _ => exact h.elim
theorem bopL_end (sr : SR K M H st) {o : Op} {v u : V} {x y : D} {zs : List D} (c1 : Cp K (Lv M st) H v x) (c2 : Cp K (Lv M st) H u y) (e : bop o x y = some (.list zs)) {Q : VK} (w : WantsL K M H st zs Q) : rOp K o v u H Q := by
  cases o with
  | add =>
    cases x <;> cases y <;> first
      | (exfalso; simp [bop] at e; done)
      | skip
    obtain ⟨a, xs, rfl, ra, pa⟩ := c1.list
    obtain ⟨b, ys, rfl, rb, pb⟩ := c2.list
    simp only [bop] at e
    split at e
    · cases e
      rename_i hz
      refine .inr (.inr (.inl ⟨a, b, xs, ys, rfl, rfl, ra, rb, ?_, w _ (pa.app pb)⟩))
      rw [pa.len, pb.len]; exact sizeOk_ok hz
    · cases e
  | mul =>
    cases x <;> cases y <;> first
      | (exfalso; simp [bop] at e; done)
      | skip
    obtain ⟨a, xs, rfl, ra, pa⟩ := c1.list
    cases c2.int
    simp only [bop] at e
    split at e
    · cases e
      rename_i hz
      have h1 := Bool.and_eq_true_iff.mp hz
      have h2 := Bool.and_eq_true_iff.mp h1.1
      have a1 := of_decide_eq_true h2.1
      have a2 := of_decide_eq_true h2.2
      exact .inr (.inl ⟨a, _, xs, rfl, rfl, ra, by omega, by omega, by rw [pa.len]; exact sizeOk_ok h1.2, w _ (pa.rep _)⟩)
    · cases e
  | sub => cases x <;> cases y <;> (exfalso; simp [bop] at e; done)
  | mod => cases x <;> cases y <;> (exfalso; simp [bop] at e; done)
  | fdiv => cases x <;> cases y <;> (exfalso; simp [bop] at e; done)
  | pow => cases x <;> cases y <;> (exfalso; simp [bop] at e; done)
theorem cutL_end (sr : SR K M H st) {v : V} {x : D} {zs : List D} {lo hi : Option Int} (c : Cp K (Lv M st) H v x) (e : cut x lo hi = some (.list zs)) {Q : VK} (w : WantsL K M H st zs Q) : rSlAny K v lo hi H Q := by
  cases x with
  | list ds =>
    obtain ⟨a, xs, rfl, ra, pa⟩ := c.list
    cases e
    exact .inl ⟨a, xs, rfl, .inl ra, w _ (pa.cut lo hi)⟩
  | str t => simp [cut] at e
  | _ => cases e
theorem listL_end (sr : SR K M H st) {vs : List V} {ds zs : List D} (cl : CpL K (Lv M st) H vs ds) (e : blt .list ds = some (.list zs)) {Q : VK} (w : WantsL K M H st zs Q) : rBi K .list vs H Q := by
  obtain ⟨d, rfl⟩ : ∃ d, ds = [d] := by
    cases ds with
    | nil => cases e
    | cons d r => cases r with | nil => exact ⟨d, rfl⟩ | cons _ _ => (cases d <;> cases e)
  obtain ⟨v, rfl, c⟩ := cl.one
  cases d <;> first
    | (cases e; done)
    | skip
  · obtain ⟨a, xs, rfl, ra, pa⟩ := c.list
    cases e
    exact .inl ⟨a, xs, rfl, .inl (.inl ra), w _ pa⟩
  · obtain ⟨a, xs, rfl, ra, pa⟩ := c.tup
    cases e
    exact .inl ⟨a, xs, rfl, .inr ra, w _ pa⟩
  · obtain ⟨a, rfl, dc⟩ := c.dict
    cases e
    rcases dc with ⟨kvs, r, q, x⟩ | ⟨kvs, r, q, x⟩
    · exact .inr (.inl ⟨a, kvs, rfl, r, w _ (keysA_rp q)⟩)
    · exact .inr (.inr ⟨a, kvs, rfl, r, fun p bs hp hk => w _ (keysT_rp sr hk q) p hp⟩)
end
section
variable {X : Cx} {C : Cn} {W : Wish}
theorem se_newOp {o : Op} {a b : Expr} {ta tb : T} {pos : Pos} (ha : PE X a (tE X.K C W ta)) (hb : PE X b (tE X.K C W tb)) : PE X (.BinOp a (pyOp o) b pos) (tE X.K C W (.new (.op o ta tb))) := by
  refine cvE (pe_op (op_ok o) ha hb) fun σ H Q ⟨M, env, st, er, sr, h⟩ => ?_
  rw [ev, ev] at h
  refine ⟨M, env, st, er, sr, (PR.bind (PR.bind h)).imp fun x M1 st1 H1 p1 sr1 s1 h v1 r1 => ?_⟩
  refine ⟨M1, env, st1, er.mono p1 s1, sr1, (PR.bind h).imp fun y M2 st2 H2 p2 sr2 s2 h v2 r2 => ?_⟩
  cases e1 : content st2 x with
  | none => simp only [e1] at h; exact h.elim
  | some dx =>
    cases e2 : content st2 y with
    | none => simp only [e1, e2] at h; exact h.elim
    | some dy =>
      simp only [e1, e2] at h
      cases e3 : bop o dx dy with
      | none => simp only [e3] at h; exact h.elim
      | some z =>
        simp only [e3] at h
        rcases WantsL.of sr2 (PR.here (a := RV.val z) sr2 h) with ⟨ds, rfl, w⟩ | ⟨_, z, _⟩
        · exact bopL_end sr2 (content_cp sr2 (r1.mono p2 s2) e1) (content_cp sr2 r2 e2) e3 w
        · cases z
theorem se_newSlc {a : Expr} {lo hi : Option Expr} {ta tl th : T} {pos p2 : Pos} (ha : PE X a (tE X.K C W ta)) (hl : PO X lo (tO X.K C W tl)) (hh : PO X hi (tO X.K C W th)) : PE X (.Subscript a (.Slice lo hi none p2) pos) (tE X.K C W (.new (.slc ta tl th))) := by
  refine cvE (pe_slice sl_any ha hl hh) fun σ H Q ⟨M, env, st, er, sr, h⟩ => ?_
  rw [ev, ev] at h
  refine ⟨M, env, st, er, sr, (PR.bind (PR.bind h)).imp fun x M1 st1 H1 p1 sr1 s1 h v1 r1 => ?_⟩
  refine ⟨M1, env, st1, er.mono p1 s1, sr1, (PR.bind h).imp fun i M2 st2 H2 p2 sr2 s2 h => ?_⟩
  refine ⟨M2, env, st2, (er.mono p1 s1).mono p2 s2, sr2, (PR.bind h).imp fun j M3 st3 H3 p3 sr3 s3 h => ?_⟩
  cases e1 : content st3 x with
  | none => simp only [e1] at h; exact h.elim
  | some dx =>
    simp only [e1] at h
    cases e3 : cut dx i j with
    | none => simp only [e3] at h; exact h.elim
    | some z =>
      simp only [e3] at h
      rcases WantsL.of sr3 (PR.here (a := RV.val z) sr3 h) with ⟨ds, rfl, w⟩ | ⟨_, z, _⟩
      · exact cutL_end sr3 (content_cp sr3 ((r1.mono p2 s2).mono p3 s3) e1) e3 w
      · cases z
theorem co_newList {es : T} {σ : L2.St} {H : Hp} {Q : VK} {K : PySem.W.Frag} (h : tE K C W (.new (.bi .list es)) σ H Q) : tCB (rBi K .list) (tEs K C W es) σ H Q := by
  obtain ⟨M, env, st, er, sr, h⟩ := h
  rw [ev, ev] at h
  refine ⟨M, env, st, er, sr, (PR.bind (PR.bind h)).imp fun rs M1 st1 H1 p1 sr1 s1 h vs r => ?_⟩
  rw [valsB_plain rfl] at h
  cases e1 : vals st1 rs with
  | none => simp only [e1] at h; exact h.elim
  | some ds =>
    simp only [e1] at h
    cases e2 : blt .list ds with
    | none => simp only [e2] at h; exact h.elim
    | some z =>
      simp only [e2] at h
      rcases WantsL.of sr1 (PR.here (a := RV.val z) sr1 h) with ⟨ds, rfl, w⟩ | ⟨_, z, _⟩
      · exact listL_end sr1 (vals_cp sr1 r e1) e2 w
      · cases z
theorem se_newList {e : Expr} {es : List Expr} {t : T} {p pos : Pos} (hc : X.calm = true) (hu : X.A.units + 100 < cLine) (hg : Gl X (biN .list)) (hm : X.mg (biN .list) = none) (ha : PA X (e :: es) (tEs X.K C W t))
    (he : starEach (e :: es) X.env = (false, eval e X.env) :: starEach es X.env) (hpl : (backTo pos (starEach es X.env)).any (·.1) = false) : PE X (.Call (.Name (biN .list) p) (e :: es) [] pos) (tE X.K C W (.new (.bi .list t))) :=
  cvX (t := tCB (rBi X.K .list) (tEs X.K C W t)) (pe_callTy (call_bi (X := X) hc hu .list rfl) hg hm (boot_bi .list rfl) ha (by decide) (by decide) he hpl) co_newList
end
end MiS

namespace MiS
open PySem PySem.Spec PyProof.Rows L2 Mi MiG
variable [Tb]
open Sem (wp)
section
variable {prog : Program} {w : World} {A : Around} {E : Value → Shared → Prop} {s : Shared}
/-- {k: v} -/
theorem wpAny_Dict_one {env : Env} {k v : Expr} {pos : Pos} {Q : Value → Shared → Prop}
    (h : wpAny (model prog w) A (evalPairs (pairTrees [some k] [v] env pos)) (fun vs s₁ => ∃ x y, vs = [(x, y)] ∧ wpAny (model prog w) A (dictSet s.heap.objs.size x y) (fun _ s2 => Q (.ref s.heap.objs.size) s2) E s₁) E
      { s with heap := s.heap.push { cls := .type "dict", data := .dict #[] } }) :
    wpAny (model prog w) A (eval (.Dict [some k] [v] pos) env) Q E s := by
  have hn := pairTrees_length [some k] [v] env pos rfl rfl
  have h0 : pairTrees [some k] [v] env pos ≠ [] := by
    intro he
    rw [he] at hn
    cases hn
  rw [arm_eval_Dict, zip_pairTrees [some k] [v] env pos rfl rfl, dictDisplay_pairs _ h0 (by rw [hn]; exact (by decide : 1 < 17))]
  refine wpAny_bind (wpAny_standAt (wpAny_bind ?_))
  unfold subDict
  refine wpAny_bind (wpAny_alloc ?_)
  refine wpAny_bind (wpAny_holding ?_)
  rw [if_pos (by rw [hn]; exact (by decide : 1 ≤ 15))]
  refine wpAny_bind (wpAny_mono h (fun vs s₁ h₁ => ?_) fun _ _ e => e)
  obtain ⟨x, y, rfl, hQ⟩ := h₁
  refine wpAny_holding ?_
  refine wpAny_bind ?_
  rw [List.forIn_cons]
  refine wpAny_bind (wpAny_bind (wpAny_mono hQ (fun _ s2 q => wpAny_pure ?_) fun _ _ e => e))
  show wpAny _ _ (forIn ([] : List (Value × Value)) PUnit.unit _) _ _ _
  rw [List.forIn_nil]
  exact wpAny_pure (wpAny_pure (wpAny_pure (wpAny_pure q)))
end

section
variable {X : Cx} {C : Cn} {W : Wish}
/-- {k: v}, k a key of either kind; the new dict stands empty while the pair is made -/
def tDisp1 (tk tv : TE) : TE := fun σ H Q => ∀ p, H p = none → tk σ (upd H p (.dK [])) fun x H1 => tv σ H1 fun y H2 => (H2 p = some (.dK []) ∨ H2 p = some (.dT [])) ∧
  ((∃ q : Key, x = kV q ∧ Q (.ref p) (upd H2 p (.dK (putK [] q y)))) ∨ ∃ (q : List Key) (b : Addr), x = .ref b ∧ H2 b = some (.tup (q.map kV)) ∧ Q (.ref p) (upd H2 p (.dT (putK [] q y))))
theorem one_le {κ : Type} [DecidableEq κ] {g : κ} {y : V} : (putK [] g y).length ≤ sizeLine := by
  rw [sizeLine_eq]
  exact (by decide : 1 ≤ 16777216)
theorem pe_disp1 {k v : Expr} {pos : Pos} {tk tv : TE} (hu : X.A.units + 100 < cLine) (hk : PE X k tk) (hv : PE X v tv) : PE X (.Dict [some k] [v] pos) (tDisp1 tk tv) := by
  refine ⟨fun pins s σ H Q I q => ?_⟩
  have hn := I.hok.fresh (Nat.le_refl s.heap.objs.size)
  have I1 := I.laid (a := s.heap.objs.size) (o := .dK []) (h' := s.heap.push { cls := .type "dict", data := .dict #[] }) (t' := s.toks) (fun _ _ q => Heap.get?_push_of_some _ q) (Nat.le_refl _) (dk_empty s.heap I.big)
  refine wpAny_Dict_one (pairTrees_cons_walk (thn (hk.run pins _ σ _ _ I1 (q _ hn)) fun u s1 ⟨x, H1, I1, rx, q1⟩ => thn (hv.run pins s1 σ H1 _ I1 q1) fun r s2 ⟨y, H2, I2, ry, e, q2⟩ => pairTrees_nil_walk ⟨u, r, rfl, ?_⟩))
  rcases q2 with ⟨g, rfl, q2⟩ | ⟨g, b, rfl, eb, q2⟩
  · have atK : ∀ H3, Inv X pins σ H3 s2 → H3 s.heap.objs.size = some (.dK []) → (∀ o, upd H3 s.heap.objs.size o = upd H2 s.heap.objs.size o) →
        wpAny (model X.prog X.w) X.A (dictSet s.heap.objs.size u r) (fun _ s3 => EP X pins σ Q (.ref s.heap.objs.size) s3) X.xe s2 := by
      intro H3 I3 e3 eu
      obtain ⟨z, hd, vs0, r0, dd⟩ := dk_of I3.hok e3
      cases r0
      refine wpAny_dictSet_pairs (hsz := Nat.zero_le _) (kV_is rx) dd fun h' dd' hs => ?_
      have he : ∃ q, h'.get? s.heap.objs.size = some q := let ⟨q, _, _, hq, _⟩ := dd'; ⟨q, hq⟩
      have I4 := d_write (t' := s2.toks + 1) I3 (by rw [e3]; exact True.intro) hs he (dk_new one_le hd (KV.put .nil g ry) dd')
      rw [eu] at I4
      exact ⟨.ref s.heap.objs.size, _, I4, rfl, q2⟩
    rcases e with e | e
    · exact atK H2 I2 e fun _ => rfl
    · exact atK _ (retypeK I2 e) upd_same fun _ => upd_upd
  · cases (show u = Value.ref b from rx)
    have hb : b ≠ s.heap.objs.size := fun q => by subst q; rcases e with e | e <;> (rw [e] at eb; cases eb)
    have atT : ∀ H3, Inv X pins σ H3 s2 → H3 s.heap.objs.size = some (.dT []) → H3 b = some (.tup (g.map kV)) → (∀ o, upd H3 s.heap.objs.size o = upd H2 s.heap.objs.size o) →
        wpAny (model X.prog X.w) X.A (dictSet s.heap.objs.size (.ref b) r) (fun _ s3 => EP X pins σ Q (.ref s.heap.objs.size) s3) X.xe s2 := by
      intro H3 I3 e3 eb' eu
      obtain ⟨z, hd, xs, rel, dd⟩ := dt_of I3.hok e3
      cases rel
      refine wpAny_dictSet_heap (hsz := Nat.zero_le _) (show X.A.units < cLine by omega) (key_of I3.hok eb') dd fun h' dd' hs => ?_
      obtain ⟨o, es, ep, hq, g2, g3, g4, _, g5⟩ := dd'
      have I4 := d_write (t' := s2.toks + (tupleKind (mixKind X.prog X.w)).draws g) (ob := .dT (putK [] g y)) I3 (by rw [e3]; exact True.intro) hs ⟨o, hq⟩ ⟨one_le, hd, _, (KT.put .nil g eb' ry).keeps fun c ys ec => ?_, o, es, ep, hq, g2, g3, g4, g5⟩
      · rw [eu] at I4
        exact ⟨.ref s.heap.objs.size, _, I4, rfl, q2⟩
      · rw [upd_ne (ne_of ec e3 (fun z => nomatch z))]
        exact ec
    rcases e with e | e
    · exact atT _ (retypeT I2 e) upd_same (by rw [upd_ne hb]; exact eb) fun _ => upd_upd
    · exact atT H2 I2 e eb fun _ => rfl
theorem PR.pre {α : Type} {K : PySem.W.Frag} {M M1 : List Addr} {H H1 : Hp} {st st1 : Sto} {r : R α} {Q : α → List Addr → Sto → Hp → Prop} (h : PR K M H st r W Q) (p1 : M <+: M1) (s : Step (Lv M st) H (Lv M1 st1) H1) : PR K M1 H1 st1 r W Q := by
  cases r with
  | ok a st1 => exact fun M' H' p sr s' => h M' H' (p1.trans p) sr (s.trans s')
  | exc x st1 => exact fun M' H' p sr s' => h M' H' (p1.trans p) sr (s.trans s')
  | bad => exact h
theorem prefix_at {α : Type} {l l' : List α} {n : Nat} {a : α} (p : l <+: l') (h : l[n]? = some a) : l'[n]? = some a := by
  obtain ⟨t, rfl⟩ := p
  rw [List.getElem?_append_left (List.getElem?_eq_some_iff.mp h).1]; exact h
theorem se_dic1 {k v : Expr} {pos : Pos} {tk tv : Mi.T} (hu : X.A.units + 100 < cLine) (hk : PE X k (tE X.K C W tk)) (hv : PE X v (tE X.K C W tv)) : PE X (.Dict [some k] [v] pos) (tE X.K C W (.dic (.cons tk (.cons tv .nil)))) := by
  refine cvE (pe_disp1 hu hk hv) fun σ H Q ⟨M, env, st, er, sr, h⟩ => ?_
  rw [ev, evs] at h
  intro p hp
  obtain ⟨s0, sr0⟩ := sr.push (o := .dic []) (u := .dK []) hp (.inl ⟨[], rfl, rfl, .nil⟩)
  have p0 := List.prefix_append M [p]
  have er0 := er.mono p0 s0
  refine ⟨M ++ [p], env, st ++ [.dic []], er0, sr0, (PR.bind (PR.bind (h.pre p0 s0))).imp fun x M1 st1 H1 p1 sr1 s1 h v1 r1 => ?_⟩
  rw [evs] at h
  refine ⟨M1, env, st1, er0.mono p1 s1, sr1, (PR.bind (PR.bind h)).imp fun y M2 st2 H2 p2 sr2 s2 h v2 r2 => ?_⟩
  rw [evs] at h
  have h := PR.here (a := [x, y]) sr2 (PR.here (a := [y]) sr2 h)
  have r1' := r1.mono p2 s2
  cases x with
  | ref n => exact h.elim
  | val dk =>
    cases y with
    | ref n => exact h.elim
    | val dv =>
      have h' : PR X.K M2 H2 st2 (if keysA [(dk, dv)] || keysT [(dk, dv)] then (match st2[st.length]? with
        | some (.dic []) => .ok (.ref st.length) (st2.set st.length (.dic (puts [] [(dk, dv)])))
        | _ => .bad) else .bad) W (QV X.K Q) := h
      cases e1 : keysA [(dk, dv)] || keysT [(dk, dv)] with
      | false => rw [e1] at h'; exact h'.elim
      | true =>
        rw [e1, if_pos rfl] at h'
        have hM : M2[st.length]? = some p := prefix_at (p1.trans p2) (by rw [← sr.len]; simp)
        cases e2 : st2[st.length]? with
        | none => rw [e2] at h'; exact h'.elim
        | some o =>
          rw [e2] at h'
          match o, e2, h' with
          | .dic [], e2, h' =>
            have ob := sr2.obj _ _ p e2 hM
            have hp2 : H2 p = some (.dK []) ∨ H2 p = some (.dT []) := by
              rcases ob with ⟨ks, e, q, _⟩ | ⟨ks, e, q, _⟩
              · rw [keys_nil q] at e; exact .inl e
              · rw [keys_nil q] at e; exact .inr e
            refine ⟨hp2, ?_⟩
            have fin : ∀ u, RpU X.K (Lv M2 st2) H2 u (.dic (puts [] [(dk, dv)])) → Q (.ref p) (upd H2 p u) := fun u new => by
              obtain ⟨s3, sr3⟩ := sr2.write hM e2 (by simp) new
              exact h' M2 _ (List.prefix_refl _) sr3 s3 _ ⟨p, rfl, hM⟩
            rcases Bool.or_eq_true_iff.mp e1 with e | e
            · have e' := (Bool.and_eq_true_iff.mp e).1
              obtain ⟨q, rfl, rfl⟩ := keyA_of r1' e'
              exact .inl ⟨q, rfl, fin _ (put_nilK q r2)⟩
            · have e' := (Bool.and_eq_true_iff.mp e).1
              obtain ⟨q, b, rfl, eb, rfl⟩ := keyT_of r1' e'
              exact .inr ⟨q, b, rfl, eb, fin _ (put_nilT q r2)⟩
end
end MiS

namespace MiS
open PySem PySem.Spec PyProof.Rows L2 Mi MiG
variable [Tb]
/-! ### targets -/
abbrev QE (K : PySem.W.Frag) (Q : L2.St → Hp → Prop) : En → List Addr → Sto → Hp → Prop := fun env M st H => ∀ σ, ER K M (Lv M st) H env σ → Q σ H
def tG (K : PySem.W.Frag) (C : Cn) (W : Wish) (t : T) : TG := fun v σ H Q => ∃ M env st r, ER K M (Lv M st) H env σ ∧ SR K M H st ∧ RVp K M (Lv M st) H v r ∧ PR K M H st (asgn C t r env st) W (QE K Q)
def tGs (K : PySem.W.Frag) (C : Cn) (W : Wish) (t : T) : TGs := fun vs σ H Q => ∃ M env st ds, ER K M (Lv M st) H env σ ∧ SR K M H st ∧ RpL K (Lv M st) H vs ds ∧ PR K M H st (asgs C t ds env st) W (QE K Q)
section
variable {X : Cx} {C : Cn} {W : Wish} {K : PySem.W.Frag}
theorem cvG {e : Expr} {t t' : TG} (h : PG X e t) (c : ∀ v σ H Q, t' v σ H Q → t v σ H Q) : PG X e t' := ⟨fun pins s σ H v u Q I r q => h.run pins s σ H v u Q I r (c v σ H Q q)⟩
theorem cvGs {e : List Expr} {t t' : TGs} (h : PGs X e t) (c : ∀ v σ H Q, t' v σ H Q → t v σ H Q) : PGs X e t' := ⟨fun pins s σ H v u Q I r q => h.run pins s σ H v u Q I r (c v σ H Q q)⟩
theorem sg_name {i : Nat} {x : Str} {pos : Pos} (hN : X.N.Nodup) (hi : X.N[i]? = some x) (hx : Loc X.env.scope x) (hf : X.fn x = true ∨ X.env.scope.names.lookup x = some .local) : PG X (.Name x pos) (tG X.K C W (.tname i)) := by
  refine cvG (pg_name hN hi hx hf) fun v σ H Q ⟨M, env, st, r, er, sr, rv, h⟩ => ?_
  rw [asgn] at h
  exact PR.here sr h _ (er.set i rv)
theorem sgs_nil : PGs X [] (tGs X.K C W .nil) := by
  refine cvGs pgs_nil fun vs σ H Q ⟨M, env, st, ds, er, sr, rl, h⟩ => ?_
  cases ds with
  | nil => cases rl; rw [asgs] at h; exact ⟨rfl, PR.here sr h _ er⟩
  | cons d ds => rw [asgs] at h; exact h.elim; all_goals simp
theorem sgs_cons {e : Expr} {es : List Expr} {t ts : Mi.T} (h1 : PG X e (tG X.K C W t)) (h2 : PGs X es (tGs X.K C W ts)) (hs : (assignEach (e :: es) X.env).map (·.2) = assign e X.env :: (assignEach es X.env).map (·.2)) : PGs X (e :: es) (tGs X.K C W (.cons t ts)) := by
  refine cvGs (pgs_cons h1 h2 hs) fun vs σ H Q ⟨M, env, st, ds, er, sr, rl, h⟩ => ?_
  cases ds with
  | nil => rw [asgs] at h; exact h.elim; all_goals simp
  | cons d ds =>
    cases rl with
    | cons r1 r2 =>
      rw [asgs] at h
      refine ⟨_, _, rfl, M, env, st, .val d, er, sr, r1, (PR.bind h).imp fun env1 M1 st1 H1 p1 sr1 s1 h σ1 er1 => ?_⟩
      exact ⟨M1, env1, st1, ds, er1, sr1, r2.mono s1, h⟩
theorem sg_tup {es : List Expr} {k : Nat} {pos : Pos} {ts : Mi.T} (hc : X.calm = true) (h : PGs X es (tGs X.K C W ts)) (hn : (assignEach es X.env).length = tlen ts) (hst : (assignEach es X.env).findIdx? (·.1) = none) : PG X (.Tuple es k pos) (tG X.K C W (.ttup ts)) := by
  refine cvG (pg_tup hc h hn hst) fun v σ H Q ⟨M, env, st, r, er, sr, rv, h⟩ => ?_
  rw [asgn.eq_def] at h
  cases r with
  | ref n => exact h.elim
  | val d =>
    cases d with
    | tuple ds =>
      have h' : PR X.K M H st (if tlen ts = ds.length then asgs C ts ds env st else .bad) W (QE X.K Q) := h
      by_cases e : tlen ts = ds.length
      · rw [if_pos e] at h'
        obtain ⟨a, xs, rfl, ra, pa⟩ := (show Cp X.K (Lv M st) H v (.tuple ds) from .inl rv).tup
        exact ⟨a, xs, rfl, ra, by rw [pa.len, e], M, env, st, ds, er, sr, pa, h'⟩
      · rw [if_neg e] at h'; exact h'.elim
    | _ => exact h.elim
theorem PSet.or {t1 t2 : TSet} (h1 : PSet X t1) (h2 : PSet X t2) : PSet X (fun o i v H Q => t1 o i v H Q ∨ t2 o i v H Q) := by
  intro pins s σ H o i v ov iv u Q I ro ri rv h
  rcases h with h | h
  · exact h1 pins s σ H o i v ov iv u Q I ro ri rv h
  · exact h2 pins s σ H o i v ov iv u Q I ro ri rv h
def rSetD' : TSet := fun o i v H Q => ∃ a H', o = .ref a ∧ DPut' H a i v H' ∧ Q H'
theorem set_dict' (hu : X.A.units + 100 < cLine) : PSet X rSetD' := by
  intro pins s σ H o i v ov iv u Q I ro ri rv h
  obtain ⟨a, H', rfl, g, q⟩ := h
  cases (show ov = Value.ref a from ro)
  exact d_setItem' (by omega) I g ri rv fun s' I' => ⟨H', I', q⟩
def rSetA : TSet := fun o i v H Q => rSetL o i v H Q ∨ rSetD' o i v H Q
theorem set_any (hu : X.A.units + 100 < cLine) : PSet X rSetA := PSet.or set_list (set_dict' hu)
/-- o[k] = d -/
theorem set_end {M : List Addr} {H : Hp} {st : Sto} {n : Nat} {a : Addr} {o o' : O} {y v : V} {k d : D} (sr : SR K M H st) (hM : M[n]? = some a) (hs : st[n]? = some o) (ry : Rp K (Lv M st) H y k) (rv : Rp K (Lv M st) H v d) (e : setO o k d = some o') {Q : Hp → Prop}
    (w : ∀ H', Step (Lv M st) H (Lv M (st.set n o')) H' → SR K M H' (st.set n o') → Q H') : rSetA (.ref a) y v H Q := by
  have ob := sr.obj n o a hs hM
  cases o with
  | lst xs =>
    cases k with
    | int i =>
      obtain ⟨j, e1, rfl⟩ := Option.map_eq_some_iff.mp e
      obtain ⟨ys, ha, rl⟩ := ob
      cases ry
      obtain ⟨s, sr'⟩ := sr.write (o' := .lst (xs.set j d)) (u := .lst (ys.set j v)) hM hs (by simp) ⟨_, rfl, rl.set rv j⟩
      exact .inl ⟨a, ys, i, j, rfl, rfl, ha, by rw [rl.len]; exact e1, w _ s sr'⟩
    | _ => cases e
  | dic kvs =>
    have e' : (if keyOk kvs k && sizeOk (kvs.length + 1) then some (O.dic (put kvs k d)) else none) = some o' := by cases k <;> exact e
    split at e'
    · rename_i h3
      cases e'
      have h3 := Bool.and_eq_true_iff.mp h3
      have hsz := sizeOk_ok h3.2
      right
      rcases dic_key ob ry h3.1 with ⟨vs, q, ha, rfl, rfl, ek, rl⟩ | ⟨vs, q, b, ha, rfl, eb, rfl, ek, rl⟩ | ⟨q, b, ha, rfl, rfl, eb, rfl⟩ | ⟨q, ha, rfl, rfl, rfl⟩
      · obtain ⟨g1, g2⟩ := put_put (g := kD) deq_kD q rv ek rl
        obtain ⟨s, sr'⟩ := sr.write (o' := .dic (put kvs (kD q) d)) (u := .dK (putK vs q v)) hM hs (by simp) (.inl ⟨_, rfl, g1, g2⟩)
        exact ⟨a, _, rfl, .inl (.inl ⟨vs, q, ha, rfl, by rw [map_len ek]; omega, rfl⟩), w _ s sr'⟩
      · obtain ⟨g1, g2⟩ := put_put (g := kDs) deq_kDs q rv ek rl
        obtain ⟨s, sr'⟩ := sr.write (o' := .dic (put kvs (kDs q) d)) (u := .dT (putK vs q v)) hM hs (by simp) (.inr ⟨_, rfl, g1, g2⟩)
        exact ⟨a, _, rfl, .inl (.inr ⟨vs, q, b, ha, rfl, eb, by rw [map_len ek]; omega, rfl⟩), w _ s sr'⟩
      · obtain ⟨s, sr'⟩ := sr.write (o' := .dic (put [] (kDs q) d)) hM hs (by simp) (put_nilT q rv)
        exact ⟨a, _, rfl, .inr (.inl ⟨q, b, ha, rfl, eb, rfl⟩), w _ s sr'⟩
      · obtain ⟨s, sr'⟩ := sr.write (o' := .dic (put [] (kD q) d)) hM hs (by simp) (put_nilK q rv)
        exact ⟨a, _, rfl, .inr (.inr ⟨q, ha, rfl, rfl⟩), w _ s sr'⟩
    · cases e'
  | tpl _ => cases k <;> cases e
  | dead => cases k <;> cases e
def okSub (o i : Expr) : Bool := true
theorem sg_sub {o i : Expr} {to ti : Mi.T} {pos : Pos} (hu : X.A.units + 100 < cLine) (ho : PE X o (tE X.K C W to)) (hi : PE X i (tE X.K C W ti))
    (ha : ∀ v, assign (.Subscript o i pos) X.env v = (do
      let ov ← holding [v] (eval o X.env)
      let iv ← holding [v, ov] (eval i X.env)
      standAt pos
      holding [v, ov, iv] (setItem ov iv v)
      release [v, ov, iv] [])) : PG X (.Subscript o i pos) (tG X.K C W (.tsub to ti)) := by
  refine cvG (pg_sub ho hi (set_any hu) ha) fun v σ H Q ⟨M, env, st, r, er, sr, rv, h⟩ => ?_
  rw [asgn] at h
  refine ⟨M, env, st, er, sr, (PR.bind h).imp fun x M1 st1 H1 p1 sr1 s1 h v1 r1 => ?_⟩
  refine ⟨M1, env, st1, er.mono p1 s1, sr1, (PR.bind h).imp fun y M2 st2 H2 p2 sr2 s2 h v2 r2 => ?_⟩
  cases x with
  | val _ => exact h.elim
  | ref n =>
    cases y with
    | ref _ => exact h.elim
    | val k =>
      cases r with
      | ref _ => exact h.elim
      | val d =>
        cases e : st2[n]? with
        | none => simp only [e] at h; exact h.elim
        | some o =>
          simp only [e] at h
          cases e2 : setO o k d with
          | none => simp only [e2] at h; exact h.elim
          | some o' =>
            simp only [e2] at h
            obtain ⟨a, rfl, hM⟩ := r1.mono p2 s2
            refine set_end sr2 hM e r2 (Rp.mono s2 (Rp.mono s1 rv)) e2 fun H' s sr' => ?_
            exact h M2 H' (List.prefix_refl _) sr' s _ (((er.mono p1 s1).mono p2 s2).mono (List.prefix_refl _) s)
end
end MiS

namespace MiS
open PySem PySem.Spec PyProof.Rows L2 Mi MiG
variable [Tb]
section
variable {X : Cx} {C : Cn} {W : Wish} {K : PySem.W.Frag}
/-- a, b, c = x, y, z with plain local names: stored from the right -/
def tPar3 (i j l : Nat) (ta : TA) : TS := fun D σ H => ta σ H fun vs H1 => ∃ v w z, vs = [v, w, z] ∧ D.nx (((σ.set i (some v)).set j (some w)).set l (some z)) H1
theorem ps_par3 {i j l : Nat} {x y z : Str} {a b c : Expr} {ta : TA} {pos px py pz pt : Pos} {kt k2 pt2} (hc : X.calm = true) (hN : X.N.Nodup) (hi : X.N[i]? = some x) (hj : X.N[j]? = some y) (hl : X.N[l]? = some z) (hij : i ≠ j) (hil : i ≠ l) (hjl : j ≠ l)
    (hx : X.env.scope.names.lookup x = some .local) (hy : X.env.scope.names.lookup y = some .local) (hz : X.env.scope.names.lookup z = some .local) (ha : PA X [a, b, c] ta)
    (hw : swappedStores [.Tuple [.Name x px, .Name y py, .Name z pz] kt pt] (.Tuple [a, b, c] k2 pt2) X.env = pure (some [x, y, z]))
    (hs : swapsWithSole [.Tuple [.Name x px, .Name y py, .Name z pz] kt pt] (.Tuple [a, b, c] k2 pt2) pos.line X.env = pure false := by rfl) :
    PS X (.Assign [.Tuple [.Name x px, .Name y py, .Name z pz] kt pt] (.Tuple [a, b, c] k2 pt2) pos) (tPar3 i j l ta) := by
  refine ⟨fun pins s σ H D I h => ?_⟩
  rw [exec_Assign_arm]
  refine wpAny_bind (wpAny_standAt ?_)
  rw [hs]
  refine wpAny_bind (wpAny_pure ?_)
  rw [if_neg (by decide)]
  refine wpAny_bind (Tuple_ (thn (ha.run _ pins s σ H _ I h) fun us s1 ⟨vs, H1, I1, r1, q1⟩ => ?_))
  obtain ⟨v, w, t, rfl, q1⟩ := q1
  obtain ⟨u1, u2, u3, rfl, rv, rw', rt⟩ := vals3 r1
  refine wpAny_newObj_type ?_ (by show 3 ≤ sizeLine; decide)
  have I2 : Inv X pins σ H1 { s1 with heap := s1.heap.push { cls := .type "tuple", data := .seq [u1, u2, u3].toArray } } := I1.kept (t' := s1.toks) fun b o e => Heap.get?_push_of_some _ e
  rw [hw]
  refine wpAny_bind (wpAny_pure ?_)
  show wpAny (model X.prog X.w) X.A (do rule "assign.swapped-stores"; let items ← unpackItems (.ref s1.heap.objs.size) 3 none; assignInOrder [fun v => bindName X.env z v, fun v => bindName X.env y v, fun v => bindName X.env x v] items.reverse; pure Flow.next) _ _ _
  refine wpAny_bind (wpAny_rule (wpAny_bind (unpackItems_tuple (items := #[u1, u2, u3]) (I.ok.hd hc) (IsTup.new s1.heap _) fun h' hx' => ?_)))
  have I3 := I2.kept (h' := h') (t' := s1.toks) fun b o e => hx' b o (Nat.ne_of_lt (Heap.lt_size e)) e
  show wpAny _ _ (assignInOrder [fun v => bindName X.env z v, fun v => bindName X.env y v, fun v => bindName X.env x v] [u3, u2, u1] >>= fun _ => pure Flow.next) _ _ _
  refine wpAny_bind (assignInOrder_cons (wpAny_bindName (store_ok I3 hN hl (.inl hz) rt (fun s2 I4 => ?_) (.inr hz))))
  refine assignInOrder_cons (wpAny_bindName (store_ok I4 hN hj (.inl hy) rw' (fun s3 I5 => ?_) (.inr hy)))
  refine assignInOrder_cons (wpAny_bindName (store_ok I5 hN hi (.inl hx) rv (fun s4 I6 => assignInOrder_nil (wpAny_pure ?_)) (.inr hx)))
  have e : ((σ.set l (some t)).set j (some w)).set i (some v) = ((σ.set i (some v)).set j (some w)).set l (some t) := by
    rw [List.set_comm (some w) (some v) (Ne.symm hij), List.set_comm (some t) (some v) (Ne.symm hil), List.set_comm (some t) (some w) (Ne.symm hjl)]
  rw [e] at I6
  exact ⟨_, H1, I6, q1⟩
/-! ### statements -/
def QF (K : PySem.W.Frag) (D : Ends) : Fl → List Addr → Sto → Hp → Prop
  | .nx env, M, st, H => ∀ σ, ER K M (Lv M st) H env σ → D.nx σ H
  | .rt r, M, st, H => ∀ v, RVp K M (Lv M st) H v r → D.rt v H
  | .bk env, M, st, H => ∀ σ, ER K M (Lv M st) H env σ → D.bk σ H
  | .ct env, M, st, H => ∀ σ, ER K M (Lv M st) H env σ → D.ct σ H
def tS (K : PySem.W.Frag) (C : Cn) (W : Wish) (t : Mi.T) : TS := fun D σ H => ∃ M env st, ER K M (Lv M st) H env σ ∧ SR K M H st ∧ PR K M H st (ex C t env st) W (QF K D)
def tSs (K : PySem.W.Frag) (C : Cn) (W : Wish) (t : Mi.T) : TS := fun D σ H => ∃ M env st, ER K M (Lv M st) H env σ ∧ SR K M H st ∧ PR K M H st (exs C t env st) W (QF K D)
theorem cvS {e : Stmt} {t t' : TS} (h : PS X e t) (c : ∀ D σ H, t' D σ H → t D σ H) : PS X e t' := ⟨fun pins s σ H D I q => h.run pins s σ H D I (c D σ H q)⟩
theorem cvSs {e : List Stmt} {t t' : TS} (h : PSs X e t) (c : ∀ D σ H, t' D σ H → t D σ H) : PSs X e t' := ⟨fun pins s σ H D I q => h.run pins s σ H D I (c D σ H q)⟩
theorem ss_nil : PSs X [] (tSs X.K C W .nil) := by
  refine cvSs pss_nil fun D σ H ⟨M, env, st, er, sr, h⟩ => ?_
  rw [exs] at h
  exact PR.here sr h σ er
theorem ss_cons {e : Stmt} {es : List Stmt} {t ts : Mi.T} (h1 : PS X e (tS X.K C W t)) (h2 : PSs X es (tSs X.K C W ts)) : PSs X (e :: es) (tSs X.K C W (.cons t ts)) := by
  refine cvSs (pss_cons h1 h2) fun D σ H ⟨M, env, st, er, sr, h⟩ => ?_
  rw [exs] at h
  refine ⟨M, env, st, er, sr, (PR.bind h).imp fun f M1 st1 H1 p1 sr1 s1 h => ?_⟩
  cases f with
  | nx env1 => exact fun σ1 er1 => ⟨M1, env1, st1, er1, sr1, h⟩
  | rt r => exact PR.here (W := W) (a := Fl.rt r) (Q := QF X.K D) sr1 h
  | bk env1 => exact PR.here (W := W) (a := Fl.bk env1) (Q := QF X.K D) sr1 h
  | ct env1 => exact PR.here (W := W) (a := Fl.ct env1) (Q := QF X.K D) sr1 h
theorem ss_pass {pos : Pos} : PS X (.Pass pos) (tS X.K C W .pass) := by
  refine cvS ps_pass fun D σ H ⟨M, env, st, er, sr, h⟩ => ?_
  rw [ex] at h
  exact PR.here (a := Fl.nx env) sr h σ er
theorem ss_brk {pos : Pos} : PS X (.Break pos) (tS X.K C W .brk) := by
  refine cvS ps_break fun D σ H ⟨M, env, st, er, sr, h⟩ => ?_
  rw [ex] at h
  exact PR.here (a := Fl.bk env) sr h σ er
theorem ss_cnt {pos : Pos} : PS X (.Continue pos) (tS X.K C W .cnt) := by
  refine cvS ps_continue fun D σ H ⟨M, env, st, er, sr, h⟩ => ?_
  rw [ex] at h
  exact PR.here (a := Fl.ct env) sr h σ er
theorem ss_expr {e : Expr} {te : Mi.T} {pos : Pos} (he : PE X e (tE X.K C W te)) (hs : swapsWith e none pos.line X.env = pure false) : PS X (.Expr e pos) (tS X.K C W (.xpr te)) := by
  refine cvS (ps_expr he hs) fun D σ H ⟨M, env, st, er, sr, h⟩ => ?_
  rw [ex] at h
  refine ⟨M, env, st, er, sr, (PR.bind h).imp fun r M1 st1 H1 p1 sr1 s1 h v rv => ?_⟩
  exact PR.here (a := Fl.nx env) sr1 h σ (er.mono p1 s1)
theorem ss_ret {e : Expr} {te : Mi.T} {pos : Pos} (he : PE X e (tE X.K C W te)) : PS X (.Return (some e) pos) (tS X.K C W (.ret (.cons te .nil))) := by
  refine cvS (ps_ret he) fun D σ H ⟨M, env, st, er, sr, h⟩ => ?_
  rw [ex] at h
  refine ⟨M, env, st, er, sr, (PR.bind h).imp fun r M1 st1 H1 p1 sr1 s1 h v rv => ?_⟩
  exact PR.here (a := Fl.rt r) sr1 h v rv
theorem ss_retN {pos : Pos} : PS X (.Return none pos) (tS X.K C W (.ret .nil)) := by
  refine cvS ps_retN fun D σ H ⟨M, env, st, er, sr, h⟩ => ?_
  rw [ex] at h
  exact PR.here (a := Fl.rt (.val .none)) sr h .non .non
theorem ss_if {c : Expr} {a b : List Stmt} {tc ta tb : Mi.T} {pos : Pos} (hc : PT X c (tB X.K C W tc)) (ha : PSs X a (tSs X.K C W ta)) (hb : PSs X b (tSs X.K C W tb)) : PS X (.If c a b pos) (tS X.K C W (.if_ tc ta tb)) := by
  refine cvS (ps_if hc ha hb) fun D σ H ⟨M, env, st, er, sr, h⟩ => ?_
  rw [ex] at h
  refine ⟨M, env, st, er, sr, (PR.bind h).imp fun k M1 st1 H1 p1 sr1 s1 h => ?_⟩
  cases k with
  | true => exact ⟨M1, env, st1, er.mono p1 s1, sr1, h⟩
  | false => exact ⟨M1, env, st1, er.mono p1 s1, sr1, h⟩
theorem ss_asg {tg e : Expr} {te tt : Mi.T} {pos : Pos} (he : PE X e (tE X.K C W te)) (hg : PG X tg (tG X.K C W tt)) (hs : swapsWithSole [tg] e pos.line X.env = pure false) (hw : swappedStores [tg] e X.env = pure none) (h1 : (assignEach [tg] X.env).map (·.2) = [assign tg X.env]) :
    PS X (.Assign [tg] e pos) (tS X.K C W (.asg tt te)) := by
  refine cvS (ps_asg he hg hs hw h1) fun D σ H ⟨M, env, st, er, sr, h⟩ => ?_
  rw [ex] at h
  refine ⟨M, env, st, er, sr, (PR.bind h).imp fun r M1 st1 H1 p1 sr1 s1 h v rv => ?_⟩
  refine ⟨M1, env, st1, r, er.mono p1 s1, sr1, rv, (PR.bind h).imp fun env2 M2 st2 H2 p2 sr2 s2 h σ2 er2 => ?_⟩
  exact PR.here (a := Fl.nx env2) sr2 h σ2 er2
theorem ss_while {c : Expr} {body : List Stmt} {tc tb : Mi.T} {pos : Pos} (hp : PassesOwn (model X.prog X.w) X.A X.env X.xe) (hc : PT X c (tB X.K C W tc)) (hb : PSs X body (tSs X.K C W tb)) : PS X (.While c body [] pos) (tS X.K C W (.whl tc tb)) := by
  refine cvS (ps_while hp hc hb) fun D σ H ⟨M, env, st, er, sr, h⟩ => ?_
  rw [ex] at h
  refine ⟨fun m σ H => ∃ M env st, ER X.K M (Lv M st) H env σ ∧ SR X.K M H st ∧ PR X.K M H st (loopW (tst C tc) (exs C tb) m env st) W (QF X.K D), ⟨C.wf, M, env, st, er, sr, h⟩, ?_⟩
  rintro m σ H ⟨M, env, st, er, sr, h⟩
  cases m with
  | zero => exact h.elim
  | succ m =>
    rw [loopW] at h
    refine ⟨M, env, st, er, sr, (PR.bind h).imp fun k M1 st1 H1 p1 sr1 s1 h => ?_⟩
    cases k with
    | false => exact PR.here (a := Fl.nx env) sr1 h σ (er.mono p1 s1)
    | true =>
      rw [if_pos rfl] at h
      show (if true = true then _ else _)
      rw [if_pos rfl]
      refine ⟨fun σ' H' => ∃ M env st, ER X.K M (Lv M st) H' env σ' ∧ SR X.K M H' st ∧ PR X.K M H' st (loopW (tst C tc) (exs C tb) m env st) W (QF X.K D), fun σ' H' q => ⟨m, Nat.lt_succ_self m, q⟩, M1, env, st1, er.mono p1 s1, sr1, (PR.bind h).imp fun f M2 st2 H2 p2 sr2 s2 h => ?_⟩
      cases f with
      | nx env2 => exact fun σ2 er2 => ⟨M2, env2, st2, er2, sr2, h⟩
      | ct env2 => exact fun σ2 er2 => ⟨M2, env2, st2, er2, sr2, h⟩
      | bk env2 => exact fun σ2 er2 => PR.here (a := Fl.nx env2) sr2 h σ2 er2
      | rt r => exact PR.here (W := W) (a := Fl.rt r) (Q := QF X.K D) sr2 h
/-! a, b = x, y -/
theorem rvs2 {M : List Addr} {L : Addr → Prop} {H : Hp} {vs : List V} {a b : RV} (h : RVs K M L H vs [a, b]) : ∃ v w, vs = [v, w] ∧ RVp K M L H v a ∧ RVp K M L H w b := by
  cases h with
  | cons h1 h => cases h with | cons h2 h => cases h; exact ⟨_, _, rfl, h1, h2⟩
theorem rvs3 {M : List Addr} {L : Addr → Prop} {H : Hp} {vs : List V} {a b c : RV} (h : RVs K M L H vs [a, b, c]) : ∃ v w z, vs = [v, w, z] ∧ RVp K M L H v a ∧ RVp K M L H w b ∧ RVp K M L H z c := by
  cases h with
  | cons h1 h => obtain ⟨w, z, rfl, h2, h3⟩ := rvs2 h; exact ⟨_, w, z, rfl, h1, h2, h3⟩
theorem ss_par2 {i j : Nat} {x y : Str} {a b : Expr} {te : Mi.T} {pos px py pt : Pos} {kt k2 pt2} (hc : X.calm = true) (hN : X.N.Nodup) (hi : X.N[i]? = some x) (hj : X.N[j]? = some y) (hij : i ≠ j)
    (hx : X.env.scope.names.lookup x = some .local) (hy : X.env.scope.names.lookup y = some .local) (ha : PA X [a, b] (tEs X.K C W te))
    (hw : swappedStores [.Tuple [.Name x px, .Name y py] kt pt] (.Tuple [a, b] k2 pt2) X.env = pure (some [x, y]))
    (hs : swapsWithSole [.Tuple [.Name x px, .Name y py] kt pt] (.Tuple [a, b] k2 pt2) pos.line X.env = pure false) :
    PS X (.Assign [.Tuple [.Name x px, .Name y py] kt pt] (.Tuple [a, b] k2 pt2) pos) (tS X.K C W (.par (.cons (.tname i) (.cons (.tname j) .nil)) te)) := by
  refine cvS (ps_par hc hN hi hj hij hx hy ha hw hs) fun D σ H ⟨M, env, st, er, sr, h⟩ => ?_
  rw [ex] at h
  refine ⟨M, env, st, er, sr, (PR.bind h).imp fun rs M1 st1 H1 p1 sr1 s1 h vs rv => ?_⟩
  match rs, rv, h with
  | [r1, r2], rv, h =>
    obtain ⟨v, w, rfl, h1, h2⟩ := rvs2 rv
    exact ⟨v, w, rfl, PR.here (a := Fl.nx ((env.set i (some r1)).set j (some r2))) sr1 h _ (((er.mono p1 s1).set i h1).set j h2)⟩
  | [], _, h => exact h.elim
  | [_], _, h => exact h.elim
  | _ :: _ :: _ :: _, _, h => exact h.elim
theorem ss_par3 {i j l : Nat} {x y z : Str} {a b c : Expr} {te : Mi.T} {pos px py pz pt : Pos} {kt k2 pt2} (hc : X.calm = true) (hN : X.N.Nodup) (hi : X.N[i]? = some x) (hj : X.N[j]? = some y) (hl : X.N[l]? = some z) (hij : i ≠ j) (hil : i ≠ l) (hjl : j ≠ l)
    (hx : X.env.scope.names.lookup x = some .local) (hy : X.env.scope.names.lookup y = some .local) (hz : X.env.scope.names.lookup z = some .local) (ha : PA X [a, b, c] (tEs X.K C W te))
    (hw : swappedStores [.Tuple [.Name x px, .Name y py, .Name z pz] kt pt] (.Tuple [a, b, c] k2 pt2) X.env = pure (some [x, y, z]))
    (hs : swapsWithSole [.Tuple [.Name x px, .Name y py, .Name z pz] kt pt] (.Tuple [a, b, c] k2 pt2) pos.line X.env = pure false) :
    PS X (.Assign [.Tuple [.Name x px, .Name y py, .Name z pz] kt pt] (.Tuple [a, b, c] k2 pt2) pos) (tS X.K C W (.par (.cons (.tname i) (.cons (.tname j) (.cons (.tname l) .nil))) te)) := by
  refine cvS (ps_par3 hc hN hi hj hl hij hil hjl hx hy hz ha hw hs) fun D σ H ⟨M, env, st, er, sr, h⟩ => ?_
  rw [ex] at h
  refine ⟨M, env, st, er, sr, (PR.bind h).imp fun rs M1 st1 H1 p1 sr1 s1 h vs rv => ?_⟩
  match rs, rv, h with
  | [r1, r2, r3], rv, h =>
    obtain ⟨v, w, z, rfl, h1, h2, h3⟩ := rvs3 rv
    exact ⟨v, w, z, rfl, PR.here (a := Fl.nx (((env.set i (some r1)).set j (some r2)).set l (some r3))) sr1 h _ ((((er.mono p1 s1).set i h1).set j h2).set l h3)⟩
  | [], _, h => exact h.elim
  | [_], _, h => exact h.elim
  | [_, _], _, h => exact h.elim
  | _ :: _ :: _ :: _ :: _, _, h => exact h.elim
end
end MiS

namespace MiS
open PySem PySem.Spec PyProof.Rows L2 Mi MiG
variable [Tb]
section
variable {X : Cx} {C : Cn} {W : Wish} {K : PySem.W.Frag}
theorem noI_tuple : typeLookup (.type "tuple") (dunderI "add") = pure none := by rw [typeLookup_type, builtinLookup_eq_fast]; kernel_rfl
theorem iop_catA : OpR X (inplaceOp .Add) (rCatA X.K) := by
  intro pins s σ H x y v u Q I rx ry h
  obtain ⟨a, b, xs, ys, rfl, rfl, ha, hb, hz, q0, q1, q2⟩ := h
  cases rx
  cases ry
  obtain ⟨its, r1, p1, _⟩ := I.tuple ha
  obtain ⟨its2, r2, p2, _⟩ := I.tuple hb
  obtain ⟨⟨cls, dd, data, sl⟩, ho, hc, n, hd⟩ := id p1
  obtain ⟨⟨cls2, dd2, data2, sl2⟩, ho2, hc2, n2, hd2⟩ := id p2
  simp only at hc hd hc2 hd2
  subst hc hd hc2 hd2
  have road : ∀ {S : PySem.Spec} (g : Meets (Builtin.«tuple.__add__» ⟨[.ref a, .ref b], []⟩) S), S X.A (wants (EP X pins σ Q) X.xe) s → wpAny (model X.prog X.w) X.A (inplaceOp .Add (.ref a) (.ref b)) (EP X pins σ Q) X.xe s := fun g h =>
    wpAny_inplaceOp_concat ⟨_, ho, rfl⟩ ⟨_, ho2, rfl⟩ noI_tuple noFill_tuple_add seq_tuple_add (call_meets PySem.F.slot_tuple_add ⟨_, ho, rfl⟩ PySem.F.entry_tuple_add (PySem.F.args_tuple_add_2 _ _) g h)
  have e : its.toArray ++ its2.toArray = (its ++ its2).toArray := by simp
  by_cases hx : xs = []
  · have hi : its = [] := by subst hx; cases r1; rfl
    exact road (tuple_addW0 a b its.toArray its2.toArray n n2 dd dd2 sl sl2 (by simp [hi])) ⟨ho, ho2, .ref b, H, I, rfl, q0 hx⟩
  · have hi : its ≠ [] := fun z => hx (r1.nil_iff.mp z)
    by_cases hy : ys = []
    · have hi2 : its2 = [] := r2.nil_iff.mpr hy
      exact road (tuple_addW1 a b its.toArray its2.toArray n n2 dd dd2 sl sl2 (by simpa using hi) (by simp [hi2])) ⟨ho, ho2, .ref a, H, I, rfl, q1 hx hy⟩
    · have hi2 : its2 ≠ [] := fun z => hy (r2.nil_iff.mp z)
      refine road (tuple_addW2 a b its.toArray its2.toArray n n2 dd dd2 sl sl2 (by simpa using hi) (by simpa using hi2) (by rw [List.size_toArray, List.size_toArray, ← r1.length, ← r2.length]; exact hz)) ⟨ho, ho2, ?_⟩
      rw [e]
      refine ⟨.ref s.heap.objs.size, _, I.laid (t' := s.toks) (o := .tup (xs ++ ys)) (fun b ob q => Heap.get?_push_of_some _ q) (Nat.le_refl _) ?_, rfl, q2 hx hy _ (I.hok.fresh (Nat.le_refl _))⟩
      exact ⟨by rw [List.length_append]; exact hz, _, r1.append r2, IsTup.new _ _⟩
def rIop (K : PySem.W.Frag) : Op → R2
  | .add => fun x y H Q => rI0 (fun i j => .int (i + j)) x y H Q ∨ rStrAdd x y H Q ∨ rCatA K x y H Q
  | .sub => rI0 fun i j => .int (i - j)
  | .mul => rI CMul fun i j => .int (i * j)
  | _ => fun _ _ _ _ => False
theorem iop_ok (o : Op) : OpR X (inplaceOp (pyOp o)) (rIop X.K o) := by
  cases o with
  | add => exact iop_add.or (iop_add_str.or iop_catA)
  | sub => exact iop_sub
  | mul => exact iop_mul
  | _ => exact fun pins s σ H x y v u Q I rx ry h => h.elim
theorem iop_end {M : List Addr} {H : Hp} {st : Sto} (sr : SR K M H st) {o : Op} {v u : V} {x y z : D} (c1 : Cp K (Lv M st) H v x) (c2 : Cp K (Lv M st) H u y) (ok : iopOk o x = true) (e : bop o x y = some z) {Q : VK} (w : Wants K M H st z Q) : rIop K o v u H Q := by
  cases o with
  | add =>
    cases x <;> cases y <;> first
      | (exfalso; simp [bop] at e; done)
      | (exfalso; simp [iopOk] at ok; done)
      | skip
    · cases e
      cases c1.int; cases c2.int
      exact .inl ⟨_, _, rfl, rfl, w.int sr⟩
    · cases c1.str; cases c2.str
      simp only [bop] at e
      split at e
      · cases e
        rename_i hz
        exact .inr (.inl ⟨_, _, rfl, rfl, sizeOk_ok hz, w.str sr⟩)
      · cases e
    · have k1 := c1.rt
      have k2 := c2.rt
      obtain ⟨a, xs, rfl, ra, pa⟩ := c1.tup
      obtain ⟨b, ys, rfl, rb, pb⟩ := c2.tup
      simp only [bop] at e
      split at e
      · cases e
        rename_i hz
        refine .inr (.inr ⟨a, b, xs, ys, rfl, rfl, ra, rb, ?_, fun e0 => ?_, fun _ e0 => ?_, fun _ _ => w.tup sr (pa.app pb)⟩)
        · rw [pa.len, pb.len]; exact sizeOk_ok hz
        · subst e0
          cases pa
          exact w.here sr k2
        · subst e0
          cases pb
          rw [List.append_nil] at w
          exact w.here sr k1
      · cases e
  | sub =>
    cases x <;> cases y <;> first
      | (exfalso; simp [bop] at e; done)
      | (exfalso; simp [iopOk] at ok; done)
      | skip
    cases e
    cases c1.int; cases c2.int
    exact ⟨_, _, rfl, rfl, w.int sr⟩
  | mul =>
    cases x <;> cases y <;> first
      | (exfalso; simp [bop] at e; done)
      | (exfalso; simp [iopOk] at ok; done)
      | skip
    cases c1.int; cases c2.int
    simp only [bop] at e
    split at e
    · cases e
      rename_i hz
      refine ⟨_, _, rfl, rfl, ?_, w.int sr⟩
      unfold CMul
      rcases Bool.or_eq_true_iff.mp hz with h | h
      · have := Bool.and_eq_true_iff.mp h
        exact .inl ⟨of_decide_eq_true this.1, of_decide_eq_true this.2⟩
      · have := Bool.and_eq_true_iff.mp h
        exact .inr ⟨of_decide_eq_true this.1, of_decide_eq_true this.2⟩
    · cases e
  | _ => cases ok
theorem aug_end {M : List Addr} {H : Hp} {st : Sto} (sr : SR K M H st) {o : Op} {v u : V} {x y : RV} {z : D} (r1 : RVp K M (Lv M st) H v x) (r2 : RVp K M (Lv M st) H u y) (e : Mi.augR o x y st = some z) {Q : VK} (w : Wants K M H st z Q) : rIop K o v u H Q := by
  cases x with
  | ref n => cases e
  | val a =>
    cases e2 : content st y with
    | none => simp only [Mi.augR, e2] at e; cases e
    | some b =>
      simp only [Mi.augR, e2] at e
      split at e
      · rename_i ok
        exact iop_end sr (.inl r1) (content_cp sr r2 e2) ok e w
      · cases e
theorem ss_aug {i : Nat} {x : Str} {e : Expr} {te : Mi.T} {o : Op} {pos pos' : Pos} (hN : X.N.Nodup) (hi : X.N[i]? = some x) (hx : Loc X.env.scope x) (hf : X.fn x = true ∨ X.env.scope.names.lookup x = some .local) (he : PE X e (tE X.K C W te)) :
    PS X (.AugAssign (.Name x pos') (pyOp o) e pos) (tS X.K C W (.aug i o te)) := by
  refine cvS (ps_aug (ti := rIop X.K o) hN hi hx he (iop_ok o) hf) fun D σ H ⟨M, env, st, er, sr, h⟩ => ?_
  rw [ex] at h
  cases e0 : env[i]? with
  | none => simp only [e0] at h; exact h.elim
  | some o0 =>
    cases o0 with
    | none => simp only [e0] at h; exact h.elim
    | some r0 =>
      simp only [e0] at h
      obtain ⟨v0, h1, h2⟩ := er.at_ i r0 e0
      refine ⟨v0, h1, M, env, st, er, sr, (PR.bind h).imp fun y M1 st1 H1 p1 sr1 s1 h v1 r1 => ?_⟩
      cases e3 : Mi.augR o r0 y st1 with
      | none => simp only [e3] at h; exact h.elim
      | some z =>
        simp only [e3] at h
        refine aug_end sr1 (h2.mono p1 s1) r1 e3 fun H' v sr' s' r' => ?_
        exact h M1 H' (List.prefix_refl _) sr' s' _ (((er.mono p1 s1).mono (List.prefix_refl _) s').set i r')
end
end MiS

namespace MiS
open PySem PySem.Spec PyProof.Rows L2 Mi MiG
variable [Tb]
section
variable {X : Cx} {C : Cn} {W : Wish} {K : PySem.W.Frag}
/-! ### o[i] op= e -/
def rGetA (K : PySem.W.Frag) : V → V → Hp → VK → Prop := fun x y H Q => rIxL K x y H Q ∨ rIxDc x y H Q
theorem get_any (hu : X.A.units + 100 < cLine) : PGet X (rGetA X.K) := by
  intro pins s σ H x y v u Q I rx ry h
  rcases h with ⟨p, xs, i, z, rfl, rfl, hq, he, q⟩ | ⟨a, z, rfl, g, q⟩
  · cases rx
    obtain ⟨t, rfl⟩ := ry
    obtain ⟨its, r, pl, hz⟩ := I.list hq
    obtain ⟨j, h1, h2, h3, h4, h5⟩ := atI_get he
    obtain ⟨w, ew, rw'⟩ := r.get h2
    have hl := r.length
    have hn := line63
    have fin : EP X pins σ Q w s := ⟨z, H, I, rw', q⟩
    by_cases h0 : 0 ≤ i
    · have hj : i.toNat = j := by
        rw [seqIndex_of h0 h5] at h1
        exact Option.some.inj h1
      exact wpAny_getItem_list pl.isList h0 (by omega) (by rw [hj]; simpa using ew) fin
    · have hj : (i + (its.toArray.size : Int)).toNat = j := by
        rw [seqIndex_neg (by omega) h4] at h1
        rw [List.size_toArray, ← hl]
        exact Option.some.inj h1
      exact wpAny_getItem_list_neg pl.isList (by omega) (by rw [List.size_toArray] <;> omega) (by omega) (by rw [hj]; simpa using ew) fin
  · cases (show v = Value.ref a from rx)
    exact d_getItem (by omega) I g ry fun w' s' I' r => ⟨z, H, I', r, q⟩
theorem get_end {M : List Addr} {H : Hp} {st : Sto} (sr : SR K M H st) {n : Nat} {v u : V} {x y z : D} (rv : RVp K M (Lv M st) H v (.ref n)) (e1 : content st (.ref n) = some x) (r2 : Rp K (Lv M st) H u y) (e : item x y = some z) {Q : VK} (w : ∀ o, Rp K (Lv M st) H o z → Q o H) : rGetA K v u H Q := by
  have c1 := content_cp sr rv e1
  cases x with
  | list ds =>
    cases y <;> first
      | (exfalso; simp [item] at e; done)
      | skip
    obtain ⟨a, xs, rfl, ra, pa⟩ := c1.list
    cases r2
    obtain ⟨o, h1, h2⟩ := pa.at e
    exact .inl ⟨a, xs, _, o, rfl, rfl, .inl ra, h1, w o h2⟩
  | dict ds =>
    obtain ⟨a, rfl, c⟩ := c1.dict
    have e' : (if keyOk ds y then look ds y else none) = some z := by cases y <;> exact e
    split at e'
    · rename_i hk
      rcases dgot c r2 hk with ⟨o, d, g1, g2, g3⟩ | ⟨g1, g2⟩
      · rw [g2] at e'
        cases e'
        rcases g1 with g1 | ⟨g1, _⟩ | ⟨g1, _⟩
        · exact .inr ⟨a, o, rfl, g1, w o g3⟩
        · cases g1
        · cases g1
      · rw [g2] at e'; cases e'
    · cases e'
  | _ =>
    exfalso
    obtain ⟨a, rfl, hM⟩ := rv
    cases q : st[n]? with
    | none => simp only [content, q] at e1; cases e1
    | some o => simp only [content, q] at e1; cases o <;> cases e1
theorem ss_augs {o i e : Expr} {to ti te : Mi.T} {p : Op} {tpos pos : Pos} (hu : X.A.units + 100 < cLine) (ho : PE X o (tE X.K C W to)) (hi : PE X i (tE X.K C W ti)) (he : PE X e (tE X.K C W te))
    (ha : ∀ ov iv new, augStore i ov iv new = (do holding [new, ov, iv] (setItem ov iv new); release [new, ov, iv] []; pure .next)) : PS X (.AugAssign (.Subscript o i tpos) (pyOp p) e pos) (tS X.K C W (.augs to ti p te)) := by
  refine cvS (ps_augS ho hi (get_any hu) he (iop_ok p) (set_any hu) ha) fun D σ H ⟨M, env, st, er, sr, h⟩ => ?_
  rw [ex] at h
  refine ⟨M, env, st, er, sr, (PR.bind h).imp fun x M1 st1 H1 p1 sr1 s1 h v1 r1 => ?_⟩
  have er1 := er.mono p1 s1
  refine ⟨M1, env, st1, er1, sr1, (PR.bind h).imp fun k M2 st2 H2 p2 sr2 s2 h v2 r2 => ?_⟩
  have er2 := er1.mono p2 s2
  have r1' := r1.mono p2 s2
  cases x with
  | val _ => exact h.elim
  | ref n =>
    cases k with
    | ref _ => exact h.elim
    | val k =>
      cases e1 : content st2 (.ref n) with
      | none => simp only [e1] at h; exact h.elim
      | some c =>
       simp only [e1] at h
       cases e2 : item c k with
       | none => simp only [e2] at h; exact h.elim
       | some old =>
        simp only [e2] at h
        refine get_end sr2 r1' e1 r2 e2 fun w rw_ => ?_
        refine ⟨M2, env, st2, er2, sr2, (PR.bind h).imp fun y M3 st3 H3 p3 sr3 s3 h v3 r3 => ?_⟩
        cases e3 : Mi.augR p (.val old) y st3 with
        | none => simp only [e3] at h; exact h.elim
        | some z =>
          simp only [e3] at h
          refine aug_end (x := .val old) sr3 (Rp.mono s3 rw_) r3 e3 fun H4 v4 sr4 s4 r4 => ?_
          cases e4 : st3[n]? with
          | none => simp only [e4] at h; exact h.elim
          | some ob =>
            simp only [e4] at h
            cases e5 : setO ob k z with
            | none => simp only [e5] at h; exact h.elim
            | some o' =>
              simp only [e5] at h
              obtain ⟨a, rfl, hM⟩ := (r1'.mono p3 s3).mono (List.prefix_refl _) s4
              refine set_end sr4 hM e4 (Rp.mono s4 (Rp.mono s3 r2)) r4 e5 fun H5 s5 sr5 => ?_
              exact (h.pre (List.prefix_refl _) s4) M3 H5 (List.prefix_refl _) sr5 s5 _ (((er2.mono p3 s3).mono (List.prefix_refl _) s4).mono (List.prefix_refl _) s5)
end
end MiS

namespace MiG
open PySem PySem.Spec PyProof.Rows L2
open AutoSeq1 (wpAny_loadPart')
/-! ### what is walked: a list, a tuple, a text; enumerate of a tuple -/
set_option maxHeartbeats 1000000 in
theorem newEnumT (l : Addr) (items : Array Value) (n : Nat) (dct : Option Addr) (sl : Array (Option Value)) :
    Meets (Builtin.«enumerate.__new__» ⟨[.type "enumerate", .ref l], []⟩) (fun _ R s => s.heap.get? l = some { cls := .type "tuple", dict := dct, data := .seq items n, slots := sl } ∧
      R (.ok (.ret (.ref (s.heap.push { cls := .type "tuple_iterator", data := .fields #[.ref l, .int 0 0] }).objs.size)))
        { s with heap := (s.heap.push { cls := .type "tuple_iterator", data := .fields #[.ref l, .int 0 0] }).push { cls := .type "enumerate", data := .fields #[.none, .bool false, .ref s.heap.objs.size, rawInt 0, .none, .none] } }) :=
  .of_wp fun prog w A R s h => by
    obtain ⟨hp, g, d, tk, os⟩ := s; obtain ⟨hl, h⟩ := h
    have hsub := sub_enumerate
    have hL : Heap.IsTuple (Shared.heap ⟨hp, g, d, tk, os⟩) l items := ⟨_, hl, rfl, n, rfl⟩
    wp_walk using wpAny_loadPart' hl
    refine wpAny_stack_any fun st => wpAny_pure ?_
    split
    · rename_i c _ _ _ _ _
      cases (c == Value.type "enumerate")
      · wp_walk using wpAny_loadPart' hl, wpAny_pyIter_tuple hL
        exact ⟨_, rfl, h⟩
      · wp_walk using wpAny_loadPart' hl, wpAny_pyIter_tuple hL
        exact ⟨_, rfl, h⟩
    · wp_walk using wpAny_loadPart' hl, wpAny_pyIter_tuple hL
      exact ⟨_, rfl, h⟩
section
variable {prog : Program} {w : World} {A : Around} {E : Value → Shared → Prop} {s : Shared}
theorem call_enumT {l : Addr} {items : Array Value} {Q : Value → Shared → Prop} (hL : s.heap.IsTuple l items)
    (h : ∀ h', IsEnum h' (s.heap.objs.size + 1) s.heap.objs.size 0 .none → h'.IsTupleIter s.heap.objs.size l 0 → h'.objs.size = s.heap.objs.size + 2 →
      (∀ b o, s.heap.get? b = some o → h'.get? b = some o) → Q (.ref (s.heap.objs.size + 1)) { s with heap := h' }) :
    wpAny (model prog w) A (call (.type "enumerate") [.ref l]) Q E s := by
  obtain ⟨⟨c, dct, dt, sl⟩, hl, hc, n, hd⟩ := hL
  replace hc : c = .type "tuple" := hc
  replace hd : dt = .seq items n := hd
  subst hc hd
  refine callType_new F.called_enumerate (by decide) (F.typeCall_enumerate_1 _) (F.newCall_enumerate_1 _) (fun obj => F.args_object_init_2 obj _) F.entry_enumerate_new
    (newEnumT l items n dct sl) ⟨hl, ?_⟩
  have hz : (s.heap.push { cls := .type "tuple_iterator", data := .fields #[.ref l, .int 0 0] }).objs.size = s.heap.objs.size + 1 := Heap.size_push ..
  show _ ∧ _
  rw [hz]
  have he : IsEnum ((s.heap.push { cls := .type "tuple_iterator", data := .fields #[.ref l, .int 0 0] }).push
      { cls := .type "enumerate", data := .fields #[.none, .bool false, .ref s.heap.objs.size, rawInt 0, .none, .none] }) (s.heap.objs.size + 1) s.heap.objs.size 0 .none := by
    have := Heap.get?_push_size (s.heap.push { cls := .type "tuple_iterator", data := .fields #[.ref l, .int 0 0] })
      (o := { cls := .type "enumerate", data := .fields #[.none, .bool false, .ref s.heap.objs.size, rawInt 0, .none, .none] }) rfl
    rw [hz] at this; exact this
  exact ⟨⟨_, he, rfl⟩, h _ he ⟨_, Heap.get?_push_of_some _ (Heap.get?_push_size _ rfl), rfl, rfl⟩ (by rw [Heap.size_push, hz]) fun b o x => Heap.get?_push_of_some _ (Heap.get?_push_of_some _ x)⟩
end
/-- the tuple at a, each item in a new pair -/
def IteT (K : PySem.W.Frag) (a : Addr) : It :=
  ⟨fun i H => ∃ (xs : List V) (x : V), SqT K H a xs ∧ xs[i]? = some x, fun i H v H' => ∃ T x, v = .ref T ∧ H T = none ∧ H' = upd H T (.tup [.int (i : Nat), x]) ∧ ∀ xs, SqT K H a xs → xs[i]? = some x, fun i H => ∃ xs : List V, SqT K H a xs ∧ xs.length = i⟩
theorem turn_enumT {P : Program} {w : World} {K : PySem.W.Frag} {elts : List Expr} {kk : Nat} {tpos : Pos} (a e it : Addr) :
    Turn P w K (.Tuple elts kk tpos) (IteT K a) [e, it] e (fun i h => (∃ old, IsEnum h e it ((i : Nat) : Int) old) ∧ h.IsTupleIter it a i ∧ e ≠ it ∧ e ≠ a ∧ a ≠ it) where
  mem := by simp
  obj := fun i h st b hb => by
    obtain ⟨⟨old, he⟩, ⟨o, ho, hc, hd⟩, _⟩ := st
    have e' : b = e ∨ b = it := by simpa using hb
    rcases e' with z | z
    · rw [z]; exact ⟨_, he, fun v q => nomatch q⟩
    · rw [z]; exact ⟨o, ho, fun v q => by rw [hd] at q; cases q⟩
  keep := fun i h h' st k => let ⟨⟨old, he⟩, hi, hne⟩ := st; ⟨⟨old, k e (by simp) _ he⟩, hi.at fun o q => k it (by simp) o q, hne⟩
  item := by
    intro X hP hw hK hc i pins s σ H E I hf st hg
    subst hP hw hK
    obtain ⟨⟨old, he⟩, hit, hne, hea, hai⟩ := st
    obtain ⟨xs, x, hq, hx⟩ := hg
    obtain ⟨its, rv, p, hz⟩ := I.tuple hq
    obtain ⟨u, hu, ru⟩ := rv.get hx
    have hel : e < s.heap.objs.size := Heap.lt_size he
    have hil : it < s.heap.objs.size := by obtain ⟨_, q, _⟩ := hit; exact Heap.lt_size q
    have hh : X.A.in1.handled = none := I.ok.hd hc
    have hui : its.toArray[i]? = some u := by simpa using hu
    have hlt : i < its.toArray.size := (Array.getElem?_eq_some_iff.mp hui).1
    refine wpAny_pyNext_enum_itemD (Draws.tuple hh it a hai its.toArray) he ⟨hit, p⟩ hlt hne (by simp [hne, hea]) fun y h' tk hy ho hst' hT hsz hk => ?_
    rw [hui] at hy
    obtain rfl : u = y := Option.some.inj hy
    refine ⟨_, rfl, wpAny_letOwnedTupleGo_enum (s := { s with heap := h', toks := tk + 1 }) ho fun h'' he' sb => ?_⟩
    have hT2 : h''.get? s.heap.objs.size = some { cls := .type "tuple", data := .seq #[.int i tk, u] } := (sb.2 _ (Nat.ne_of_gt hel)).trans hT
    have new : ObjOk X.prog X.w (upd H s.heap.objs.size (.tup [.int (i : Nat), x])) h'' s.heap.objs.size (.tup [.int (i : Nat), x]) :=
      ⟨by show 2 ≤ sizeLine; decide, [.int i tk, u], .cons ⟨_, rfl⟩ (.cons ru .nil), ⟨_, hT2, rfl, _, rfl⟩⟩
    have I1 : Inv X pins σ (upd H s.heap.objs.size (.tup [.int (i : Nat), x])) { s with heap := h'', toks := tk + 1 } :=
      I.turnedNew (ch := [e, it]) (fun b ob hb q => (sb.2 b (fun z => hb (by simp [z]))).trans (hk b ob (fun z => hb (by simp [z])) (fun z => hb (by simp [z])) q)) hf (Nat.le_refl _) new
    refine ⟨.ref s.heap.objs.size, _, I1, rfl, ⟨_, x, rfl, I.hok.fresh (Nat.le_refl _), rfl, fun ys hy => by rw [I.tuple_inj hy hq]; exact hx⟩, ⟨⟨u, ?_⟩, hst'.1.at fun o q => (sb.2 it (Ne.symm hne)).trans q, hne, hea, hai⟩, fun b hb => ?_⟩
    · have e1 : ((i + 1 : Nat) : Int) = (i : Int) + 1 := by omega
      rw [e1]; exact he'
    · have hb' : b < s.heap.objs.size := by
        have e' : b = e ∨ b = it := by simpa using hb
        rcases e' with z | z
        · rw [z]; exact hel
        · rw [z]; exact hil
      rw [upd_ne (Nat.ne_of_lt hb')]
      exact (hf b hb).1
  done := by
    intro X hP hw hK hc i pins s σ H E I hf st hg
    subst hP hw hK
    obtain ⟨⟨old, he⟩, hit, hne, hea, hai⟩ := st
    obtain ⟨xs, hq, hx⟩ := hg
    obtain ⟨its, rv, p, hz⟩ := I.tuple hq
    obtain ⟨f0, f1, f2, f3, f4, f5⟩ := hf it (by simp)
    have hl := rv.length
    have hh : X.A.in1.handled = none := I.ok.hd hc
    have en : its.toArray.size = i := by rw [List.size_toArray, ← hl]; exact hx
    refine wpAny_pyNext_enum_endD (Draws.tuple hh it a hai its.toArray) he (by rw [en]; exact ⟨hit, p⟩) fun h' eb => ⟨rfl, I.turned (t' := s.toks) (fun b o hb q => eb b o hb q) f0 f1 f3 f4 f5⟩
  self := fun A i s Q E st h => let ⟨⟨_, he⟩, _⟩ := st; wpAny_pyIter_enum he h
/-- the signs of a text, each in a new pair -/
def IteS (x : Str) : It :=
  ⟨fun i _ => i < x.cps.size, fun i H v H' => ∃ T c, v = .ref T ∧ H T = none ∧ H' = upd H T (.tup [.int (i : Nat), .str ⟨#[c]⟩]) ∧ x.cps[i]? = some c, fun i _ => x.cps.size = i⟩
theorem turn_enumS {P : Program} {w : World} {K : PySem.W.Frag} {elts : List Expr} {kk : Nat} {tpos : Pos} (x : Str) (t : Tok) (e it : Addr) :
    Turn P w K (.Tuple elts kk tpos) (IteS x) [e, it] e (fun i h => (∃ old, IsEnum h e it ((i : Nat) : Int) old) ∧ h.IsStrIter it (strIterType x) x t i ∧ e ≠ it) where
  mem := by simp
  obj := fun i h st b hb => by
    obtain ⟨⟨old, he⟩, ⟨o, ho, hc, hd⟩, _⟩ := st
    have e' : b = e ∨ b = it := by simpa using hb
    rcases e' with z | z
    · rw [z]; exact ⟨_, he, fun v q => nomatch q⟩
    · rw [z]; exact ⟨o, ho, fun v q => by rw [hd] at q; cases q⟩
  keep := fun i h h' st k => let ⟨⟨old, he⟩, ⟨o, ho, r⟩, hne⟩ := st; ⟨⟨old, k e (by simp) _ he⟩, ⟨o, k it (by simp) o ho, r⟩, hne⟩
  item := by
    intro X hP hw hK hc i pins s σ H E I hf st hg
    subst hP hw hK
    obtain ⟨⟨old, he⟩, hit, hne⟩ := st
    have hel : e < s.heap.objs.size := Heap.lt_size he
    have hil : it < s.heap.objs.size := by obtain ⟨_, q, _⟩ := hit; exact Heap.lt_size q
    have hh : X.A.in1.handled = none := I.ok.hd hc
    refine wpAny_pyNext_enum_itemD (Draws.text hh it x t) he hit hg hne (by simp [hne]) fun y h' tk hy ho hst' hT hsz hk => ?_
    obtain ⟨c, u, hcx, rfl⟩ := hy
    refine ⟨_, rfl, wpAny_letOwnedTupleGo_enum (s := { s with heap := h', toks := tk + 1 }) ho fun h'' he' sb => ?_⟩
    have hT2 : h''.get? s.heap.objs.size = some { cls := .type "tuple", data := .seq #[.int i tk, .str ⟨#[c]⟩ u] } := (sb.2 _ (Nat.ne_of_gt hel)).trans hT
    have new : ObjOk X.prog X.w (upd H s.heap.objs.size (.tup [.int (i : Nat), .str ⟨#[c]⟩])) h'' s.heap.objs.size (.tup [.int (i : Nat), .str ⟨#[c]⟩]) :=
      ⟨by show 2 ≤ sizeLine; decide, [.int i tk, .str ⟨#[c]⟩ u], .cons ⟨_, rfl⟩ (.cons ⟨_, rfl⟩ .nil), ⟨_, hT2, rfl, _, rfl⟩⟩
    have I1 : Inv X pins σ (upd H s.heap.objs.size (.tup [.int (i : Nat), .str ⟨#[c]⟩])) { s with heap := h'', toks := tk + 1 } :=
      I.turnedNew (ch := [e, it]) (fun b ob hb q => (sb.2 b (fun z => hb (by simp [z]))).trans (hk b ob (fun z => hb (by simp [z])) (fun z => hb (by simp [z])) q)) hf (Nat.le_refl _) new
    refine ⟨.ref s.heap.objs.size, _, I1, rfl, ⟨_, c, rfl, I.hok.fresh (Nat.le_refl _), rfl, hcx⟩, ⟨⟨.str ⟨#[c]⟩ u, ?_⟩, ?_, hne⟩, fun b hb => ?_⟩
    · have e1 : ((i + 1 : Nat) : Int) = (i : Int) + 1 := by omega
      rw [e1]; exact he'
    · obtain ⟨o, ho2, r⟩ := hst'
      exact ⟨o, (sb.2 it (Ne.symm hne)).trans ho2, r⟩
    · have hb' : b < s.heap.objs.size := by
        have e' : b = e ∨ b = it := by simpa using hb
        rcases e' with z | z
        · rw [z]; exact hel
        · rw [z]; exact hil
      rw [upd_ne (Nat.ne_of_lt hb')]
      exact (hf b hb).1
  done := by
    intro X hP hw hK hc i pins s σ H E I hf st hg
    subst hP hw hK
    obtain ⟨⟨old, he⟩, hit, hne⟩ := st
    obtain ⟨f0, f1, f2, f3, f4, f5⟩ := hf it (by simp)
    have hh : X.A.in1.handled = none := I.ok.hd hc
    have en : x.cps.size = i := hg
    refine wpAny_pyNext_enum_endD (Draws.text hh it x t) he (by rw [en]; exact hit) fun h' eb => ⟨rfl, I.turned (t' := s.toks) (fun b o hb q => eb b o hb q) f0 f1 f3 f4 f5⟩
  self := fun A i s Q E st h => let ⟨⟨_, he⟩, _⟩ := st; wpAny_pyIter_enum he h
/-- enumerate of a list, a tuple or a text -/
def iEnumA (K : PySem.W.Frag) (ta : TA) : TI := fun σ H R => ta σ H fun vs H1 => (∃ a xs, vs = [.ref a] ∧ ((SqL K H1 a xs ∧ R (Ite K a) H1) ∨ (SqT K H1 a xs ∧ R (IteT K a) H1))) ∨ ∃ x, vs = [.str x] ∧ R (IteS x) H1
theorem pi_enumA {X : Cx} {e : Expr} {ta : TA} {p pos tpos : Pos} {elts : List Expr} {kk : Nat} (hg : Gl X "enumerate") (hm : X.mg "enumerate" = none) (ha : PA X [e] ta) (hs : starEach [e] X.env = [(false, eval e X.env)]) :
    PI X (.Tuple elts kk tpos) (.Call (.Name "enumerate" p) [e] [] pos) (iEnumA X.K ta) := by
  refine ⟨fun pins s σ H R I h => ?_⟩
  refine Call_ (ld_blt I hg hm boot_enumerate (PyProof.Rows.callWith_type1 (thn (ha.run pos pins s σ H _ I h) fun us s1 ⟨vs, H1, I1, r1, q1⟩ => ?_) hs rfl))
  have ap : ∀ b, b ∈ [s1.heap.objs.size + 1, s1.heap.objs.size] → FpOk X pins H1 b := fun b hb => by
    have e' : b = s1.heap.objs.size + 1 ∨ b = s1.heap.objs.size := by simpa using hb
    have hle : s1.heap.objs.size ≤ b := by
      rcases e' with z | z
      · rw [z]; exact Nat.le_add_right _ _
      · rw [z]; exact Nat.le_refl _
    exact I1.fpOk hle (I1.hok.fresh hle)
  rcases q1 with q1 | ⟨x, ex, q⟩
  case inr =>
    subst ex
    obtain ⟨u, rfl, ru⟩ := vals1 r1
    obtain ⟨t, rfl⟩ := ru
    refine call_enumerate_str fun h' he hit hsz hk => wpAny_pyIter_enum he ?_
    have I2 : Inv X pins σ H1 { s1 with heap := h' } := I1.kept (t' := s1.toks) hk
    exact ⟨s1.heap.objs.size + 1, [s1.heap.objs.size + 1, s1.heap.objs.size], _, _, H1, rfl, I2, turn_enumS x t (s1.heap.objs.size + 1) s1.heap.objs.size, ⟨⟨.none, he⟩, hit, Nat.succ_ne_self _⟩, ap, q⟩
  obtain ⟨a, xs, ex, hq⟩ := q1
  subst ex
  cases r1 with
  | cons r rr =>
    cases rr
    cases r
    have ap : ∀ b, b ∈ [s1.heap.objs.size + 1, s1.heap.objs.size] → FpOk X pins H1 b := fun b hb => by
      have e' : b = s1.heap.objs.size + 1 ∨ b = s1.heap.objs.size := by simpa using hb
      have hle : s1.heap.objs.size ≤ b := by
        rcases e' with z | z
        · rw [z]; exact Nat.le_add_right _ _
        · rw [z]; exact Nat.le_refl _
      exact I1.fpOk hle (I1.hok.fresh hle)
    rcases hq with ⟨hq, q⟩ | ⟨hq, q⟩
    · obtain ⟨its, rv, p', hz⟩ := I1.list hq
      refine call_enumerate_list p'.isList fun h' he hit hsz hk => wpAny_pyIter_enum he ?_
      have I2 : Inv X pins σ H1 { s1 with heap := h' } := I1.kept (t' := s1.toks) hk
      exact ⟨s1.heap.objs.size + 1, [s1.heap.objs.size + 1, s1.heap.objs.size], _, _, H1, rfl, I2, turn_enum a (s1.heap.objs.size + 1) s1.heap.objs.size, ⟨⟨.none, he⟩, hit, Nat.succ_ne_self _⟩, ap, q⟩
    · obtain ⟨its, rv, p', hz⟩ := I1.tuple hq
      obtain ⟨o1, ho1, _⟩ := id p'
      have hlt := Heap.lt_size ho1
      refine call_enumT p' fun h' he hit hsz hk => wpAny_pyIter_enum he ?_
      have I2 : Inv X pins σ H1 { s1 with heap := h' } := I1.kept (t' := s1.toks) hk
      exact ⟨s1.heap.objs.size + 1, [s1.heap.objs.size + 1, s1.heap.objs.size], _, _, H1, rfl, I2, turn_enumT a (s1.heap.objs.size + 1) s1.heap.objs.size, ⟨⟨.none, he⟩, hit, Nat.succ_ne_self _, Nat.ne_of_gt (Nat.lt_succ_of_lt hlt), Nat.ne_of_lt hlt⟩, ap, q⟩
/-- a list, a tuple or a text -/
def iSeq (K : PySem.W.Frag) (te : TE) : TI := fun σ H R => te σ H fun v H1 => (∃ a, v = .ref a ∧ (∃ xs, SqL K H1 a xs) ∧ R (Itl K a) H1) ∨ (∃ a, v = .ref a ∧ (∃ xs, SqT K H1 a xs) ∧ R (Itt K a) H1) ∨ ∃ x, v = .str x ∧ R (Its x) H1
theorem pi_seq {X : Cx} {tg l : Expr} {tl : TE} (hl : PE X l tl) : PI X tg l (iSeq X.K tl) := by
  refine ⟨fun pins s σ H R I h => ?_⟩
  refine thn (hl.run pins s σ H _ I h) fun v s1 ⟨x, H1, I1, r1, q1⟩ => ?_
  have ap : ∀ b, b ∈ [s1.heap.objs.size] → FpOk X pins H1 b := fun b hb => by
    have e : b = s1.heap.objs.size := by simpa using hb
    subst e
    exact I1.fpOk (Nat.le_refl _) (I1.hok.fresh (Nat.le_refl _))
  rcases q1 with ⟨a, e, ⟨xs, hq⟩, q⟩ | ⟨a, e, ⟨xs, hq⟩, q⟩ | ⟨y, e, q⟩
  · subst e
    cases r1
    obtain ⟨its, rv, p, hz⟩ := I1.list hq
    refine wpAny_pyIter_list p.isList ?_
    exact ⟨s1.heap.objs.size, [s1.heap.objs.size], _, _, H1, rfl, I1.kept (t' := s1.toks) fun b o e => Heap.get?_push_of_some _ e, turn_list a _, ⟨_, Heap.get?_push_size _ rfl, rfl, rfl⟩, ap, q⟩
  · subst e
    cases r1
    obtain ⟨its, rv, p, hz⟩ := I1.tuple hq
    refine wpAny_pyIter_tuple (show s1.heap.IsTuple a its.toArray from p) ?_
    exact ⟨s1.heap.objs.size, [s1.heap.objs.size], _, _, H1, rfl, I1.kept (t' := s1.toks) fun b o e => Heap.get?_push_of_some _ e, turn_tuple a _, ⟨_, Heap.get?_push_size _ rfl, rfl, rfl⟩, ap, q⟩
  · subst e
    obtain ⟨t, rfl⟩ := r1
    cases ha : y.cps.all (· < 128)
    · exact wpAny_pyIter_wide ha (pi_one (tk := s1.toks) I1 _ (turn_str _ y t "str_iterator" (.inr rfl)) ⟨_, Heap.get?_push_size _ rfl, rfl, rfl⟩ q)
    · exact wpAny_pyIter_ascii ha (pi_one (tk := s1.toks) I1 _ (turn_str _ y t "str_ascii_iterator" (.inl rfl)) ⟨_, Heap.get?_push_size _ rfl, rfl, rfl⟩ q)
end MiG

namespace MiS
open PySem PySem.Spec PyProof.Rows L2 Mi MiG
variable [Tb]
section
variable {X : Cx} {C : Cn} {W : Wish} {K : PySem.W.Frag}
/-! ### for -/
/-- the iterator J gives xs, from the state on -/
def Walks (K : PySem.W.Frag) (M1 : List Addr) (H1 : Hp) (st1 : Sto) (J : L2.It) (xs : List D) : Prop :=
  ∀ M H st, M1 <+: M → Step (Lv M1 st1) H1 (Lv M st) H → SR K M H st → (∀ (i : Nat) (d : D), xs[i]? = some d → J.go i H ∧ ∀ x H', J.yld i H x H' → SR K M H' st ∧ Step (Lv M st) H (Lv M st) H' ∧ Rp K (Lv M st) H' x d) ∧ J.stop xs.length H
theorem for_end {M1 : List Addr} {H1 : Hp} {st1 : Sto} {J : L2.It} {xs : List D} {tg b : Mi.T} {σ : L2.St} {env : En} {D : Ends} (w : Walks K M1 H1 st1 J xs) (er : ER K M1 (Lv M1 st1) H1 env σ) (sr : SR K M1 H1 st1)
    (h : PR K M1 H1 st1 (loopF (fun x env st => (asgn C tg (.val x) env st).bind fun env st => exs C b env st) xs env st1) W (QF K D)) :
    ∃ Wm : Nat → Nat → L2.St → Hp → Prop, (∃ m, Wm 0 m σ H1) ∧ ∀ i m σ H, Wm i m σ H →
      (J.stop i H ∧ D.nx σ H) ∨ (J.go i H ∧ ∃ N : L2.St → Hp → Prop, (∀ σ' H', N σ' H' → ∃ m', m' < m ∧ Wm (i + 1) m' σ' H') ∧ ∀ x H', J.yld i H x H' → tG K C W tg x σ H' fun σ2 H2 => tSs K C W b { D with nx := N, ct := N, bk := D.nx } σ2 H2) := by
  refine ⟨fun i m σ H => i + m = xs.length ∧ ∃ M env st, M1 <+: M ∧ Step (Lv M1 st1) H1 (Lv M st) H ∧ ER K M (Lv M st) H env σ ∧ SR K M H st ∧ PR K M H st (loopF (fun x env st => (asgn C tg (.val x) env st).bind fun env st => exs C b env st) (xs.drop i) env st) W (QF K D),
    ⟨xs.length, by omega, M1, env, st1, List.prefix_refl _, Step.refl, er, sr, by rw [List.drop_zero]; exact h⟩, ?_⟩
  rintro i m σ H ⟨hm, M, env, st, p, s, er, sr, h⟩
  obtain ⟨go, stop⟩ := w M H st p s sr
  cases m with
  | zero =>
    have hi : i = xs.length := by omega
    subst hi
    rw [List.drop_length] at h
    rw [loopF] at h
    exact .inl ⟨stop, PR.here (a := Fl.nx env) sr h σ er⟩
  | succ m =>
    have hi : i < xs.length := by omega
    obtain ⟨g1, g2⟩ := go i xs[i] (List.getElem?_eq_getElem hi)
    rw [List.drop_eq_getElem_cons hi, loopF] at h
    refine .inr ⟨g1, fun σ' H' => ∃ M env st, M1 <+: M ∧ Step (Lv M1 st1) H1 (Lv M st) H' ∧ ER K M (Lv M st) H' env σ' ∧ SR K M H' st ∧ PR K M H' st (loopF (fun x env st => (asgn C tg (.val x) env st).bind fun env st => exs C b env st) (xs.drop (i + 1)) env st) W (QF K D),
      fun σ' H' q => ⟨m, Nat.lt_succ_self m, by omega, q⟩, fun x H' y => ?_⟩
    obtain ⟨sr1, s1, rx⟩ := g2 x H' y
    refine ⟨M, env, st, .val xs[i], er.mono (List.prefix_refl _) s1, sr1, rx, (PR.bind (PR.bind (h.pre (List.prefix_refl _) s1))).imp fun env2 M2 st2 H2 p2 sr2 s2 h σ2 er2 => ?_⟩
    refine ⟨M2, env2, st2, er2, sr2, h.imp fun f M3 st3 H3 p3 sr3 s3 h => ?_⟩
    have p' := (p.trans p2).trans p3
    have s' := ((s.trans s1).trans s2).trans s3
    cases f with
    | nx env3 => exact fun σ3 er3 => ⟨M3, env3, st3, p', s', er3, sr3, h⟩
    | ct env3 => exact fun σ3 er3 => ⟨M3, env3, st3, p', s', er3, sr3, h⟩
    | bk env3 => exact fun σ3 er3 => PR.here (a := Fl.nx env3) sr3 h σ3 er3
    | rt r => exact PR.here (W := W) (a := Fl.rt r) (Q := QF K D) sr3 h
/-! what gives what -/
theorem walks_list {M1 : List Addr} {H1 : Hp} {st1 : Sto} {a : Addr} {vs : List V} {ds : List D} (nl : ¬ Lv M1 st1 a) (ra : Rd H1 a (.lst vs)) (rl : RpL K (Lv M1 st1) H1 vs ds) : Walks K M1 H1 st1 (Itl K a) ds := by
  intro M H st p s sr
  have q : SqL K H a vs := .inl (s.see.rd nl ra).1
  have r := rl.mono s
  refine ⟨fun i d e => ?_, ⟨vs, q, Nat.le_of_eq r.len⟩⟩
  obtain ⟨v, h1, h2⟩ := r.get e
  refine ⟨⟨vs, v, q, h1⟩, fun x H' ⟨eH, hx⟩ => ?_⟩
  subst eH
  have := hx vs q
  rw [h1] at this
  cases this
  exact ⟨sr, Step.refl, h2⟩
theorem walks_tup {M1 : List Addr} {H1 : Hp} {st1 : Sto} {a : Addr} {vs : List V} {ds : List D} (nl : ¬ Lv M1 st1 a) (ra : H1 a = some (.tup vs)) (rl : RpL K (Lv M1 st1) H1 vs ds) : Walks K M1 H1 st1 (Itt K a) ds := by
  intro M H st p s sr
  have q : SqT K H a vs := .inl (.inl ((s.keep a _ ra (fun ps q => by cases q) nl).1.ex id))
  have r := rl.mono s
  refine ⟨fun i d e => ?_, ⟨vs, q, Nat.le_of_eq r.len⟩⟩
  obtain ⟨v, h1, h2⟩ := r.get e
  refine ⟨⟨vs, v, q, h1⟩, fun x H' ⟨eH, hx⟩ => ?_⟩
  subst eH
  have := hx vs q
  rw [h1] at this
  cases this
  exact ⟨sr, Step.refl, h2⟩
theorem signs_get {x : Str} {i : Nat} {d : D} (e : (Mi.signs x)[i]? = some d) : ∃ c, x.cps[i]? = some c ∧ d = .str ⟨#[c]⟩ := by
  unfold Mi.signs cps at e
  rw [List.getElem?_map] at e
  obtain ⟨c, h1, h2⟩ := Option.map_eq_some_iff.mp e
  exact ⟨c, by rw [← Array.getElem?_toList]; exact h1, h2.symm⟩
theorem signs_len {x : Str} : (Mi.signs x).length = x.cps.size := by
  unfold Mi.signs cps
  rw [List.length_map, Array.length_toList]
theorem walks_str {M1 : List Addr} {H1 : Hp} {st1 : Sto} (x : Str) : Walks K M1 H1 st1 (Its x) (Mi.signs x) := by
  intro M H st p s sr
  refine ⟨fun i d e => ?_, by rw [signs_len]; exact Nat.le_refl _⟩
  obtain ⟨c, h1, rfl⟩ := signs_get e
  refine ⟨(Array.getElem?_eq_some_iff.mp h1).1, fun v H' ⟨eH, c', h2, ev⟩ => ?_⟩
  subst eH ev
  rw [h1] at h2
  cases h2
  exact ⟨sr, Step.refl, .str _⟩
theorem range_get : ∀ {lo : Int} {n i : Nat} {d : D}, (rangeL lo n)[i]? = some d → i < n ∧ d = .int (lo + i)
  | _, 0, _, _, e => by simp [rangeL] at e
  | lo, n + 1, 0, d, e => by
    simp [rangeL] at e
    exact ⟨Nat.succ_pos _, by rw [← e]; simp⟩
  | lo, n + 1, i + 1, d, e => by
    have e' : (rangeL (lo + 1) n)[i]? = some d := by simpa [rangeL] using e
    obtain ⟨h1, h2⟩ := range_get e'
    refine ⟨Nat.succ_lt_succ h1, ?_⟩
    rw [h2]; congr 1; omega
theorem range_len : ∀ {lo : Int} {n : Nat}, (rangeL lo n).length = n
  | _, 0 => rfl
  | _, n + 1 => by simp [rangeL, range_len]
theorem walks_range {M1 : List Addr} {H1 : Hp} {st1 : Sto} (lo : Int) (n : Nat) : Walks K M1 H1 st1 (Itr lo n) (rangeL lo n) := by
  intro M H st p s sr
  refine ⟨fun i d e => ?_, by rw [range_len]; exact Nat.le_refl _⟩
  obtain ⟨h1, rfl⟩ := range_get e
  refine ⟨h1, fun v H' ⟨eH, ev⟩ => ?_⟩
  subst eH ev
  exact ⟨sr, Step.refl, .int _⟩
theorem enum_get : ∀ {n : Nat} {ds : List D} {i : Nat} {d : D}, (enumFrom n ds)[i]? = some d → ∃ x, ds[i]? = some x ∧ d = .tuple [.int ((n + i : Nat) : Int), x]
  | _, [], _, _, e => by simp [enumFrom] at e
  | n, y :: r, 0, d, e => by
    simp [enumFrom] at e
    exact ⟨y, rfl, by rw [← e]; simp⟩
  | n, y :: r, i + 1, d, e => by
    have e' : (enumFrom (n + 1) r)[i]? = some d := by simpa [enumFrom] using e
    obtain ⟨x, h1, h2⟩ := enum_get e'
    refine ⟨x, by simpa using h1, ?_⟩
    rw [h2]
    congr 3
    omega
theorem enum_len : ∀ {n : Nat} {ds : List D}, (enumFrom n ds).length = ds.length
  | _, [] => rfl
  | n, y :: r => by simp [enumFrom, enum_len]
theorem pair_end {M : List Addr} {H : Hp} {st : Sto} {T : Addr} {v u : V} {d e : D} (sr : SR K M H st) (hT : H T = none) (r1 : Rp K (Lv M st) H v d) (r2 : Rp K (Lv M st) H u e) :
    SR K M (upd H T (.tup [v, u])) st ∧ Step (Lv M st) H (Lv M st) (upd H T (.tup [v, u])) ∧ Rp K (Lv M st) (upd H T (.tup [v, u])) (.ref T) (.tuple [d, e]) :=
  ⟨sr.fresh hT, Step.fresh hT, .tup (sr.nl hT) upd_same (.cons (r1.mono (Step.fresh hT)) (.cons (r2.mono (Step.fresh hT)) .nil))⟩
theorem walks_enumL {M1 : List Addr} {H1 : Hp} {st1 : Sto} {a : Addr} {vs : List V} {ds : List D} (nl : ¬ Lv M1 st1 a) (ra : Rd H1 a (.lst vs)) (rl : RpL K (Lv M1 st1) H1 vs ds) : Walks K M1 H1 st1 (Ite K a) (enumFrom 0 ds) := by
  intro M H st p s sr
  have q : SqL K H a vs := .inl (s.see.rd nl ra).1
  have r := rl.mono s
  refine ⟨fun i d e => ?_, ⟨vs, q, by rw [enum_len, r.len]; exact Nat.le_refl _⟩⟩
  obtain ⟨y, h0, rfl⟩ := enum_get e
  obtain ⟨v, h1, h2⟩ := r.get h0
  refine ⟨⟨vs, v, q, h1⟩, fun x H' ⟨T, z, ex, hT, eH, hx⟩ => ?_⟩
  subst eH ex
  have := hx vs q
  rw [h1] at this
  cases this
  rw [Nat.zero_add]
  exact pair_end sr hT (.int _) h2
theorem walks_enumT {M1 : List Addr} {H1 : Hp} {st1 : Sto} {a : Addr} {vs : List V} {ds : List D} (nl : ¬ Lv M1 st1 a) (ra : H1 a = some (.tup vs)) (rl : RpL K (Lv M1 st1) H1 vs ds) : Walks K M1 H1 st1 (IteT K a) (enumFrom 0 ds) := by
  intro M H st p s sr
  have q : SqT K H a vs := .inl (.inl ((s.keep a _ ra (fun ps q => by cases q) nl).1.ex id))
  have r := rl.mono s
  refine ⟨fun i d e => ?_, ⟨vs, q, by rw [enum_len, r.len]⟩⟩
  obtain ⟨y, h0, rfl⟩ := enum_get e
  obtain ⟨v, h1, h2⟩ := r.get h0
  refine ⟨⟨vs, v, q, h1⟩, fun x H' ⟨T, z, ex, hT, eH, hx⟩ => ?_⟩
  subst eH ex
  have := hx vs q
  rw [h1] at this
  cases this
  rw [Nat.zero_add]
  exact pair_end sr hT (.int _) h2
theorem walks_enumS {M1 : List Addr} {H1 : Hp} {st1 : Sto} (x : Str) : Walks K M1 H1 st1 (IteS x) (enumFrom 0 (Mi.signs x)) := by
  intro M H st p s sr
  refine ⟨fun i d e => ?_, by rw [enum_len, signs_len]; rfl⟩
  obtain ⟨y, h0, rfl⟩ := enum_get e
  obtain ⟨c, h1, rfl⟩ := signs_get h0
  refine ⟨(Array.getElem?_eq_some_iff.mp h1).1, fun v H' ⟨T, c', ex, hT, eH, hx⟩ => ?_⟩
  subst eH ex
  rw [h1] at hx
  cases hx
  rw [Nat.zero_add]
  exact pair_end sr hT (.int _) (.str _)
/-! the loops -/
theorem pl {rs : List RV} {M : List Addr} {L : Addr → Prop} {H : Hp} {vs : List V} {ds : List D} (r : RVs K M L H vs rs) (e : pures rs = some ds) : RpL K L H vs ds := pures_rp r e
theorem one_of {L : Addr → Prop} {H : Hp} {vs : List V} {d : D} (r : RpL K L H vs [d]) : ∃ v, vs = [v] ∧ Rp K L H v d := by
  cases r with
  | cons a b => cases b; exact ⟨_, rfl, a⟩
theorem two_of {L : Addr → Prop} {H : Hp} {vs : List V} {d e : D} (r : RpL K L H vs [d, e]) : ∃ v u, vs = [v, u] ∧ Rp K L H v d ∧ Rp K L H u e := by
  cases r with
  | cons a b => obtain ⟨u, rfl, h⟩ := one_of b; exact ⟨_, u, rfl, a, h⟩
/-- the start of a for: what is walked -/
theorem co_for {w : Mi.It} {tg it b : Mi.T} (hw : w ≠ .litems) {σ : L2.St} {H : Hp} {D : Ends} (h : tS K C W (.for_ tg w it b) D σ H) :
    tEs K C W it σ H fun vs H1 => ∃ M1 env st1 ds xs, ER K M1 (Lv M1 st1) H1 env σ ∧ SR K M1 H1 st1 ∧ RpL K (Lv M1 st1) H1 vs ds ∧ walk w ds = some xs ∧
      PR K M1 H1 st1 (loopF (fun x env st => (asgn C tg (.val x) env st).bind fun env st => exs C b env st) xs env st1) W (QF K D) := by
  obtain ⟨M, env, st, er, sr, h⟩ := h
  rw [ex] at h
  refine ⟨M, env, st, er, sr, (PR.bind h).imp fun rs M1 st1 H1 p1 sr1 s1 h vs r => ?_⟩
  have e0 : srcs w st1 rs = pures rs := by cases w <;> first | rfl | exact absurd rfl hw
  rw [e0] at h
  cases e1 : pures rs with
  | none => simp only [e1] at h; exact h.elim
  | some ds =>
    simp only [e1] at h
    cases e2 : walk w ds with
    | none => simp only [e2] at h; exact h.elim
    | some xs =>
      simp only [e2] at h
      exact ⟨M1, env, st1, ds, xs, er.mono p1 s1, sr1, pures_rp r e1, e2, h⟩
theorem ss_forP {tg e : Expr} {body : List Stmt} {tt te tb : Mi.T} {pos : Pos} (hp : PassesOwn (model X.prog X.w) X.A X.env X.xe) (hc : X.calm = true) (he : PE X e (tE X.K C W te)) (hg : PG X tg (tG X.K C W tt)) (hb : PSs X body (tSs X.K C W tb))
    (hs : ∀ x, foldedSetIterable e X.env x = pure x) : PS X (.For tg e body [] pos) (tS X.K C W (.for_ tt .plain (.cons te .nil) tb)) := by
  refine cvS (ps_for hp hc (pi_seq he) hg hb hs) fun D σ H h => ?_
  obtain ⟨M, env, st, er, sr, h⟩ := co_for (by decide) h
  rw [evs] at h
  refine ⟨M, env, st, er, sr, (PR.bind h).imp fun r M1 st1 H1 p1 sr1 s1 h v rv => ?_⟩
  rw [evs] at h
  obtain ⟨M2, env2, st2, ds, xs, er2, sr2, rl, ew, h⟩ := PR.here (a := [r]) sr1 h [v] (.cons rv .nil)
  match ds, rl, ew with
  | [.list ys], rl, ew =>
    cases ew
    obtain ⟨_, ev, r⟩ := one_of rl
    cases ev
    cases r with
    | lst nl ra x => exact .inl ⟨_, rfl, ⟨_, .inl ra⟩, for_end (walks_list nl ra x) er2 sr2 h⟩
  | [.tuple ys], rl, ew =>
    cases ew
    obtain ⟨_, ev, r⟩ := one_of rl
    cases ev
    cases r with
    | tup nl ra x => exact .inr (.inl ⟨_, rfl, ⟨_, .inl (.inl ra)⟩, for_end (walks_tup nl ra x) er2 sr2 h⟩)
  | [.str y], rl, ew =>
    cases ew
    obtain ⟨_, ev, r⟩ := one_of rl
    cases ev
    cases r with
    | str => exact .inr (.inr ⟨_, rfl, for_end (walks_str y) er2 sr2 h⟩)
  | [], _, ew => cases ew
  | [.none], _, ew => cases ew
  | [.bool _], _, ew => cases ew
  | [.int _], _, ew => cases ew
  | [.dict _], _, ew => cases ew
  | _ :: _ :: _, _, ew => simp [walk] at ew
end
end MiS

namespace MiS
open PySem PySem.Spec PyProof.Rows L2 Mi MiG
variable [Tb]
section
variable {X : Cx} {C : Cn} {W : Wish} {K : PySem.W.Frag}
theorem inside_ok {i : Int} (h : inside i = true) : -(2 ^ 62) ≤ i ∧ i < 2 ^ 62 := by
  have h1 := Bool.and_eq_true_iff.mp h
  have a := of_decide_eq_true h1.1
  have b := of_decide_eq_true h1.2
  constructor <;> omega
/-- one argument, two -/
theorem co_one {te : Mi.T} {σ : L2.St} {H : Hp} {Q : List V → Hp → Prop} (h : tEs K C W (.cons te .nil) σ H Q) : tE K C W te σ H fun v H1 => Q [v] H1 := by
  obtain ⟨M, env, st, er, sr, h⟩ := h
  rw [evs] at h
  refine ⟨M, env, st, er, sr, (PR.bind h).imp fun r M1 st1 H1 p1 sr1 s1 h v rv => ?_⟩
  rw [evs] at h
  exact PR.here (a := [r]) sr1 h [v] (.cons rv .nil)
theorem co_two {ta tb : Mi.T} {σ : L2.St} {H : Hp} {Q : List V → Hp → Prop} (h : tEs K C W (.cons ta (.cons tb .nil)) σ H Q) : tE K C W ta σ H fun v H1 => tE K C W tb σ H1 fun u H2 => Q [v, u] H2 := by
  obtain ⟨M, env, st, er, sr, h⟩ := h
  rw [evs] at h
  refine ⟨M, env, st, er, sr, (PR.bind h).imp fun r M1 st1 H1 p1 sr1 s1 h v rv => ?_⟩
  rw [evs] at h
  refine ⟨M1, env, st1, er.mono p1 s1, sr1, (PR.bind (PR.bind h)).imp fun r2 M2 st2 H2 p2 sr2 s2 h u ru => ?_⟩
  rw [evs] at h
  exact PR.here (a := [r, r2]) sr2 (PR.here (a := [r2]) sr2 h) [v, u] (.cons (rv.mono p2 s2) (.cons ru .nil))
theorem one_len {L : Addr → Prop} {H : Hp} {v : V} {ds : List D} (r : RpL K L H [v] ds) : ∃ d, ds = [d] ∧ Rp K L H v d := by
  cases r with
  | cons a b => cases b; exact ⟨_, rfl, a⟩
theorem two_len {L : Addr → Prop} {H : Hp} {v u : V} {ds : List D} (r : RpL K L H [v, u] ds) : ∃ d e, ds = [d, e] ∧ Rp K L H v d ∧ Rp K L H u e := by
  cases r with
  | cons a b => obtain ⟨e, rfl, h⟩ := one_len b; exact ⟨_, e, rfl, a, h⟩
theorem ss_forR1 {tg e : Expr} {body : List Stmt} {tt te tb : Mi.T} {p p2 pos : Pos} (hp : PassesOwn (model X.prog X.w) X.A X.env X.xe) (hc : X.calm = true) (hgl : Gl X "range") (hm : X.mg "range" = none) (he : PE X e (tE X.K C W te)) (hg : PG X tg (tG X.K C W tt)) (hb : PSs X body (tSs X.K C W tb))
    (hst : nostar e = true) : PS X (.For tg (.Call (.Name "range" p) [e] [] p2) body [] pos) (tS X.K C W (.for_ tt .range (.cons te .nil) tb)) := by
  refine cvS (ps_for hp hc (pi_range1 hgl hm (pa_cons he pa_nil (star_cons hst)) (star_cons hst)) hg hb (by intro _; rfl)) fun D σ H h => ?_
  obtain ⟨M, env, st, er, sr, h⟩ := co_one (co_for (by decide) h)
  refine ⟨M, env, st, er, sr, h.imp fun rs M1 st1 H1 p1 sr1 s1 h v rv => ?_⟩
  obtain ⟨M2, env2, st2, ds, xs, er2, sr2, rl, ew, h⟩ := h v rv
  obtain ⟨d, rfl, r⟩ := one_len rl
  cases d with
  | int j =>
    cases r
    cases hi : inside j with
    | false => simp only [walk, hi] at ew; cases ew
    | true =>
      simp only [walk, hi, if_true] at ew
      cases ew
      obtain ⟨h1, h2⟩ := inside_ok hi
      exact ⟨j, rfl, h1, h2, for_end (walks_range 0 j.toNat) er2 sr2 h⟩
  | _ => cases ew
theorem ss_forR2 {tg a b : Expr} {body : List Stmt} {tt ta tb tx : Mi.T} {p p2 pos : Pos} (hp : PassesOwn (model X.prog X.w) X.A X.env X.xe) (hc : X.calm = true) (hgl : Gl X "range") (hm : X.mg "range" = none) (ha : PE X a (tE X.K C W ta)) (hb : PE X b (tE X.K C W tb)) (hg : PG X tg (tG X.K C W tt)) (hx : PSs X body (tSs X.K C W tx))
    (hsa : nostar a = true) (hsb : nostar b = true) : PS X (.For tg (.Call (.Name "range" p) [a, b] [] p2) body [] pos) (tS X.K C W (.for_ tt .range (.cons ta (.cons tb .nil)) tx)) := by
  refine cvS (ps_for hp hc (pi_range2 hgl hm (pa_cons ha (pa_cons hb pa_nil (star_cons hsb)) (star_cons hsa)) (by rw [star_cons hsa, star_cons hsb]; rfl) (star_cons hsb)) hg hx (by intro _; rfl)) fun D σ H h => ?_
  obtain ⟨M, env, st, er, sr, h⟩ := co_two (co_for (by decide) h)
  refine ⟨M, env, st, er, sr, h.imp fun rs M1 st1 H1 p1 sr1 s1 h v rv => ?_⟩
  obtain ⟨M', env', st', er', sr', h⟩ := h v rv
  refine ⟨M', env', st', er', sr', h.imp fun rs M1 st1 H1 p1 sr1 s1 h u ru => ?_⟩
  obtain ⟨M2, env2, st2, ds, xs, er2, sr2, rl, ew, h⟩ := h u ru
  obtain ⟨d, e, rfl, r1, r2⟩ := two_len rl
  cases d with
  | int i =>
    cases e with
    | int j =>
      cases r1; cases r2
      cases hi : inside i && inside j with
      | false => simp only [walk, hi] at ew; cases ew
      | true =>
        simp only [walk, hi, if_true] at ew
        cases ew
        have hh := Bool.and_eq_true_iff.mp hi
        obtain ⟨h1, h2⟩ := inside_ok hh.1
        obtain ⟨h3, h4⟩ := inside_ok hh.2
        exact ⟨i, j, rfl, ⟨h1, h2, h3, h4⟩, for_end (walks_range i (j - i).toNat) er2 sr2 h⟩
    | _ => cases ew
  | _ => cases ew
theorem ss_forE {elts : List Expr} {kk : Nat} {tpos : Pos} {e : Expr} {body : List Stmt} {tt te tb : Mi.T} {p p2 pos : Pos} (hp : PassesOwn (model X.prog X.w) X.A X.env X.xe) (hc : X.calm = true) (hgl : Gl X "enumerate") (hm : X.mg "enumerate" = none) (he : PE X e (tE X.K C W te)) (hg : PG X (.Tuple elts kk tpos) (tG X.K C W tt)) (hb : PSs X body (tSs X.K C W tb))
    (hst : nostar e = true) : PS X (.For (.Tuple elts kk tpos) (.Call (.Name "enumerate" p) [e] [] p2) body [] pos) (tS X.K C W (.for_ tt .enum (.cons te .nil) tb)) := by
  refine cvS (ps_for hp hc (pi_enumA hgl hm (pa_cons he pa_nil (star_cons hst)) (star_cons hst)) hg hb (by intro _; rfl)) fun D σ H h => ?_
  obtain ⟨M, env, st, er, sr, h⟩ := co_one (co_for (by decide) h)
  refine ⟨M, env, st, er, sr, h.imp fun rs M1 st1 H1 p1 sr1 s1 h v rv => ?_⟩
  obtain ⟨M2, env2, st2, ds, xs, er2, sr2, rl, ew, h⟩ := h v rv
  obtain ⟨d, rfl, r⟩ := one_len rl
  cases d with
  | list ys =>
    cases ew
    cases r with
    | lst nl ra x => exact .inl ⟨_, _, rfl, .inl ⟨.inl ra, for_end (walks_enumL nl ra x) er2 sr2 h⟩⟩
  | tuple ys =>
    cases ew
    cases r with
    | tup nl ra x => exact .inl ⟨_, _, rfl, .inr ⟨.inl (.inl ra), for_end (walks_enumT nl ra x) er2 sr2 h⟩⟩
  | str y =>
    cases ew
    cases r with
    | str => exact .inr ⟨_, rfl, for_end (walks_enumS y) er2 sr2 h⟩
  | _ => cases ew
/-! a name's object is changed no more -/
theorem ss_frz {es : List Stmt} {i : Nat} {ts : Mi.T} (h : PSs X es (tSs X.K C W ts)) : PSs X es (tSs X.K C W (.cons (.frz i) ts)) := by
  refine cvSs h fun D σ H ⟨M, env, st, er, sr, h⟩ => ?_
  rw [exs, ex] at h
  cases e : env[i]? with
  | none => simp only [frzE, e] at h; exact h.elim
  | some o =>
    cases o with
    | none => simp only [frzE, e] at h; exact h.elim
    | some r =>
      cases r with
      | val d => simp only [frzE, e] at h; exact h.elim
      | ref n =>
        cases e2 : content st (.ref n) with
        | none => simp only [frzE, e, e2] at h; exact h.elim
        | some d =>
          simp only [frzE, e, e2] at h
          obtain ⟨v, h1, a, rfl, hM⟩ := er.at_ i _ e
          cases q : st[n]? with
          | none => simp only [content, q] at e2; cases e2
          | some o =>
            simp only [content, q] at e2
            have ob := sr.obj n o a q hM
            obtain ⟨s, sr', nl⟩ := sr.freeze hM q
            have er' := er.mono (List.prefix_refl _) s
            have rv : Rp X.K (Lv M (st.set n .dead)) H (.ref a) d := by
              cases o with
              | lst ds =>
                cases e2
                obtain ⟨xs, e1, r1⟩ := ob
                exact .lst nl (.inl e1) (r1.mono s)
              | dic kvs =>
                cases e2
                rcases ob with ⟨ks, e1, q1, r1⟩ | ⟨ks, e1, q1, r1⟩
                · exact .dicA nl (.inl e1) q1 (r1.mono s)
                · exact .dicT nl (.inl e1) q1 (r1.mono s)
              | tpl _ => cases e2
              | dead => cases e2
            refine ⟨M, env.set i (some (.val d)), st.set n .dead, ⟨by rw [List.length_set]; exact er'.len, fun j r2 ej => ?_⟩, sr', PR.pre (M := M) (H := H) (st := st) h (List.prefix_refl _) s⟩
            by_cases hj : i = j
            · subst hj
              rw [List.getElem?_set_self (List.getElem?_eq_some_iff.mp e).1] at ej
              cases ej
              exact ⟨_, h1, rv⟩
            · rw [List.getElem?_set_ne hj] at ej
              exact er'.at_ j r2 ej
end
end MiS

namespace MiS
open PySem PySem.Spec PyProof.Rows L2 Mi MiG
variable [Tb]
section
variable {X : Cx} {C : Cn} {W : Wish} {K : PySem.W.Frag} {M : List Addr} {H : Hp} {st : Sto}
/-- a dict's data as entries -/
theorem dc_ent {a : Addr} {ds : List (D × D)} (c : DcP K (Lv M st) H a ds) : ∃ u, Rd H a u ∧ isDic u = true ∧ Mut (some u) := by
  rcases c with ⟨kvs, r, _⟩ | ⟨kvs, r, _⟩
  · exact ⟨_, r, rfl, trivial⟩
  · exact ⟨_, r, rfl, trivial⟩
/-- .. told of this very thing -/
def DcU (K : PySem.W.Frag) (L : Addr → Prop) (H : Hp) (ds : List (D × D)) : HO → Prop
  | .dK kvs => kvs.map (fun p => kD p.1) = ds.map (·.1) ∧ RpL K L H (kvs.map (·.2)) (ds.map (·.2))
  | .dT kvs => kvs.map (fun p => kDs p.1) = ds.map (·.1) ∧ RpL K L H (kvs.map (·.2)) (ds.map (·.2))
  | _ => False
theorem dc_u {a : Addr} {ds : List (D × D)} (c : DcP K (Lv M st) H a ds) : ∃ u, Rd H a u ∧ isDic u = true ∧ Mut (some u) ∧ DcU K (Lv M st) H ds u := by
  rcases c with ⟨kvs, r, e1, e2⟩ | ⟨kvs, r, e1, e2⟩
  · exact ⟨.dK kvs, r, rfl, trivial, e1, e2⟩
  · exact ⟨.dT kvs, r, rfl, trivial, e1, e2⟩
theorem DcU.mono {L' : Addr → Prop} {H' : Hp} {L : Addr → Prop} (s : Step L H L' H') {ds : List (D × D)} {u : HO} (h : DcU K L H ds u) : DcU K L' H' ds u := by
  cases u with
  | dK kvs => exact ⟨h.1, h.2.mono s⟩
  | dT kvs => exact ⟨h.1, h.2.mono s⟩
  | _ => exact h.elim
theorem key_rp {L : Addr → Prop} (k : Key) : Rp K L H (kV k) (kD k) := by
  cases k with
  | inl i => exact .int i
  | inr z => exact .str z
/-- the pairs stand for the data's -/
theorem ent_rp (sr : SR K M H st) {u : HO} {ds : List (D × D)} (c : DcU K (Lv M st) H ds u) {ps : List (V × V)} (e : Ent H u ps) : Paired (fun (q : V × V) (d : D × D) => Rp K (Lv M st) H q.1 d.1 ∧ Rp K (Lv M st) H q.2 d.2) ps ds := by
  cases u with
  | dK kvs =>
    obtain ⟨c1, c2⟩ := c
    have e : ps = kvs.map fun p => (kV p.1, p.2) := e
    subst e
    induction kvs generalizing ds with
    | nil =>
      cases ds with
      | nil => exact .nil
      | cons _ _ => cases c1
    | cons p kvs ih =>
      cases ds with
      | nil => cases c1
      | cons d ds =>
        have e1 : kD p.1 = d.1 := (List.cons.inj c1).1
        cases c2 with
        | cons r1 r2 => exact .cons ⟨by rw [← e1]; exact key_rp _, r1⟩ (ih (List.cons.inj c1).2 r2 rfl)
  | dT kvs =>
    obtain ⟨c1, c2⟩ := c
    have e' : Paired (fun (p : List Key × V) (q : V × V) => ∃ b, q.1 = .ref b ∧ H b = some (.tup (p.1.map kV)) ∧ q.2 = p.2) kvs ps := e
    clear e
    induction e' generalizing ds with
    | nil =>
      cases ds with
      | nil => exact .nil
      | cons _ _ => cases c1
    | @cons p q kvs ps h t ih =>
      cases ds with
      | nil => cases c1
      | cons d ds =>
        have e1 : kDs p.1 = d.1 := (List.cons.inj c1).1
        obtain ⟨b, f1, f2, f3⟩ := h
        cases c2 with
        | cons r1 r2 => exact .cons ⟨by rw [← e1, f1]; exact .tup (sr.tup_nl f2) f2 (keyL_rp p.1), by rw [f3]; exact r1⟩ (ih (List.cons.inj c1).2 r2)
  | _ => exact c.elim
/-- more stands -/
theorem SR.more {H' : Hp} (sr : SR K M H st) (k : ∀ b o, H b = some o → H' b = some o) : SR K M H' st ∧ Step (Lv M st) H (Lv M st) H' := by
  have s : Step (Lv M st) H (Lv M st) H' := Step.mk' (fun b u e n => ⟨k b u e, n⟩) fun b e => by
    cases q : H b with
    | none => exact absurd q e
    | some o => rw [k b o q]; exact fun z => nomatch z
  refine ⟨⟨sr.len, sr.nd, fun n o a h1 h2 => (sr.obj n o a h1 h2).mono s fun u e => k a u e, fun P hP => ?_⟩, s⟩
  obtain ⟨ps, e, t⟩ := sr.tab P hP
  exact ⟨ps, k P _ e, t⟩
/-- what can't change is locked -/
theorem SR.lock {d : Addr} {od : Obj} {u : HO} (sr : SR K M H st) (hd : H d = some u) (mu : Mut (some u)) (nl : ¬ Lv M st d) : SR K M (upd H d (.frz od u)) st ∧ Step (Lv M st) H (Lv M st) (upd H d (.frz od u)) := by
  have s : Step (Lv M st) H (Lv M st) (upd H d (.frz od u)) := ⟨fun b v e _ n => by
    by_cases z : b = d
    · subst z
      rw [hd] at e
      cases e
      exact ⟨.inr ⟨mu, od, upd_same⟩, n⟩
    · exact ⟨.inl (by rw [upd_ne z]; exact e), n⟩, fun b e => by
    by_cases z : b = d
    · subst z; rw [upd_same]; exact fun q => nomatch q
    · rw [upd_ne z]; exact e⟩
  refine ⟨⟨sr.len, sr.nd, fun n o a h1 h2 => ?_, fun P hP => ?_⟩, s⟩
  · have ob := sr.obj n o a h1 h2
    by_cases z : a = d
    · subst z
      cases o with
      | dead => show upd H a _ a ≠ none; rw [upd_same]; exact fun q => nomatch q
      | lst xs => exact absurd ⟨n, _, h2, h1, fun q => nomatch q⟩ nl
      | dic xs => exact absurd ⟨n, _, h2, h1, fun q => nomatch q⟩ nl
      | tpl xs => exact absurd ⟨n, _, h2, h1, fun q => nomatch q⟩ nl
    · exact ob.mono s fun v e => by rw [upd_ne z]; exact e
  · obtain ⟨ps, e, t⟩ := sr.tab P hP
    refine ⟨ps, ?_, t⟩
    rw [upd_ne (fun z => by rw [z, hd] at e; cases e; exact mu)]
    exact e
def pairT (p : D × D) : D := .tuple [p.1, p.2]
theorem walk_litems {kvs : List (D × D)} : walk .litems [.dict kvs] = some (kvs.map pairT) := rfl
theorem ts_rp {ts : List Addr} {ps : List (V × V)} {ds : List (D × D)} {L : Addr → Prop} {H' : Hp} (h : Paired (fun (q : V × V) (d : D × D) => Rp K L H' q.1 d.1 ∧ Rp K L H' q.2 d.2) ps ds) :
    Paired (fun (t : Addr) (q : V × V) => H' t = some (.tup [q.1, q.2])) ts ps → (∀ t ∈ ts, ¬ L t) → RpL K L H' (ts.map V.ref) (ds.map pairT) := by
  induction h generalizing ts with
  | nil => intro t _; cases t; exact .nil
  | cons r _ ih =>
    intro t n
    cases t with
    | cons a b => exact .cons (.tup (n _ List.mem_cons_self) a (.cons r.1 (.cons r.2 .nil))) (ih b fun t ht => n t (List.mem_cons_of_mem _ ht))
theorem ss_forLI {tg e : Expr} {body : List Stmt} {tt te tb : Mi.T} {p apos cpos p2 pos : Pos} (hp : PassesOwn (model X.prog X.w) X.A X.env X.xe) (hc : X.calm = true) (hgl : Gl X "list") (hm : X.mg "list" = none) (he : PE X e (tE X.K C W te)) (hg : PG X tg (tG X.K C W tt)) (hb : PSs X body (tSs X.K C W tb))
    (hbase : attributeBase e "items" X.env (eval e X.env) = eval e X.env) (hline : (apos.endLine == cpos.line) = true)
    (hs : ∀ x, foldedSetIterable (.Call (.Name "list" p) [.Call (.Attribute e "items" apos) [] [] cpos] [] p2) X.env x = pure x) :
    PS X (.For tg (.Call (.Name "list" p) [.Call (.Attribute e "items" apos) [] [] cpos] [] p2) body [] pos) (tS X.K C W (.for_ tt .litems (.cons te .nil) tb)) := by
  refine cvS (ps_for hp hc (pi_seq (pe_listItemsA hc he hgl hm hbase hline)) hg hb hs) fun D σ H h => ?_
  obtain ⟨M, env, st, er, sr, h⟩ := h
  rw [ex, evs] at h
  refine ⟨M, env, st, er, sr, (PR.bind (PR.bind h)).imp fun r M1 st1 H1 p1 sr1 s1 h v rv => ?_⟩
  rw [evs] at h
  have h := PR.here (a := [r]) sr1 h
  have e0 : srcs .litems st1 [r] = vals st1 [r] := rfl
  rw [e0] at h
  cases e1 : vals st1 [r] with
  | none => simp only [e1] at h; exact h.elim
  | some ds =>
    simp only [e1] at h
    cases e2 : walk .litems ds with
    | none => simp only [e2] at h; exact h.elim
    | some xs =>
      simp only [e2] at h
      have cl := vals_cp sr1 (RVs.cons rv .nil) e1
      match ds, e2, cl with
      | [.dict kvs], e2, cl =>
        cases e2
        obtain ⟨v', ev', c⟩ := cl.one
        cases ev'
        obtain ⟨a, rfl, dc⟩ := c.dict
        obtain ⟨u, ru, iu, mu, du⟩ := dc_u dc
        refine ⟨a, u, rfl, ru, iu, fun ps H' p ts ent k hp1 hts hpt hl pr => .inl ⟨p, rfl, ⟨ts.map V.ref, .inl (.inl hl)⟩, ?_⟩⟩
        obtain ⟨sr2, s2⟩ := sr1.more k
        have nl : ∀ t, H1 t = none → ¬ Lv M1 st1 t := fun t ht => sr1.nl ht
        have pr2 := ent_rp sr2 (du.mono s2) (ps := ps) (by
          cases u with
          | dK kvs => exact ent
          | dT kvs =>
            have ent : Paired (fun (p : List Key × V) (q : V × V) => ∃ b, q.1 = .ref b ∧ H1 b = some (.tup (p.1.map kV)) ∧ q.2 = p.2) kvs ps := ent
            have : ∀ {kvs : List (List Key × V)} {ps : List (V × V)}, Paired (fun (p : List Key × V) (q : V × V) => ∃ b, q.1 = .ref b ∧ H1 b = some (.tup (p.1.map kV)) ∧ q.2 = p.2) kvs ps → Paired (fun (p : List Key × V) (q : V × V) => ∃ b, q.1 = .ref b ∧ H' b = some (.tup (p.1.map kV)) ∧ q.2 = p.2) kvs ps := by
              intro kvs ps h
              induction h with
              | nil => exact .nil
              | cons h _ ih => obtain ⟨b, f1, f2, f3⟩ := h; exact .cons ⟨b, f1, k b _ f2, f3⟩ ih
            exact this ent
          | _ => exact ent.elim)
        exact for_end (walks_list (nl p hp1) (.inl hl) (ts_rp pr2 pr fun t ht => nl t (hts t ht))) ((er.mono p1 s1).mono (List.prefix_refl _) s2) sr2 (h.pre (List.prefix_refl _) s2)
      | [], e2, _ => cases e2
      | [.none], e2, _ => cases e2
      | [.bool _], e2, _ => cases e2
      | [.int _], e2, _ => cases e2
      | [.str _], e2, _ => cases e2
      | [.list _], e2, _ => cases e2
      | [.tuple _], e2, _ => cases e2
      | _ :: _ :: _, e2, _ => simp [walk] at e2
/-! ### a locked dict is walked -/
theorem walks_itemsK {M1 : List Addr} {H1 : Hp} {st1 : Sto} {a : Addr} {o : Obj} {kvs : List (Key × V)} {ds : List (D × D)} (nl : ¬ Lv M1 st1 a) (ra : H1 a = some (.frz o (.dK kvs))) (c : DcU K (Lv M1 st1) H1 ds (.dK kvs)) : Walks K M1 H1 st1 (Iti a o kvs) (ds.map pairT) := by
  intro M H st p s sr
  have q : H a = some (.frz o (.dK kvs)) := (s.keep a _ ra (fun ps q => by cases q) nl).1.ex id
  have c2 := c.mono s
  have pr := ent_rp sr c2 (ps := kvs.map fun p : Key × V => (kV p.1, p.2)) rfl
  have l : kvs.length = ds.length := by have := congrArg List.length c.1; simpa using this
  refine ⟨fun i d e => ?_, q, by rw [List.length_map]; omega⟩
  rw [List.getElem?_map] at e
  cases e2 : ds[i]? with
  | none => rw [e2] at e; cases e
  | some dd =>
    rw [e2] at e
    cases e
    have hi := (List.getElem?_eq_some_iff.mp e2).1
    refine ⟨⟨q, by omega⟩, fun x H' ⟨T, k, v, g1, g2, g3, g4⟩ => ?_⟩
    subst g2; subst g4
    obtain ⟨d2, f1, f2, f3⟩ := LiI.paired_get pr (i := i) (x := (kV k, v)) (by rw [List.getElem?_map, g1]; rfl)
    rw [e2] at f1
    cases f1
    exact pair_end sr g3 f2 f3
theorem walks_itemsT {M1 : List Addr} {H1 : Hp} {st1 : Sto} {a : Addr} {o : Obj} {kvs : List (List Key × V)} {ds : List (D × D)} (nl : ¬ Lv M1 st1 a) (ra : H1 a = some (.frz o (.dT kvs))) (c : DcU K (Lv M1 st1) H1 ds (.dT kvs)) : Walks K M1 H1 st1 (ItiT a o kvs) (ds.map pairT) := by
  intro M H st p s sr
  have q : H a = some (.frz o (.dT kvs)) := (s.keep a _ ra (fun ps q => by cases q) nl).1.ex id
  have c2 := c.mono s
  have l : kvs.length = ds.length := by have := congrArg List.length c.1; simpa using this
  refine ⟨fun i d e => ?_, q, by rw [List.length_map]; omega⟩
  rw [List.getElem?_map] at e
  cases e2 : ds[i]? with
  | none => rw [e2] at e; cases e
  | some dd =>
    rw [e2] at e
    cases e
    have hi := (List.getElem?_eq_some_iff.mp e2).1
    refine ⟨⟨q, by omega⟩, fun x H' ⟨T, k, v, b, g1, g2, g3, gb, g4⟩ => ?_⟩
    subst g2; subst g4
    have k1 : kDs k = dd.1 := by
      have := congrArg (·[i]?) c.1
      simp only [List.getElem?_map, g1, e2, Option.map_some] at this
      exact Option.some.inj this
    obtain ⟨d2, f1, f2⟩ := c2.2.get' (i := i) (v := v) (by rw [List.getElem?_map, g1]; rfl)
    rw [List.getElem?_map, e2] at f1
    cases f1
    exact pair_end sr g3 (d := dd.1) (by rw [← k1]; exact .tup (sr.tup_nl gb) gb (keyL_rp k)) f2
theorem walks_keysK {M1 : List Addr} {H1 : Hp} {st1 : Sto} {a : Addr} {o : Obj} {kvs : List (Key × V)} {ds : List (D × D)} (nl : ¬ Lv M1 st1 a) (ra : H1 a = some (.frz o (.dK kvs))) (c : DcU K (Lv M1 st1) H1 ds (.dK kvs)) : Walks K M1 H1 st1 (Itk a o kvs) (ds.map (·.1)) := by
  intro M H st p s sr
  have q : H a = some (.frz o (.dK kvs)) := (s.keep a _ ra (fun ps q => by cases q) nl).1.ex id
  have l : kvs.length = ds.length := by have := congrArg List.length c.1; simpa using this
  refine ⟨fun i d e => ?_, q, by rw [List.length_map]; omega⟩
  rw [List.getElem?_map] at e
  cases e2 : ds[i]? with
  | none => rw [e2] at e; cases e
  | some dd =>
    rw [e2] at e
    cases e
    have hi := (List.getElem?_eq_some_iff.mp e2).1
    refine ⟨⟨q, by omega⟩, fun x H' ⟨eH, k, v, g1, g2⟩ => ?_⟩
    subst eH; subst g2
    have k1 : kD k = dd.1 := by
      have := congrArg (·[i]?) c.1
      simp only [List.getElem?_map, g1, e2, Option.map_some] at this
      exact Option.some.inj this
    exact ⟨sr, Step.refl, by show Rp K _ _ _ dd.1; rw [← k1]; exact key_rp k⟩
theorem walks_keysT {M1 : List Addr} {H1 : Hp} {st1 : Sto} {a : Addr} {o : Obj} {kvs : List (List Key × V)} {ds : List (D × D)} (nl : ¬ Lv M1 st1 a) (ra : H1 a = some (.frz o (.dT kvs))) (c : DcU K (Lv M1 st1) H1 ds (.dT kvs)) : Walks K M1 H1 st1 (Itkt a o kvs) (ds.map (·.1)) := by
  intro M H st p s sr
  have q : H a = some (.frz o (.dT kvs)) := (s.keep a _ ra (fun ps q => by cases q) nl).1.ex id
  have l : kvs.length = ds.length := by have := congrArg List.length c.1; simpa using this
  refine ⟨fun i d e => ?_, q, by rw [List.length_map]; omega⟩
  rw [List.getElem?_map] at e
  cases e2 : ds[i]? with
  | none => rw [e2] at e; cases e
  | some dd =>
    rw [e2] at e
    cases e
    have hi := (List.getElem?_eq_some_iff.mp e2).1
    refine ⟨⟨q, by omega⟩, fun x H' ⟨eH, k, v, b, g1, g2, gb⟩ => ?_⟩
    subst eH; subst g2
    have k1 : kDs k = dd.1 := by
      have := congrArg (·[i]?) c.1
      simp only [List.getElem?_map, g1, e2, Option.map_some] at this
      exact Option.some.inj this
    exact ⟨sr, Step.refl, by show Rp K _ _ _ dd.1; rw [← k1]; exact .tup (sr.tup_nl gb) gb (keyL_rp k)⟩
/-- a value that is a dict: what it is, and that it can't change -/
theorem dic_at {v : V} {ds : List (D × D)} (r : Rp K (Lv M st) H v (.dict ds)) : ∃ a u, v = .ref a ∧ ¬ Lv M st a ∧ Rd H a u ∧ isDic u = true ∧ Mut (some u) ∧ DcU K (Lv M st) H ds u := by
  cases r with
  | dicA n q e1 e2 => exact ⟨_, _, rfl, n, q, rfl, trivial, e1, e2⟩
  | dicT n q e1 e2 => exact ⟨_, _, rfl, n, q, rfl, trivial, e1, e2⟩
/-- the dict is locked, then walked -/
theorem lock_end {w : Mi.It} {xs : List D} {kvs : List (D × D)} {v : V} {M1 : List Addr} {H1 : Hp} {st1 : Sto} {tg b : Mi.T} {σ : L2.St} {env : En} {D : Ends} (JK : Addr → Obj → List (Key × V) → L2.It) (JT : Addr → Obj → List (List Key × V) → L2.It)
    (wK : ∀ {H1 : Hp} {a : Addr} {o : Obj} {vs : List (Key × V)}, ¬ Lv M1 st1 a → H1 a = some (.frz o (.dK vs)) → DcU K (Lv M1 st1) H1 kvs (.dK vs) → Walks K M1 H1 st1 (JK a o vs) xs)
    (wT : ∀ {H1 : Hp} {a : Addr} {o : Obj} {vs : List (List Key × V)}, ¬ Lv M1 st1 a → H1 a = some (.frz o (.dT vs)) → DcU K (Lv M1 st1) H1 kvs (.dT vs) → Walks K M1 H1 st1 (JT a o vs) xs)
    (r : Rp K (Lv M1 st1) H1 v (.dict kvs)) (er : ER K M1 (Lv M1 st1) H1 env σ) (sr : SR K M1 H1 st1)
    (h : PR K M1 H1 st1 (loopF (fun x env st => (asgn C tg (.val x) env st).bind fun env st => exs C b env st) xs env st1) W (QF K D)) {R : L2.It → Hp → Prop}
    (go : ∀ J H2, (∃ Wm : Nat → Nat → L2.St → Hp → Prop, (∃ m, Wm 0 m σ H2) ∧ ∀ i m σ H, Wm i m σ H →
      (J.stop i H ∧ D.nx σ H) ∨ (J.go i H ∧ ∃ N : L2.St → Hp → Prop, (∀ σ' H', N σ' H' → ∃ m', m' < m ∧ Wm (i + 1) m' σ' H') ∧ ∀ x H', J.yld i H x H' → tG K C W tg x σ H' fun σ2 H2 => tSs K C W b { D with nx := N, ct := N, bk := D.nx } σ2 H2)) → R J H2) :
    ∃ (d : Addr) (u : HO), v = .ref d ∧ ((∃ od, H1 d = some (.frz od u) ∧ (∃ d' o, v = .ref d' ∧ ((∃ kvs, H1 d' = some (.frz o (.dK kvs)) ∧ R (JK d' o kvs) H1) ∨ ∃ kvs, H1 d' = some (.frz o (.dT kvs)) ∧ R (JT d' o kvs) H1))) ∨
      (H1 d = some u ∧ Mut (some u) ∧ ∀ od, (∃ d' o, v = .ref d' ∧ ((∃ kvs, upd H1 d (.frz od u) d' = some (.frz o (.dK kvs)) ∧ R (JK d' o kvs) (upd H1 d (.frz od u))) ∨ ∃ kvs, upd H1 d (.frz od u) d' = some (.frz o (.dT kvs)) ∧ R (JT d' o kvs) (upd H1 d (.frz od u)))))) := by
  obtain ⟨a, u, rfl, nl, rd, hu, mu, du⟩ := dic_at r
  refine ⟨a, u, rfl, ?_⟩
  rcases rd with rd | ⟨od, rd⟩
  · refine .inr ⟨rd, mu, fun od => ?_⟩
    obtain ⟨sr2, s2⟩ := sr.lock (od := od) rd mu nl
    have du2 := du.mono s2
    have er2 := er.mono (List.prefix_refl _) s2
    have h2 := h.pre (List.prefix_refl _) s2
    refine ⟨a, od, rfl, ?_⟩
    cases u with
    | dK vs => exact .inl ⟨vs, upd_same, go _ _ (for_end (wK nl upd_same du2) er2 sr2 h2)⟩
    | dT vs => exact .inr ⟨vs, upd_same, go _ _ (for_end (wT nl upd_same du2) er2 sr2 h2)⟩
    | _ => cases hu
  · refine .inl ⟨od, rd, a, od, rfl, ?_⟩
    cases u with
    | dK vs => exact .inl ⟨vs, rd, go _ _ (for_end (wK nl rd du) er sr h)⟩
    | dT vs => exact .inr ⟨vs, rd, go _ _ (for_end (wT nl rd du) er sr h)⟩
    | _ => cases hu
theorem ss_forDI {elts : List Expr} {kk : Nat} {tpos : Pos} {e : Expr} {body : List Stmt} {tt te tb : Mi.T} {apos cpos pos : Pos} (hp : PassesOwn (model X.prog X.w) X.A X.env X.xe) (hc : X.calm = true) (he : PE X e (tE X.K C W te)) (hg : PG X (.Tuple elts kk tpos) (tG X.K C W tt)) (hb : PSs X body (tSs X.K C W tb))
    (hbase : attributeBase e "items" X.env (eval e X.env) = eval e X.env) (hline : (apos.endLine == cpos.line) = true) (hs : ∀ x, foldedSetIterable (.Call (.Attribute e "items" apos) [] [] cpos) X.env x = pure x) :
    PS X (.For (.Tuple elts kk tpos) (.Call (.Attribute e "items" apos) [] [] cpos) body [] pos) (tS X.K C W (.for_ tt .items (.cons te .nil) tb)) := by
  refine cvS (ps_for hp hc (pi_itemsA (pe_after he) hbase hline) hg hb hs) fun D σ H h => ?_
  obtain ⟨M, env, st, er, sr, h⟩ := co_one (co_for (by decide) h)
  refine ⟨M, env, st, er, sr, h.imp fun rs M1 st1 H1 p1 sr1 s1 h v rv => ?_⟩
  obtain ⟨M2, env2, st2, ds, xs, er2, sr2, rl, ew, h⟩ := h v rv
  obtain ⟨d, rfl, r⟩ := one_len rl
  cases d with
  | dict kvs =>
    cases ew
    exact lock_end (w := .items) Iti ItiT walks_itemsK walks_itemsT r er2 sr2 h fun J H2 q => q
  | _ => cases ew
theorem ss_forDK {tg e : Expr} {body : List Stmt} {tt te tb : Mi.T} {pos : Pos} (hp : PassesOwn (model X.prog X.w) X.A X.env X.xe) (hc : X.calm = true) (he : PE X e (tE X.K C W te)) (hg : PG X tg (tG X.K C W tt)) (hb : PSs X body (tSs X.K C W tb))
    (hs : ∀ x, foldedSetIterable e X.env x = pure x) : PS X (.For tg e body [] pos) (tS X.K C W (.for_ tt .keys (.cons te .nil) tb)) := by
  refine cvS (ps_for hp hc (pi_keys (pe_after he)) hg hb hs) fun D σ H h => ?_
  obtain ⟨M, env, st, er, sr, h⟩ := co_one (co_for (by decide) h)
  refine ⟨M, env, st, er, sr, h.imp fun rs M1 st1 H1 p1 sr1 s1 h v rv => ?_⟩
  obtain ⟨M2, env2, st2, ds, xs, er2, sr2, rl, ew, h⟩ := h v rv
  obtain ⟨d, rfl, r⟩ := one_len rl
  cases d with
  | dict kvs =>
    cases ew
    exact lock_end (w := .keys) Itk Itkt walks_keysK walks_keysT r er2 sr2 h fun J H2 q => q
  | _ => cases ew
end
end MiS

namespace MiS
open PySem PySem.Spec PyProof.Rows L2 Mi MiG
variable [Tb]
section
variable {X : Cx} {C : Cn} {W : Wish} {K : PySem.W.Frag}
/-! ### comprehensions -/
/-- all names of a target are among own -/
def tgIn (own : List Nat) : Mi.T → Bool
  | .tname i => own.contains i
  | .ttup ts => tgIn own ts
  | .cons a b => tgIn own a && tgIn own b
  | .nil => true
  | _ => false
theorem wipe_set_in {own : List Nat} {σ : L2.St} {i : Nat} {x : Option V} (h : i ∈ own) : wipe (σ.set i x) own = wipe σ own := by
  refine List.ext_getElem? fun j => ?_
  by_cases hj : j ∈ own
  · have a : ∀ σ : L2.St, ∀ vs : List Nat, j ∈ vs → (wipe σ vs)[j]? = if j < σ.length then some none else none := by
      intro σ vs
      induction vs with
      | nil => intro h; cases h
      | cons v vs ih =>
        intro h
        show ((wipe σ vs).set v none)[j]? = _
        by_cases hv : v = j
        · subst hv
          by_cases hl : v < σ.length
          · rw [List.getElem?_set_self (by rw [wipe_length]; exact hl), if_pos hl]
          · rw [if_neg hl, List.getElem?_eq_none (by rw [List.length_set, wipe_length]; omega)]
        · rw [List.getElem?_set_ne hv]
          rcases List.mem_cons.mp h with e | h
          · exact absurd e.symm hv
          · exact ih h
    rw [a _ _ hj, a _ _ hj, List.length_set]
  · rw [wipe_out hj, wipe_out hj, List.getElem?_set_ne (fun (e : i = j) => hj (by rw [← e]; exact h))]
abbrev QW (K : PySem.W.Frag) (own : List Nat) (σ0 : L2.St) (Q : L2.St → Hp → Prop) : En → List Addr → Sto → Hp → Prop := fun env M st H => ∀ σ, ER K M (Lv M st) H env σ → wipe σ own = wipe σ0 own → Q σ H
def tGw (K : PySem.W.Frag) (C : Cn) (W : Wish) (own : List Nat) (t : Mi.T) : TG := fun v σ H Q => ∃ M env st r, ER K M (Lv M st) H env σ ∧ SR K M H st ∧ RVp K M (Lv M st) H v r ∧ PR K M H st (asgn C t r env st) W (QW K own σ Q)
def tGsw (K : PySem.W.Frag) (C : Cn) (W : Wish) (own : List Nat) (t : Mi.T) : TGs := fun vs σ H Q => ∃ M env st ds, ER K M (Lv M st) H env σ ∧ SR K M H st ∧ RpL K (Lv M st) H vs ds ∧ PR K M H st (asgs C t ds env st) W (QW K own σ Q)
theorem sgw_name {own : List Nat} {i : Nat} {x : Str} {pos : Pos} (hN : X.N.Nodup) (hi : X.N[i]? = some x) (hx : Loc X.env.scope x) (hf : X.fn x = true ∨ X.env.scope.names.lookup x = some .local) (ho : i ∈ own) : PG X (.Name x pos) (tGw X.K C W own (.tname i)) := by
  refine cvG (pg_name hN hi hx hf) fun v σ H Q ⟨M, env, st, r, er, sr, rv, h⟩ => ?_
  rw [asgn] at h
  exact PR.here sr h _ (er.set i rv) (wipe_set_in ho)
theorem sgsw_nil {own : List Nat} : PGs X [] (tGsw X.K C W own .nil) := by
  refine cvGs pgs_nil fun vs σ H Q ⟨M, env, st, ds, er, sr, rl, h⟩ => ?_
  cases ds with
  | nil => cases rl; rw [asgs] at h; exact ⟨rfl, PR.here sr h _ er rfl⟩
  | cons d ds => rw [asgs] at h; exact h.elim; all_goals simp
theorem sgsw_cons {own : List Nat} {e : Expr} {es : List Expr} {t ts : Mi.T} (h1 : PG X e (tGw X.K C W own t)) (h2 : PGs X es (tGsw X.K C W own ts)) (hs : (assignEach (e :: es) X.env).map (·.2) = assign e X.env :: (assignEach es X.env).map (·.2)) : PGs X (e :: es) (tGsw X.K C W own (.cons t ts)) := by
  refine cvGs (pgs_cons h1 h2 hs) fun vs σ H Q ⟨M, env, st, ds, er, sr, rl, h⟩ => ?_
  cases ds with
  | nil => rw [asgs] at h; exact h.elim; all_goals simp
  | cons d ds =>
    cases rl with
    | cons r1 r2 =>
      rw [asgs] at h
      refine ⟨_, _, rfl, M, env, st, .val d, er, sr, r1, (PR.bind h).imp fun env1 M1 st1 H1 p1 sr1 s1 h σ1 er1 e1 => ?_⟩
      exact ⟨M1, env1, st1, ds, er1, sr1, r2.mono s1, h.imp fun env2 M2 st2 H2 p2 sr2 s2 h σ2 er2 e2 => h σ2 er2 (e2.trans e1)⟩
theorem sgw_tup {own : List Nat} {es : List Expr} {k : Nat} {pos : Pos} {ts : Mi.T} (hc : X.calm = true) (h : PGs X es (tGsw X.K C W own ts)) (hn : (assignEach es X.env).length = tlen ts) (hst : (assignEach es X.env).findIdx? (·.1) = none) : PG X (.Tuple es k pos) (tGw X.K C W own (.ttup ts)) := by
  refine cvG (pg_tup hc h hn hst) fun v σ H Q ⟨M, env, st, r, er, sr, rv, h⟩ => ?_
  rw [asgn.eq_def] at h
  cases r with
  | ref n => exact h.elim
  | val d =>
    cases d with
    | tuple ds =>
      have h' : PR X.K M H st (if tlen ts = ds.length then asgs C ts ds env st else .bad) W (QW X.K own σ Q) := h
      by_cases e : tlen ts = ds.length
      · rw [if_pos e] at h'
        obtain ⟨a, xs, rfl, ra, pa⟩ := (show Cp X.K (Lv M st) H v (.tuple ds) from .inl rv).tup
        exact ⟨a, xs, rfl, ra, by rw [pa.len, e], M, env, st, ds, er, sr, pa, h'⟩
      · rw [if_neg e] at h'; exact h'.elim
    | _ => exact h.elim
/-- one more item -/
theorem push_end {M : List Addr} {H : Hp} {st : Sto} {n : Nat} {a : Addr} {v : V} {d : D} {Q : Unit → List Addr → Sto → Hp → Prop} (sr : SR K M H st) (hM : M[n]? = some a) (rv : Rp K (Lv M st) H v d) (h : PR K M H st (push1 n d st) W Q) :
    ∃ acc o, H a = some (.lst acc) ∧ acc.length < sizeLine ∧ st[n]? = some o ∧ ∃ st', SR K M (upd H a (.lst (acc ++ [v]))) st' ∧ Step (Lv M st) H (Lv M st') (upd H a (.lst (acc ++ [v]))) ∧ Q () M st' (upd H a (.lst (acc ++ [v]))) := by
  unfold push1 at h
  cases e : st[n]? with
  | none => rw [e] at h; exact h.elim
  | some o =>
    rw [e] at h
    cases o with
    | lst ds =>
      have h' : PR K M H st (if Mi.sizeOk (ds.length + 1) then .ok () (st.set n (.lst (ds ++ [d]))) else .bad) W Q := h
      cases z : Mi.sizeOk (ds.length + 1) with
      | false => rw [z] at h'; exact h'.elim
      | true =>
        rw [z, if_pos rfl] at h'
        obtain ⟨acc, ha, rl⟩ := sr.obj n _ a e hM
        have := sizeOk_ok z
        obtain ⟨s, sr'⟩ := sr.write (o' := .lst (ds ++ [d])) (u := .lst (acc ++ [v])) hM e (by simp) ⟨_, rfl, rl.app (.cons rv .nil)⟩
        exact ⟨acc, _, ha, by rw [rl.len]; omega, rfl, _, sr', s, h' M _ (List.prefix_refl _) sr' s⟩
    | _ => exact h.elim
/-- the end of a comprehension -/
theorem fin_end {k : Ck} {M : List Addr} {H : Hp} {st : Sto} {n : Nat} {a : Addr} {Q : VK} (sr : SR K M H st) (hM : M[n]? = some a) (h : PR K M H st (finC k n st) W (QV K Q)) : Q (.ref a) H := by
  unfold finC at h
  cases e : content st (.ref n) with
  | none => rw [e] at h; cases k <;> exact h.elim
  | some d =>
    rw [e] at h
    cases k with
    | keep =>
      have h' : PR K M H st (.ok (.ref n) st) W (QV K Q) := h
      exact PR.here sr h' _ ⟨a, rfl, hM⟩
    | plain =>
      have h' : PR K M H st (.ok (.val d) (st.set n .dead)) W (QV K Q) := h
      cases q : st[n]? with
      | none => simp only [content, q] at e; cases e
      | some o =>
        simp only [content, q] at e
        have ob := sr.obj n o a q hM
        obtain ⟨s, sr', nl⟩ := sr.freeze hM q
        refine h' M H (List.prefix_refl _) sr' s _ ?_
        cases o with
        | lst ds =>
          cases e
          obtain ⟨xs, e1, r1⟩ := ob
          exact .lst nl (.inl e1) (r1.mono s)
        | dic kvs =>
          cases e
          rcases ob with ⟨ks, e1, q1, r1⟩ | ⟨ks, e1, q1, r1⟩
          · exact .dicA nl (.inl e1) q1 (r1.mono s)
          · exact .dicT nl (.inl e1) q1 (r1.mono s)
        | tpl _ => cases e
        | dead => cases e
end
end MiS

namespace MiS
open PySem PySem.Spec PyProof.Rows L2 Mi MiG
variable [Tb]
section
variable {X : Cx} {C : Cn} {W : Wish} {K : PySem.W.Frag}
/-- one turn of a comprehension -/
abbrev turnC (C : Cn) (tg ifs elt : Mi.T) (own : List Nat) (env : En) : D → Sto → R (Option D) := fun x st => (asgn C tg (.val x) (wipeE env own) st).bind fun env' st => (tst C ifs env' st).bind fun t st =>
      if t then (ev C elt env' st).bind fun v st => (match v with
        | .val d => .ok (some d) st
        | .ref _ => .bad) else .ok none st
theorem turn_end {M : List Addr} {H' : Hp} {st : Sto} {env : En} {σ : L2.St} {x : V} {d : D} {tg ifs elt : Mi.T} {own : List Nat} {n : Nat} {a : Addr} {Nx : Hp → Prop} {rest : Sto → R Unit} {Q : Unit → List Addr → Sto → Hp → Prop} (er : ER K M (Lv M st) H' env σ) (sr : SR K M H' st) (rx : Rp K (Lv M st) H' x d) (hM : M[n]? = some a)
    (h : PR K M H' st ((turnC C tg ifs elt own env d st).bind fun o st => match o with
      | some d => (push1 n d st).bind fun _ st => rest st
      | none => rest st) W Q)
    (next : ∀ M2 st2 H2, M <+: M2 → Step (Lv M st) H' (Lv M2 st2) H2 → SR K M2 H2 st2 → PR K M2 H2 st2 (rest st2) W Q → Nx H2) :
    tGw K C W own tg x (wipe σ own) H' fun σ2 H2 => wipe σ2 own = wipe σ own ∧ tB K C W ifs σ2 H2 fun b H3 => if b = true then tE K C W elt σ2 H3 fun y H4 => ∃ acc, H4 a = some (.lst acc) ∧ acc.length < sizeLine ∧ Nx (upd H4 a (.lst (acc ++ [y]))) else Nx H3 := by
  refine ⟨M, wipeE env own, st, .val d, er.wipe2 own, sr, rx, (PR.bind (PR.bind h)).imp fun env2 M2 st2 H2 p2 sr2 s2 h σ2 er2 ew => ?_⟩
  have ew' : wipe σ2 own = wipe σ own := by
    rw [ew]
    refine List.ext_getElem? fun j => ?_
    by_cases hj : j ∈ own
    · have : ∀ (vs : List Nat) (σ : L2.St), j ∈ vs → (wipe σ vs)[j]? = if j < σ.length then some none else none := by
        intro vs σ
        induction vs with
        | nil => intro h; cases h
        | cons v vs ih =>
          intro h
          show ((wipe σ vs).set v none)[j]? = _
          by_cases hv : v = j
          · subst hv
            by_cases hl : v < σ.length
            · rw [List.getElem?_set_self (by rw [wipe_length]; exact hl), if_pos hl]
            · rw [if_neg hl, List.getElem?_eq_none (by rw [List.length_set, wipe_length]; omega)]
          · rw [List.getElem?_set_ne hv]
            rcases List.mem_cons.mp h with e | h
            · exact absurd e.symm hv
            · exact ih h
      rw [this own _ hj, this own _ hj, wipe_length]
    · rw [wipe_out hj]
  refine ⟨ew', M2, env2, st2, er2, sr2, (PR.bind h).imp fun t M3 st3 H3 p3 sr3 s3 h => ?_⟩
  cases t with
  | false =>
    have h' : PR K M3 H3 st3 (.ok none st3) W (fun o M st H => PR K M H st (match o with
      | some d => (push1 n d st).bind fun _ st => rest st
      | none => rest st) W Q) := h
    exact next M3 st3 H3 (p2.trans p3) (s2.trans s3) sr3 (PR.here (a := none) sr3 h')
  | true =>
    rw [if_pos rfl] at h
    show (if true = true then _ else _)
    rw [if_pos rfl]
    refine ⟨M3, env2, st3, er2.mono p3 s3, sr3, (PR.bind h).imp fun r M4 st4 H4 p4 sr4 s4 h v rv => ?_⟩
    cases r with
    | ref _ => exact h.elim
    | val e =>
      have h' : PR K M4 H4 st4 (.ok (some e) st4) W (fun o M st H => PR K M H st (match o with
        | some d => (push1 n d st).bind fun _ st => rest st
        | none => rest st) W Q) := h
      have h2 := PR.bind (PR.here (a := some e) sr4 h')
      have hM4 := prefix_at ((p2.trans p3).trans p4) hM
      obtain ⟨acc, o, ha, hz, _, st', sr', s', h3⟩ := push_end sr4 hM4 rv h2
      exact ⟨acc, ha, hz, next M4 st' _ ((p2.trans p3).trans p4) (((s2.trans s3).trans s4).trans s') sr' h3⟩
theorem comp_end {k : Ck} {M1 : List Addr} {H1 : Hp} {st1 : Sto} {J : L2.It} {xs : List D} {tg ifs elt : Mi.T} {own : List Nat} {σ : L2.St} {env : En} {Q : VK} (w : Walks K M1 H1 st1 J xs) (er : ER K M1 (Lv M1 st1) H1 env σ) (sr : SR K M1 H1 st1)
    (h : PR K M1 H1 st1 (loopC st1.length (turnC C tg ifs elt own env) xs (st1 ++ [.lst []])) Wno (fun _ M st H => PR K M H st (finC k st1.length st) W (QV K Q))) :
    ∀ D, H1 D = none → ∃ Wm : Nat → Nat → Hp → Prop, (∃ m, Wm 0 m (upd H1 D (.lst []))) ∧ ∀ i m H, Wm i m H →
      (J.stop i H ∧ Q (.ref D) H) ∨ (J.go i H ∧ ∃ Nx : Hp → Prop, (∀ H', Nx H' → ∃ m', m' < m ∧ Wm (i + 1) m' H') ∧ ∀ x H', J.yld i H x H' → tGw K C Wno own tg x (wipe σ own) H' fun σ2 H2 => wipe σ2 own = wipe σ own ∧ tB K C Wno ifs σ2 H2 fun b H3 =>
        if b = true then tE K C Wno elt σ2 H3 fun y H4 => ∃ acc, H4 D = some (.lst acc) ∧ acc.length < sizeLine ∧ Nx (upd H4 D (.lst (acc ++ [y]))) else Nx H3) := by
  intro D hD
  obtain ⟨s0, sr0⟩ := sr.push (o := .lst []) (u := .lst []) hD ⟨[], rfl, .nil⟩
  have p0 := List.prefix_append M1 [D]
  have hM0 : (M1 ++ [D])[st1.length]? = some D := by rw [← sr.len]; simp
  have h0 := h.pre p0 s0
  refine ⟨fun i m H => i + m = xs.length ∧ ∃ M st, (M1 ++ [D]) <+: M ∧ Step (Lv (M1 ++ [D]) (st1 ++ [.lst []])) (upd H1 D (.lst [])) (Lv M st) H ∧ SR K M H st ∧ PR K M H st (loopC st1.length (turnC C tg ifs elt own env) (xs.drop i) st) Wno (fun _ M st H => PR K M H st (finC k st1.length st) W (QV K Q)),
    ⟨xs.length, by omega, _, _, List.prefix_refl _, Step.refl, sr0, by rw [List.drop_zero]; exact h0⟩, ?_⟩
  rintro i m H ⟨hm, M, st, p, s, sr2, h⟩
  obtain ⟨go, stop⟩ := w M H st (p0.trans p) (s0.trans s) sr2
  have hM := prefix_at p hM0
  cases m with
  | zero =>
    have hi : i = xs.length := by omega
    subst hi
    rw [List.drop_length, loopC] at h
    exact .inl ⟨stop, fin_end sr2 hM (PR.here (a := ()) sr2 h)⟩
  | succ m =>
    have hi : i < xs.length := by omega
    obtain ⟨g1, g2⟩ := go i xs[i] (List.getElem?_eq_getElem hi)
    rw [List.drop_eq_getElem_cons hi, loopC] at h
    refine .inr ⟨g1, fun H' => ∃ M st, (M1 ++ [D]) <+: M ∧ Step (Lv (M1 ++ [D]) (st1 ++ [.lst []])) (upd H1 D (.lst [])) (Lv M st) H' ∧ SR K M H' st ∧ PR K M H' st (loopC st1.length (turnC C tg ifs elt own env) (xs.drop (i + 1)) st) Wno (fun _ M st H => PR K M H st (finC k st1.length st) W (QV K Q)),
      fun H' q => ⟨m, Nat.lt_succ_self m, by omega, q⟩, fun x H' y => ?_⟩
    obtain ⟨sr3, s3, rx⟩ := g2 x H' y
    have er3 := er.mono (p0.trans p) ((s0.trans s).trans s3)
    exact turn_end er3 sr3 rx hM (h.pre (List.prefix_refl _) s3) fun M2 st2 H2 p2 s2 sr2' h2 => ⟨M2, st2, p.trans p2, (s.trans s3).trans s2, sr2', h2⟩
end
end MiS
namespace MiS
open PySem PySem.Spec PyProof.Rows L2 Mi MiG
variable [Tb]
section
variable {X : Cx} {C : Cn} {W : Wish} {K : PySem.W.Frag}
theorem sts_nil : PTs X [] (tB X.K C W .nil) := ⟨fun pins s σ H Q I ⟨M, env, st, er, sr, h⟩ => pts_nil.run pins s σ H Q I (by
  rw [tst] at h
  exact PR.here (a := true) (Q := QB Q) sr h)⟩
theorem sts_one {c : Expr} {t : Mi.T} (h : PT X c (tB X.K C W t)) : PTs X [c] (tB X.K C W t) := pts_one h
/-- the start of a comprehension -/
theorem co_comp {k : Ck} {w : Mi.It} {tg it ifs elt : Mi.T} {own : List Nat} {σ : L2.St} {H : Hp} {Q : VK} (h : tE K C W (.comp k tg w it ifs elt own) σ H Q) :
    tEs K C W it σ H fun vs H1 => ∃ M1 env st1 rs, ER K M1 (Lv M1 st1) H1 env σ ∧ SR K M1 H1 st1 ∧ RVs K M1 (Lv M1 st1) H1 vs rs ∧
      PR K M1 H1 st1 (overC st1.length w rs (turnC C tg ifs elt own env) (st1 ++ [.lst []])) Wno (fun _ M st H => PR K M H st (finC k st1.length st) W (QV K Q)) := by
  obtain ⟨M, env, st, er, sr, h⟩ := h
  rw [ev] at h
  refine ⟨M, env, st, er, sr, (PR.bind h).imp fun rs M1 st1 H1 p1 sr1 s1 h vs r => ?_⟩
  exact ⟨M1, env, st1, rs, er.mono p1 s1, sr1, r, PR.calm (PR.bind h)⟩
theorem over_pure {n : Nat} {w : Mi.It} {rs : List RV} {ds : List D} {b : D → Sto → R (Option D)} {st : Sto} (e : pures rs = some ds) : overC n w rs b st = (match walk w ds with
      | some xs => loopC n b xs st
      | none => .bad) := by
  unfold overC
  split
  · cases e
  · first
      | (simp only [e]; done)
      | (simp only [e]; rfl)
/-- .. over a list of the store -/
theorem comp_endL {k : Ck} {M1 : List Addr} {H1 : Hp} {st1 : Sto} {a : Addr} {m0 len : Nat} {tg ifs elt : Mi.T} {own : List Nat} {σ : L2.St} {env : En} {Q : VK} (hm0 : M1[m0]? = some a) (er : ER K M1 (Lv M1 st1) H1 env σ) (sr : SR K M1 H1 st1)
    (h : PR K M1 H1 st1 (loopL st1.length m0 len (turnC C tg ifs elt own env) 0 len (st1 ++ [.lst []])) Wno (fun _ M st H => PR K M H st (finC k st1.length st) W (QV K Q))) :
    ∀ D, H1 D = none → ∃ Wm : Nat → Nat → Hp → Prop, (∃ m, Wm 0 m (upd H1 D (.lst []))) ∧ ∀ i m H, Wm i m H →
      ((Itl K a).stop i H ∧ Q (.ref D) H) ∨ ((Itl K a).go i H ∧ ∃ Nx : Hp → Prop, (∀ H', Nx H' → ∃ m', m' < m ∧ Wm (i + 1) m' H') ∧ ∀ x H', (Itl K a).yld i H x H' → tGw K C Wno own tg x (wipe σ own) H' fun σ2 H2 => wipe σ2 own = wipe σ own ∧ tB K C Wno ifs σ2 H2 fun b H3 =>
        if b = true then tE K C Wno elt σ2 H3 fun y H4 => ∃ acc, H4 D = some (.lst acc) ∧ acc.length < sizeLine ∧ Nx (upd H4 D (.lst (acc ++ [y]))) else Nx H3) := by
  intro D hD
  obtain ⟨s0, sr0⟩ := sr.push (o := .lst []) (u := .lst []) hD ⟨[], rfl, .nil⟩
  have p0 := List.prefix_append M1 [D]
  have hM0 : (M1 ++ [D])[st1.length]? = some D := by rw [← sr.len]; simp
  have h0 := h.pre p0 s0
  refine ⟨fun i m H => i + m = len ∧ ∃ M st, (M1 ++ [D]) <+: M ∧ Step (Lv (M1 ++ [D]) (st1 ++ [.lst []])) (upd H1 D (.lst [])) (Lv M st) H ∧ SR K M H st ∧ PR K M H st (loopL st1.length m0 len (turnC C tg ifs elt own env) i m st) Wno (fun _ M st H => PR K M H st (finC k st1.length st) W (QV K Q)),
    ⟨len, by omega, _, _, List.prefix_refl _, Step.refl, sr0, h0⟩, ?_⟩
  rintro i m H ⟨hm, M, st, p, s, sr2, h⟩
  have hM := prefix_at p hM0
  have hMa := prefix_at (p0.trans p) hm0
  cases m with
  | zero =>
    unfold loopL at h
    cases e : st[m0]? with
    | none => simp only [e] at h; exact h.elim
    | some o =>
      cases o with
      | lst ds =>
        simp only [e] at h
        split at h
        · rename_i hl
          obtain ⟨ys, ha, rl⟩ := sr2.obj m0 _ a e hMa
          exact .inl ⟨⟨ys, .inl (.inl ha), by rw [rl.len]; omega⟩, fin_end sr2 hM (PR.here (a := ()) sr2 h)⟩
        · exact h.elim
      | _ => simp only [e] at h; exact h.elim
  | succ m =>
    unfold loopL at h
    cases e : st[m0]? with
    | none => simp only [e] at h; exact h.elim
    | some o =>
      cases o with
      | lst ds =>
        simp only [e] at h
        split at h
        · rename_i hl
          cases e2 : ds[i]? with
          | none => simp only [e2] at h; exact h.elim
          | some d =>
            simp only [e2] at h
            obtain ⟨ys, ha, rl⟩ := sr2.obj m0 _ a e hMa
            obtain ⟨v, hv, rv⟩ := rl.get e2
            refine .inr ⟨⟨ys, v, .inl (.inl ha), hv⟩, fun H' => ∃ M st, (M1 ++ [D]) <+: M ∧ Step (Lv (M1 ++ [D]) (st1 ++ [.lst []])) (upd H1 D (.lst [])) (Lv M st) H' ∧ SR K M H' st ∧ PR K M H' st (loopL st1.length m0 len (turnC C tg ifs elt own env) (i + 1) m st) Wno (fun _ M st H => PR K M H st (finC k st1.length st) W (QV K Q)),
              fun H' q => ⟨m, Nat.lt_succ_self m, by omega, q⟩, fun x H' ⟨eH, hx⟩ => ?_⟩
            subst eH
            have := hx ys (.inl (.inl ha))
            rw [hv] at this
            cases this
            have er3 := er.mono (p0.trans p) (s0.trans s)
            exact turn_end er3 sr2 rv hM h fun M2 st2 H2 p2 s2 sr2' h2 => ⟨M2, st2, p.trans p2, s.trans s2, sr2', h2⟩
        · exact h.elim
      | _ => simp only [e] at h; exact h.elim
end
end MiS

namespace MiS
open PySem PySem.Spec PyProof.Rows L2 Mi MiG
variable [Tb]
section
variable {X : Cx} {C : Cn} {W : Wish} {K : PySem.W.Frag}
theorem one_val {M : List Addr} {L : Addr → Prop} {H : Hp} {v : V} {rs : List RV} (r : RVs K M L H [v] rs) : ∃ r1, rs = [r1] ∧ RVp K M L H v r1 := by
  cases r with
  | cons a b => cases b; exact ⟨_, rfl, a⟩
theorem two_val {M : List Addr} {L : Addr → Prop} {H : Hp} {v u : V} {rs : List RV} (r : RVs K M L H [v, u] rs) : ∃ r1 r2, rs = [r1, r2] ∧ RVp K M L H v r1 ∧ RVp K M L H u r2 := by
  cases r with
  | cons a b => obtain ⟨r2, rfl, h⟩ := one_val b; exact ⟨_, r2, rfl, a, h⟩
/-- what a comprehension's parts must be in each block -/
structure Parts (X : Cx) (C : Cn) (tg : Expr) (ifs : List Expr) (elt : Expr) (scope : Scope) (own : List (Str × Nat)) (ttg tit telt : Mi.T) : Prop where
  ok : BlkOk X.N X.env.scope scope own
  tg : ∀ (s : Shared) (H : Hp) (A : Addr) (cl : List (Str × Addr)) (fp : List Addr), PG (X.blk s H scope (compEnvC scope cl A X.env) fp) tg (tGw X.K C Wno (own.map (·.2)) ttg)
  ifs : ∀ (s : Shared) (H : Hp) (A : Addr) (cl : List (Str × Addr)) (fp : List Addr), PTs (X.blk s H scope (compEnvC scope cl A X.env) fp) ifs (tB X.K C Wno tit)
  elt : ∀ (s : Shared) (H : Hp) (A : Addr) (cl : List (Str × Addr)) (fp : List Addr), PE (X.blk s H scope (compEnvC scope cl A X.env) fp) elt (tE X.K C Wno telt)
/-- the iterable's reading gives the comprehension's -/
def Feeds (X : Cx) (C : Cn) (W : Wish) (w : Mi.It) (tit : Mi.T) (wi : TI) : Prop := ∀ {k : Ck} {ttg tifs telt : Mi.T} {own : List Nat} {σ : L2.St} {H : Hp} {Q : VK}, tE X.K C W (.comp k ttg w tit tifs telt own) σ H Q →
  tLc wi (tGw X.K C Wno own ttg) (tB X.K C Wno tifs) (tE X.K C Wno telt) own σ H Q
theorem feeds_plain {tit : Mi.T} : Feeds X C W .plain (.cons tit .nil) (iSeq X.K (tE X.K C W tit)) := by
  intro k ttg tifs telt own σ H Q h
  obtain ⟨M, env, st, er, sr, h⟩ := co_one (co_comp h)
  refine ⟨M, env, st, er, sr, h.imp fun r M1 st1 H1 p1 sr1 s1 h v rv => ?_⟩
  obtain ⟨M2, env2, st2, rs, er2, sr2, rl, h⟩ := h v rv
  obtain ⟨r0, rfl, r1⟩ := one_val rl
  cases r0 with
  | ref m =>
    obtain ⟨a, rfl, hM⟩ := r1
    have hml : m < st2.length := by rw [← sr2.len]; exact (List.getElem?_eq_some_iff.mp hM).1
    have e9 : (st2 ++ [O.lst []])[m]? = st2[m]? := List.getElem?_append_left hml
    simp only [overC, e9] at h
    cases e : st2[m]? with
    | none => simp only [e] at h; exact h.elim
    | some o =>
      cases o with
      | lst ds =>
        simp only [e] at h
        obtain ⟨ys, ha, rl⟩ := sr2.obj m _ a e hM
        exact .inl ⟨a, rfl, ⟨ys, .inl (.inl ha)⟩, comp_endL hM er2 sr2 h⟩
      | _ => simp only [e] at h; exact h.elim
  | val d =>
    rw [over_pure rfl] at h
    cases d with
    | list ys =>
      cases r1 with
      | lst nl ra x => exact .inl ⟨_, rfl, ⟨_, .inl ra⟩, comp_end (walks_list nl ra x) er2 sr2 h⟩
    | tuple ys =>
      cases r1 with
      | tup nl ra x => exact .inr (.inl ⟨_, rfl, ⟨_, .inl (.inl ra)⟩, comp_end (walks_tup nl ra x) er2 sr2 h⟩)
    | str y =>
      cases r1 with
      | str => exact .inr (.inr ⟨_, rfl, comp_end (walks_str y) er2 sr2 h⟩)
    | _ => exact h.elim
theorem feeds_enum {tit : Mi.T} : Feeds X C W .enum (.cons tit .nil) (iEnumA X.K (tCons (tE X.K C W tit) tNil)) := by
  intro k ttg tifs telt own σ H Q h
  obtain ⟨M, env, st, er, sr, h⟩ := co_one (co_comp h)
  refine ⟨M, env, st, er, sr, h.imp fun r M1 st1 H1 p1 sr1 s1 h v rv => ?_⟩
  obtain ⟨M2, env2, st2, rs, er2, sr2, rl, h⟩ := h v rv
  obtain ⟨r0, rfl, r1⟩ := one_val rl
  cases r0 with
  | ref m => exact h.elim
  | val d =>
    rw [over_pure rfl] at h
    cases d with
    | list ys =>
      cases r1 with
      | lst nl ra x => exact .inl ⟨_, _, rfl, .inl ⟨.inl ra, comp_end (walks_enumL nl ra x) er2 sr2 h⟩⟩
    | tuple ys =>
      cases r1 with
      | tup nl ra x => exact .inl ⟨_, _, rfl, .inr ⟨.inl (.inl ra), comp_end (walks_enumT nl ra x) er2 sr2 h⟩⟩
    | str y =>
      cases r1 with
      | str => exact .inr ⟨_, rfl, comp_end (walks_enumS y) er2 sr2 h⟩
    | _ => exact h.elim
theorem feeds_range1 {tit : Mi.T} : Feeds X C W .range (.cons tit .nil) (iRng1 (tCons (tE X.K C W tit) tNil)) := by
  intro k ttg tifs telt own σ H Q h
  obtain ⟨M, env, st, er, sr, h⟩ := co_one (co_comp h)
  refine ⟨M, env, st, er, sr, h.imp fun r M1 st1 H1 p1 sr1 s1 h v rv => ?_⟩
  obtain ⟨M2, env2, st2, rs, er2, sr2, rl, h⟩ := h v rv
  obtain ⟨r0, rfl, r1⟩ := one_val rl
  cases r0 with
  | ref m => exact h.elim
  | val d =>
    rw [over_pure rfl] at h
    cases d with
    | int j =>
      cases r1
      cases hi : inside j with
      | false => simp only [walk, hi] at h; exact h.elim
      | true =>
        simp only [walk, hi, if_true] at h
        obtain ⟨h1, h2⟩ := inside_ok hi
        exact ⟨j, rfl, h1, h2, comp_end (walks_range 0 j.toNat) er2 sr2 h⟩
    | _ => exact h.elim
theorem feeds_range2 {ta tb : Mi.T} : Feeds X C W .range (.cons ta (.cons tb .nil)) (iRng2 (tCons (tE X.K C W ta) (tCons (tE X.K C W tb) tNil))) := by
  intro k ttg tifs telt own σ H Q h
  obtain ⟨M, env, st, er, sr, h⟩ := co_two (co_comp h)
  refine ⟨M, env, st, er, sr, h.imp fun r M1 st1 H1 p1 sr1 s1 h v rv => ?_⟩
  obtain ⟨M', env', st', er', sr', h⟩ := h v rv
  refine ⟨M', env', st', er', sr', h.imp fun r M1 st1 H1 p1 sr1 s1 h u ru => ?_⟩
  obtain ⟨M2, env2, st2, rs, er2, sr2, rl, hx⟩ := h u ru
  obtain ⟨ra, rb, rfl, r1, r2⟩ := two_val rl
  cases ra with
  | ref m => exact hx.elim
  | val d =>
    cases rb with
    | ref m => exact hx.elim
    | val e =>
      rw [over_pure (ds := [d, e]) rfl] at hx
      cases d with
      | int i =>
        cases e with
        | int j =>
          cases r1; cases r2
          cases hi : inside i && inside j with
          | false => simp only [walk, hi] at hx; exact hx.elim
          | true =>
            simp only [walk, hi, if_true] at hx
            have hh := Bool.and_eq_true_iff.mp hi
            obtain ⟨h1, h2⟩ := inside_ok hh.1
            obtain ⟨h3, h4⟩ := inside_ok hh.2
            exact ⟨i, j, rfl, ⟨h1, h2, h3, h4⟩, comp_end (walks_range i (j - i).toNat) er2 sr2 hx⟩
        | _ => exact hx.elim
      | _ => exact hx.elim
/-- a comprehension, as a value or in a name -/
theorem se_comp {k : Ck} {w : Mi.It} {elt tg it : Expr} {ifs : List Expr} {scope : Scope} {own : List (Str × Nat)} {pos : Pos} {ttg tit tifs telt : Mi.T} {wi : TI} (hc : X.calm = true) (hN : X.N.Nodup) (hi : PI X tg it wi) (f : Feeds X C W w tit wi) (p : Parts X C tg ifs elt scope own ttg tifs telt)
    (hs : ∀ x, foldedSetIterable it X.env x = pure x) : PE X (.ListComp elt [⟨tg, it, ifs, 0⟩] scope pos) (tE X.K C W (.comp k ttg w tit tifs telt (own.map (·.2)))) :=
  cvX (pe_lc hc hN hi p.ok p.tg p.ifs p.elt hs) f
theorem ss_comp {k : Ck} {w : Mi.It} {i : Nat} {y : Str} {py : Pos} {elt tg it : Expr} {ifs : List Expr} {scope : Scope} {own : List (Str × Nat)} {pos spos : Pos} {ttg tit tifs telt : Mi.T} {wi : TI} (hc : X.calm = true) (hN : X.N.Nodup) (hy : X.N[i]? = some y) (hyl : X.env.scope.names.lookup y = some .local)
    (hsw : swapsWith (.ListComp elt [⟨tg, it, ifs, 0⟩] scope pos) (some (.Name y py)) spos.line X.env = pure true) (hi : PI X tg it wi) (f : Feeds X C W w tit wi) (p : Parts X C tg ifs elt scope own ttg tifs telt) (hs : ∀ x, foldedSetIterable it X.env x = pure x) :
    PS X (.Assign [.Name y py] (.ListComp elt [⟨tg, it, ifs, 0⟩] scope pos) spos) (tS X.K C W (.asg (.tname i) (.comp k ttg w tit tifs telt (own.map (·.2))))) := by
  refine cvS (ps_setLc hc hN hy hyl hsw hi p.ok p.tg p.ifs p.elt hs) fun D σ H ⟨M, env, st, er, sr, h⟩ => ?_
  rw [ex] at h
  refine f ⟨M, env, st, er, sr, (PR.bind h).imp fun r M1 st1 H1 p1 sr1 s1 h v rv => ?_⟩
  have h' : PR X.K M1 H1 st1 (.ok (.nx (env.set i (some r))) st1) W (QF X.K D) := h
  exact PR.here sr1 h' _ ((er.mono p1 s1).set i rv)
end
end MiS

namespace MiS
open PySem PySem.Spec PyProof.Rows L2 Mi MiG
variable [Tb]
section
variable {X : Cx} {C : Cn} {W : Wish} {K : PySem.W.Frag}
/-- the iterable's reading gives the iterator -/
def Feed (X : Cx) (C : Cn) (W : Wish) (w : Mi.It) (tit : Mi.T) (wi : TI) : Prop := ∀ {σ : L2.St} {H : Hp} {R : L2.It → Hp → Prop}, (tEs X.K C W tit σ H fun vs H1 => ∃ M1 st1 ds xs, SR X.K M1 H1 st1 ∧ RpL X.K (Lv M1 st1) H1 vs ds ∧ walk w ds = some xs ∧
    ∀ J H2, Step (Lv M1 st1) H1 (Lv M1 st1) H2 → SR X.K M1 H2 st1 → Walks X.K M1 H2 st1 J xs → R J H2) → wi σ H R
theorem feed_plain {tit : Mi.T} : Feed X C W .plain (.cons tit .nil) (iSeq X.K (tE X.K C W tit)) := by
  intro σ H R h
  obtain ⟨M, env, st, er, sr, h⟩ := co_one h
  refine ⟨M, env, st, er, sr, h.imp fun r M1 st1 H1 p1 sr1 s1 h v rv => ?_⟩
  obtain ⟨M2, st2, ds, xs, sr2, rl, ew, h⟩ := h v rv
  obtain ⟨d, rfl, r⟩ := one_len rl
  cases d with
  | list ys =>
    cases ew
    cases r with
    | lst nl ra x => exact .inl ⟨_, rfl, ⟨_, .inl ra⟩, h _ _ Step.refl sr2 (walks_list nl ra x)⟩
  | tuple ys =>
    cases ew
    cases r with
    | tup nl ra x => exact .inr (.inl ⟨_, rfl, ⟨_, .inl (.inl ra)⟩, h _ _ Step.refl sr2 (walks_tup nl ra x)⟩)
  | str y =>
    cases ew
    cases r with
    | str => exact .inr (.inr ⟨_, rfl, h _ _ Step.refl sr2 (walks_str y)⟩)
  | _ => cases ew
theorem feed_enum {tit : Mi.T} : Feed X C W .enum (.cons tit .nil) (iEnumA X.K (tCons (tE X.K C W tit) tNil)) := by
  intro σ H R h
  obtain ⟨M, env, st, er, sr, h⟩ := co_one h
  refine ⟨M, env, st, er, sr, h.imp fun r M1 st1 H1 p1 sr1 s1 h v rv => ?_⟩
  obtain ⟨M2, st2, ds, xs, sr2, rl, ew, h⟩ := h v rv
  obtain ⟨d, rfl, r⟩ := one_len rl
  cases d with
  | list ys =>
    cases ew
    cases r with
    | lst nl ra x => exact .inl ⟨_, _, rfl, .inl ⟨.inl ra, h _ _ Step.refl sr2 (walks_enumL nl ra x)⟩⟩
  | tuple ys =>
    cases ew
    cases r with
    | tup nl ra x => exact .inl ⟨_, _, rfl, .inr ⟨.inl (.inl ra), h _ _ Step.refl sr2 (walks_enumT nl ra x)⟩⟩
  | str y =>
    cases ew
    cases r with
    | str => exact .inr ⟨_, rfl, h _ _ Step.refl sr2 (walks_enumS y)⟩
  | _ => cases ew
theorem feed_range1 {tit : Mi.T} : Feed X C W .range (.cons tit .nil) (iRng1 (tCons (tE X.K C W tit) tNil)) := by
  intro σ H R h
  obtain ⟨M, env, st, er, sr, h⟩ := co_one h
  refine ⟨M, env, st, er, sr, h.imp fun r M1 st1 H1 p1 sr1 s1 h v rv => ?_⟩
  obtain ⟨M2, st2, ds, xs, sr2, rl, ew, h⟩ := h v rv
  obtain ⟨d, rfl, r⟩ := one_len rl
  cases d with
  | int j =>
    cases r
    cases hi : inside j with
    | false => simp only [walk, hi] at ew; cases ew
    | true =>
      simp only [walk, hi, if_true] at ew
      cases ew
      obtain ⟨h1, h2⟩ := inside_ok hi
      exact ⟨j, rfl, h1, h2, h _ _ Step.refl sr2 (walks_range 0 j.toNat)⟩
  | _ => cases ew
theorem feed_range2 {ta tb : Mi.T} : Feed X C W .range (.cons ta (.cons tb .nil)) (iRng2 (tCons (tE X.K C W ta) (tCons (tE X.K C W tb) tNil))) := by
  intro σ H R h
  obtain ⟨M, env, st, er, sr, h⟩ := co_two h
  refine ⟨M, env, st, er, sr, h.imp fun r M1 st1 H1 p1 sr1 s1 h v rv => ?_⟩
  obtain ⟨M', env', st', er', sr', h⟩ := h v rv
  refine ⟨M', env', st', er', sr', h.imp fun r M1 st1 H1 p1 sr1 s1 h u ru => ?_⟩
  obtain ⟨M2, st2, ds, xs, sr2, rl, ew, h⟩ := h u ru
  obtain ⟨d, e, rfl, r1, r2⟩ := two_len rl
  cases d with
  | int i =>
    cases e with
    | int j =>
      cases r1; cases r2
      cases hi : inside i && inside j with
      | false => simp only [walk, hi] at ew; cases ew
      | true =>
        simp only [walk, hi, if_true] at ew
        cases ew
        have hh := Bool.and_eq_true_iff.mp hi
        obtain ⟨h1, h2⟩ := inside_ok hh.1
        obtain ⟨h3, h4⟩ := inside_ok hh.2
        exact ⟨i, j, rfl, ⟨h1, h2, h3, h4⟩, h _ _ Step.refl sr2 (walks_range i (j - i).toNat)⟩
    | _ => cases ew
  | _ => cases ew
theorem turnC_nil (C : Cn) (tg elt : Mi.T) (own : List Nat) (env : En) : (fun x st => (asgn C tg (.val x) (wipeE env own) st).bind fun env'' st => (ev C elt env'' st).bind fun v st => (match v with
                | .val d => .ok (some d) st
                | .ref _ => .bad)) = turnC C tg .nil elt own env := by
  funext x st
  unfold turnC
  congr 1
theorem wipe_wipe (σ : L2.St) (own : List Nat) : wipe (wipe σ own) own = wipe σ own := by
  refine List.ext_getElem? fun j => ?_
  by_cases hj : j ∈ own
  · have : ∀ (vs : List Nat) (σ : L2.St), j ∈ vs → (wipe σ vs)[j]? = if j < σ.length then some none else none := by
      intro vs σ
      induction vs with
      | nil => intro h; cases h
      | cons v vs ih =>
        intro h
        show ((wipe σ vs).set v none)[j]? = _
        by_cases hv : v = j
        · subst hv
          by_cases hl : v < σ.length
          · rw [List.getElem?_set_self (by rw [wipe_length]; exact hl), if_pos hl]
          · rw [if_neg hl, List.getElem?_eq_none (by rw [List.length_set, wipe_length]; omega)]
        · rw [List.getElem?_set_ne hv]
          rcases List.mem_cons.mp h with e | h
          · exact absurd e.symm hv
          · exact ih h
    rw [this own _ hj, this own _ hj, wipe_length]
  · rw [wipe_out hj]
/-- the second clause's loop, into the list at a -/
theorem in2_end {M1 : List Addr} {H1 : Hp} {st1 : Sto} {J : L2.It} {xs : List D} {tg elt : Mi.T} {own : List Nat} {σ : L2.St} {env : En} {n : Nat} {a : Addr} {Q : Unit → List Addr → Sto → Hp → Prop} {Nx : Hp → Prop} (w : Walks K M1 H1 st1 J xs) (er : ER K M1 (Lv M1 st1) H1 env σ) (sr : SR K M1 H1 st1) (hM : M1[n]? = some a)
    (h : PR K M1 H1 st1 (loopC n (turnC C tg .nil elt own env) xs st1) Wno Q) (next : ∀ M2 st2 H2, M1 <+: M2 → Step (Lv M1 st1) H1 (Lv M2 st2) H2 → SR K M2 H2 st2 → Q () M2 st2 H2 → Nx H2) :
    ∃ W1 : Nat → Nat → Hp → Prop, (∃ m, W1 0 m H1) ∧ ∀ j k H, W1 j k H →
      (J.stop j H ∧ Nx H) ∨ (J.go j H ∧ ∃ Nx1 : Hp → Prop, (∀ H', Nx1 H' → ∃ k', k' < k ∧ W1 (j + 1) k' H') ∧ ∀ x H', J.yld j H x H' → tGw K C Wno own tg x (wipe σ own) H' fun σ2 H2 => wipe σ2 own = wipe σ own ∧ tB K C Wno .nil σ2 H2 fun b H3 =>
        if b = true then tE K C Wno elt σ2 H3 fun y H4 => ∃ acc, H4 a = some (.lst acc) ∧ acc.length < sizeLine ∧ Nx1 (upd H4 a (.lst (acc ++ [y]))) else Nx1 H3) := by
  refine ⟨fun i m H => i + m = xs.length ∧ ∃ M st, M1 <+: M ∧ Step (Lv M1 st1) H1 (Lv M st) H ∧ SR K M H st ∧ PR K M H st (loopC n (turnC C tg .nil elt own env) (xs.drop i) st) Wno Q,
    ⟨xs.length, by omega, M1, st1, List.prefix_refl _, Step.refl, sr, by rw [List.drop_zero]; exact h⟩, ?_⟩
  rintro i m H ⟨hm, M, st, p, s, sr2, h⟩
  obtain ⟨go, stop⟩ := w M H st p s sr2
  cases m with
  | zero =>
    have hi : i = xs.length := by omega
    subst hi
    rw [List.drop_length, loopC] at h
    exact .inl ⟨stop, next M st H p s sr2 (PR.here (a := ()) sr2 h)⟩
  | succ m =>
    have hi : i < xs.length := by omega
    obtain ⟨g1, g2⟩ := go i xs[i] (List.getElem?_eq_getElem hi)
    rw [List.drop_eq_getElem_cons hi, loopC] at h
    refine .inr ⟨g1, fun H' => ∃ M st, M1 <+: M ∧ Step (Lv M1 st1) H1 (Lv M st) H' ∧ SR K M H' st ∧ PR K M H' st (loopC n (turnC C tg .nil elt own env) (xs.drop (i + 1)) st) Wno Q,
      fun H' q => ⟨m, Nat.lt_succ_self m, by omega, q⟩, fun x H' y => ?_⟩
    obtain ⟨sr3, s3, rx⟩ := g2 x H' y
    exact turn_end (er.mono p (s.trans s3)) sr3 rx (prefix_at p hM) (h.pre (List.prefix_refl _) s3) fun M2 st2 H2 p2 s2 sr2' h2 => ⟨M2, st2, p.trans p2, (s.trans s3).trans s2, sr2', h2⟩
/-- what the second clause does -/
abbrev inC (C : Cn) (w2 : Mi.It) (it2 tg2 elt : Mi.T) (n : Nat) (env' : En) (st1 : Sto) : R Unit := (evs C it2 env' st1).bind fun vs st1 => (match pures vs with
  | some ds => (match walk w2 ds with
    | some xs => loopC n (turnC C tg2 .nil elt (slots tg2) env') xs st1
    | none => .bad)
  | none => .bad)
abbrev inC0 (C : Cn) (w2 : Mi.It) (it2 tg2 elt : Mi.T) (n : Nat) (env' : En) (st1 : Sto) : R Unit := (evs C it2 env' st1).bind fun vs st1 => (match pures vs with
  | some ds => (match walk w2 ds with
    | some xs => loopC n (fun x st => (asgn C tg2 (.val x) (wipeE env' (slots tg2)) st).bind fun env'' st => (ev C elt env'' st).bind fun v st => (match v with
                | .val d => .ok (some d) st
                | .ref _ => .bad)) xs st1
    | none => .bad)
  | none => .bad)
theorem inC_eq (C : Cn) (w2 : Mi.It) (it2 tg2 elt : Mi.T) (n : Nat) : inC0 C w2 it2 tg2 elt n = inC C w2 it2 tg2 elt n := by
  funext env' st1
  unfold inC0 inC
  rw [← turnC_nil]
theorem co_comp2 {k : Ck} {w w2 : Mi.It} {tg it tg2 it2 elt : Mi.T} {own : List Nat} {wi wi1 : TI} (f : Feed X C W w it wi) (f1 : Feed X C Wno w2 it2 wi1) {σ : L2.St} {H : Hp} {Q : VK} (h : tE X.K C W (.comp2 k tg w it tg2 w2 it2 elt own) σ H Q) :
    tLc2 wi (tGw X.K C Wno own tg) (tB X.K C Wno .nil) wi1 (tGw X.K C Wno (slots tg2) tg2) (tB X.K C Wno .nil) (tE X.K C Wno elt) own (slots tg2) σ H Q := by
  obtain ⟨M, env, st, er, sr, h⟩ := h
  rw [ev] at h
  refine f ⟨M, env, st, er, sr, (PR.bind h).imp fun rs M1 st1 H0 p1 sr1 s1 h vs rv => ?_⟩
  cases e1 : pures rs with
  | none => simp only [e1] at h; exact h.elim
  | some ds =>
    simp only [e1] at h
    cases e2 : walk w ds with
    | none => simp only [e2] at h; exact h.elim
    | some xs =>
      simp only [e2] at h
      refine ⟨M1, st1, ds, xs, sr1, pures_rp rv e1, e2, fun J H1 sL srL wJ D hD => ?_⟩
      have h := (PR.calm (PR.bind h)).pre (List.prefix_refl _) sL
      have er1 := (er.mono p1 s1).mono (List.prefix_refl _) sL
      obtain ⟨s0, sr0⟩ := srL.push (o := .lst []) (u := .lst []) hD ⟨[], rfl, .nil⟩
      have p0 := List.prefix_append M1 [D]
      have hM0 : (M1 ++ [D])[st1.length]? = some D := by rw [← srL.len]; simp
      have h0 := h.pre p0 s0
      have h0 : PR X.K (M1 ++ [D]) (upd H1 D (.lst [])) (st1 ++ [.lst []]) (loopC2 (fun x st => (asgn C tg (.val x) (wipeE env own) st).bind fun env' st => inC0 C w2 it2 tg2 elt st1.length env' st) xs (st1 ++ [.lst []])) Wno (fun _ M st H => PR X.K M H st (finC k st1.length st) W (QV X.K Q)) := h0
      rw [inC_eq] at h0
      refine ⟨fun i m H => i + m = xs.length ∧ ∃ M st, (M1 ++ [D]) <+: M ∧ Step (Lv (M1 ++ [D]) (st1 ++ [.lst []])) (upd H1 D (.lst [])) (Lv M st) H ∧ SR X.K M H st ∧ PR X.K M H st (loopC2 (fun x st => (asgn C tg (.val x) (wipeE env own) st).bind fun env' st => inC C w2 it2 tg2 elt st1.length env' st) (xs.drop i) st) Wno (fun _ M st H => PR X.K M H st (finC k st1.length st) W (QV X.K Q)),
        ⟨xs.length, by omega, _, _, List.prefix_refl _, Step.refl, sr0, by rw [List.drop_zero]; exact h0⟩, ?_⟩
      rintro i m H ⟨hm, M, st, p, s, sr2, h⟩
      obtain ⟨go, stop⟩ := wJ M H st (p0.trans p) (s0.trans s) sr2
      have hM := prefix_at p hM0
      cases m with
      | zero =>
        have hi : i = xs.length := by omega
        subst hi
        rw [List.drop_length, loopC2] at h
        exact .inl ⟨stop, fin_end sr2 hM (PR.here (a := ()) sr2 h)⟩
      | succ m =>
        have hi : i < xs.length := by omega
        obtain ⟨g1, g2⟩ := go i xs[i] (List.getElem?_eq_getElem hi)
        rw [List.drop_eq_getElem_cons hi, loopC2] at h
        refine .inr ⟨g1, fun H' => ∃ M st, (M1 ++ [D]) <+: M ∧ Step (Lv (M1 ++ [D]) (st1 ++ [.lst []])) (upd H1 D (.lst [])) (Lv M st) H' ∧ SR X.K M H' st ∧ PR X.K M H' st (loopC2 (fun x st => (asgn C tg (.val x) (wipeE env own) st).bind fun env' st => inC C w2 it2 tg2 elt st1.length env' st) (xs.drop (i + 1)) st) Wno (fun _ M st H => PR X.K M H st (finC k st1.length st) W (QV X.K Q)),
          fun H' q => ⟨m, Nat.lt_succ_self m, by omega, q⟩, fun x H' y => ?_⟩
        obtain ⟨sr3, s3, rx⟩ := g2 x H' y
        have er3 := er1.mono (p0.trans p) ((s0.trans s).trans s3)
        refine ⟨M, wipeE env own, st, .val xs[i], er3.wipe2 own, sr3, rx, (PR.bind (PR.bind (h.pre (List.prefix_refl _) s3))).imp fun env2 M2 st2 H2 p2 sr2 s2 h σ2 er2 ew => ?_⟩
        refine ⟨by rw [ew, wipe_wipe], M2, env2, st2, er2, sr2, ?_⟩
        rw [show tst C .nil env2 st2 = .ok true st2 by rw [tst]]
        intro M3 H3 p3 sr3' s3'
        show (if true = true then _ else _)
        rw [if_pos rfl]
        have pp := p2.trans p3
        have ss := s2.trans s3'
        refine f1 ⟨M3, env2, st2, er2.mono p3 s3', sr3', (PR.bind (h.pre p3 s3')).imp fun rs4 M4 st4 H4 p4 sr4 s4 h vs4 rv4 => ?_⟩
        cases e3 : pures rs4 with
        | none => simp only [e3] at h; exact h.elim
        | some ds4 =>
          simp only [e3] at h
          cases e4 : walk w2 ds4 with
          | none => simp only [e4] at h; exact h.elim
          | some ys =>
            simp only [e4] at h
            refine ⟨M4, st4, ds4, ys, sr4, pures_rp rv4 e3, e4, fun J1 H5 s5 sr5 wJ1 => ?_⟩
            refine in2_end wJ1 (((er2.mono p3 s3').mono p4 s4).mono (List.prefix_refl _) s5) sr5 (prefix_at (pp.trans p4) hM) (h.pre (List.prefix_refl _) s5) fun M6 st6 H6 p6 s6 sr6 h6 => ?_
            exact ⟨M6, st6, ((p.trans pp).trans p4).trans p6, ((((s.trans s3).trans ss).trans s4).trans s5).trans s6, sr6, h6⟩
/-- the parts of a comprehension of two clauses -/
structure Parts2 (X : Cx) (C : Cn) (tg tg2 i2 elt : Expr) (scope : Scope) (own : List (Str × Nat)) (ttg ttg2 tit2 telt : Mi.T) (w2 : Mi.It) (wi1 : TI) : Prop where
  ok : BlkOk X.N X.env.scope scope own
  sub : ∀ i ∈ slots ttg2, i ∈ own.map (·.2)
  tg : ∀ (s : Shared) (H : Hp) (A : Addr) (cl : List (Str × Addr)) (fp : List Addr), PG (X.blk s H scope (compEnvC scope cl A X.env) fp) tg (tGw X.K C Wno (own.map (·.2)) ttg)
  it2 : ∀ (s : Shared) (H : Hp) (A : Addr) (cl : List (Str × Addr)) (fp : List Addr), PI (X.blk s H scope (compEnvC scope cl A X.env) fp) tg2 i2 wi1
  feed : Feed X C Wno w2 tit2 wi1
  tg2 : ∀ (s : Shared) (H : Hp) (A : Addr) (cl : List (Str × Addr)) (fp : List Addr), PG (X.blk s H scope (compEnvC scope cl A X.env) fp) tg2 (tGw X.K C Wno (slots ttg2) ttg2)
  elt : ∀ (s : Shared) (H : Hp) (A : Addr) (cl : List (Str × Addr)) (fp : List Addr), PE (X.blk s H scope (compEnvC scope cl A X.env) fp) elt (tE X.K C Wno telt)
  fold : ∀ env x, foldedSetIterable i2 env x = pure x
theorem se_comp2 {k : Ck} {w w2 : Mi.It} {elt tg it tg2 i2 : Expr} {scope : Scope} {own : List (Str × Nat)} {pos : Pos} {ttg tit ttg2 tit2 telt : Mi.T} {wi wi1 : TI} (hc : X.calm = true) (hN : X.N.Nodup) (hi : PI X tg it wi) (f : Feed X C W w tit wi) (p : Parts2 X C tg tg2 i2 elt scope own ttg ttg2 tit2 telt w2 wi1)
    (hs : ∀ x, foldedSetIterable it X.env x = pure x) : PE X (.ListComp elt [⟨tg, it, [], 0⟩, ⟨tg2, i2, [], 0⟩] scope pos) (tE X.K C W (.comp2 k ttg w tit ttg2 w2 tit2 telt (own.map (·.2)))) :=
  cvX (pe_lc2 (tt := tB X.K C Wno .nil) (tt1 := tB X.K C Wno .nil) hc hN hi p.ok p.sub p.tg (fun _ _ _ _ _ => sts_nil) p.it2 p.tg2 (fun _ _ _ _ _ => sts_nil) p.elt hs p.fold) (co_comp2 f p.feed)
theorem ss_comp2 {k : Ck} {w w2 : Mi.It} {i : Nat} {y : Str} {py : Pos} {elt tg it tg2 i2 : Expr} {scope : Scope} {own : List (Str × Nat)} {pos spos : Pos} {ttg tit ttg2 tit2 telt : Mi.T} {wi wi1 : TI} (hc : X.calm = true) (hN : X.N.Nodup) (hy : X.N[i]? = some y) (hyl : X.env.scope.names.lookup y = some .local)
    (hsw : swapsWith (.ListComp elt [⟨tg, it, [], 0⟩, ⟨tg2, i2, [], 0⟩] scope pos) (some (.Name y py)) spos.line X.env = pure true) (hi : PI X tg it wi) (f : Feed X C W w tit wi) (p : Parts2 X C tg tg2 i2 elt scope own ttg ttg2 tit2 telt w2 wi1) (hs : ∀ x, foldedSetIterable it X.env x = pure x) :
    PS X (.Assign [.Name y py] (.ListComp elt [⟨tg, it, [], 0⟩, ⟨tg2, i2, [], 0⟩] scope pos) spos) (tS X.K C W (.asg (.tname i) (.comp2 k ttg w tit ttg2 w2 tit2 telt (own.map (·.2))))) := by
  refine cvS (ps_setLc2 (tt := tB X.K C Wno .nil) (tt1 := tB X.K C Wno .nil) hc hN hy hyl hsw hi p.ok p.sub p.tg (fun _ _ _ _ _ => sts_nil) p.it2 p.tg2 (fun _ _ _ _ _ => sts_nil) p.elt hs p.fold) fun D σ H ⟨M, env, st, er, sr, h⟩ => ?_
  rw [ex] at h
  refine co_comp2 (Q := fun x H1 => gName i x σ H1 D.nx) f p.feed ⟨M, env, st, er, sr, (PR.bind h).imp fun r M1 st1 H1 p1 sr1 s1 h v rv => ?_⟩
  have h' : PR X.K M1 H1 st1 (.ok (.nx (env.set i (some r))) st1) W (QF X.K D) := h
  exact PR.here sr1 h' _ ((er.mono p1 s1).set i rv)
end
end MiS

namespace MiS
open PySem PySem.Spec PyProof.Rows L2 Mi MiG
variable [Tb]
section
variable {X : Cx} {pins : List (Addr × Obj)} {σ : L2.St} {H : Hp} {s : Shared}
/-- a pair goes into the new dict -/
theorem put_old {E : Value → Shared → Prop} {D : Addr} {y v : V} {u r : Value} {H' : Hp} {Q : Unit → Shared → Prop} (hu : X.A.units + 100 < cLine) (I : Inv X pins σ H s) (g : DPut H D y v H') (ry : RelV y u) (rv : RelV v r) (h : ∀ s', Inv X pins σ H' s' → Q () s') :
    wpAny (model X.prog X.w) X.A (dictSet D u r) Q E s := by
  rcases g with ⟨kvs, k, e, ey, l, eH⟩ | ⟨kvs, k, b, e, ey, eb, l, eH⟩
  · subst ey eH
    exact d_dictSet I e l ry rv h
  · subst ey eH
    cases (show u = Value.ref b from ry)
    obtain ⟨z, hd, xs, rel, dd⟩ := dt_of I.hok e
    have hz : xs.length ≤ sizeLine := by rw [← Paired.length rel]; exact z
    have hl : (putK kvs k v).length ≤ sizeLine := by have := length_putK kvs k v; omega
    refine wpAny_dictSet_heap (hsz := hz) (by show X.A.units < cLine; omega) (key_of I.hok eb) dd fun h' dd' hs => h _ ?_
    obtain ⟨q, es, ep, hq, h2, h3, h4, _, h5⟩ := dd'
    refine d_write I (by rw [e]; exact True.intro) hs ⟨q, hq⟩ ⟨hl, hd, _, (rel.put k eb rv).keeps fun c ys ec => ?_, q, es, ep, hq, h2, h3, h4, h5⟩
    rw [upd_ne (ne_of ec e (fun z => nomatch z))]
    exact ec
theorem put_new {E : Value → Shared → Prop} {D : Addr} {y v : V} {u r : Value} {H' : Hp} {Q : Unit → Shared → Prop} (hu : X.A.units + 100 < cLine) (I : Inv X pins σ H s) (g : DPut' H D y v H') (ry : RelV y u) (rv : RelV v r) (h : ∀ s', Inv X pins σ H' s' → Q () s') :
    wpAny (model X.prog X.w) X.A (dictSet D u r) Q E s := by
  rcases g with g | ⟨k, b, e, rfl, eb, rfl⟩ | ⟨k, e, rfl, rfl⟩
  · exact put_old hu I g ry rv h
  · have hb : b ≠ D := fun q => by subst q; rw [e] at eb; cases eb
    refine put_old hu (retypeT I e) (.inr ⟨[], k, b, upd_same, rfl, by rw [upd_ne hb]; exact eb, by decide, ?_⟩) ry rv h
    rw [upd_upd]
  · refine put_old hu (retypeK I e) (.inl ⟨[], k, upd_same, rfl, by decide, ?_⟩) ry rv h
    rw [upd_upd]
end
section
variable {X : Cx}
/-- a dict comprehension, keys of either kind -/
def tDcA (wi : TI) (g : TG) (tt : TT) (tk tv : TE) (vs : List Nat) : TE := fun σ H Q => wi σ H fun J H1 => ∀ D, H1 D = none → ∃ Wm : Nat → Nat → Hp → Prop, (∃ m, Wm 0 m (upd H1 D (.dK []))) ∧ ∀ i m H, Wm i m H →
  (J.stop i H ∧ Q (.ref D) H) ∨ (J.go i H ∧ ∃ Nx : Hp → Prop, (∀ H', Nx H' → ∃ m', m' < m ∧ Wm (i + 1) m' H') ∧ ∀ x H', J.yld i H x H' → g x (wipe σ vs) H' fun σ2 H2 => wipe σ2 vs = wipe σ vs ∧ tt σ2 H2 fun b H3 =>
    if b = true then tk σ2 H3 fun y H4 => tv σ2 H4 fun z H5 => ∃ H6, DPut' H5 D y z H6 ∧ Nx H6 else Nx H3)
theorem dca_core {pins : List (Addr × Obj)} {s : Shared} {σ : L2.St} {H : Hp} {Q : VK} {kx vx tg iter : Expr} {ifs : List Expr} {scope : Scope} {own : List (Str × Nat)} {pos pos' : Pos} {wi : TI} {g : TG} {tt : TT} {tk tv : TE} {use : Option (Value → Sem Unit)} {Qf : Value → Shared → Prop}
    (hc : X.calm = true) (hN : X.N.Nodup) (I : Inv X pins σ H s) (hi : PI X tg iter wi) (ok : BlkOk X.N X.env.scope scope own)
    (hg : ∀ (s : Shared) (H : Hp) (C : Addr) (cl : List (Str × Addr)) (fp : List Addr), PG (X.blk s H scope (compEnvC scope cl C X.env) fp) tg g) (ht : ∀ (s : Shared) (H : Hp) (C : Addr) (cl : List (Str × Addr)) (fp : List Addr), PTs (X.blk s H scope (compEnvC scope cl C X.env) fp) ifs tt)
    (hk : ∀ (s : Shared) (H : Hp) (C : Addr) (cl : List (Str × Addr)) (fp : List Addr), PE (X.blk s H scope (compEnvC scope cl C X.env) fp) kx tk)
    (he : ∀ (s : Shared) (H : Hp) (C : Addr) (cl : List (Str × Addr)) (fp : List Addr), PE (X.blk s H scope (compEnvC scope cl C X.env) fp) vx tv) (hs : ∀ x, foldedSetIterable iter X.env x = pure x)
    (hu : X.A.units + 100 < cLine) (h : tDcA wi g tt tk tv (own.map (·.2)) σ H Q)
    (hRR : ∀ D C s' m H', Inv X pins σ H' s' → Q (.ref D) H' → s'.heap.Ns C m → FpOk X pins H' C → compPost (model X.prog X.w) X.A X.xe use Qf (.ref D) C (.ok .next) s') :
    wpAny (model X.prog X.w) X.A (comprehension (.DictComp kx vx [⟨tg, iter, ifs, 0⟩] scope pos) scope X.env pos' newDict false (eval iter X.env) use) Qf X.xe s := by
  have hfree : ∀ y ∈ scope.names, y.2 = .free → ∃ c, X.env.cells.lookup y.1 = some c := fun y hy e => by
    rcases ok.free y hy e with k | k
    · exact I.ok.has _ (.inl k)
    · exact I.ok.has _ (.inr k)
  refine wpAny_comprehension_free (use := use) rfl hs (closure_ok hfree) ok.kind (fun y hy e => by rw [ok.uniq y hy, e])
    (thn (hi.run pins s σ H _ I h) fun xv s1 hx => thn hx fun itv s2 h2 => ?_)
  obtain ⟨it, fp, tn, J, H2, e, I2, T, st2, f2, q⟩ := h2
  subst e
  refine wpAny_newObj_type (newEnv_comp ?_)
  generalize hD : s2.heap.objs.size = D
  have hDn : H2 D = none := I2.hok.fresh (Nat.le_of_eq hD)
  obtain ⟨W, ⟨m0, w0⟩, turn⟩ := q D hDn
  -- the new list
  generalize hs3 : ({ s2 with heap := s2.heap.push { cls := .type "dict", data := .dict #[] } } : Shared) = s3
  have I3 : Inv X pins σ (upd H2 D (.dK [])) s3 := by
    rw [← hs3]
    refine I2.laid (t' := s2.toks) (fun b o e => Heap.get?_push_of_some _ e) (Nat.le_of_eq hD) ?_
    rw [← hD]
    exact dk_empty s2.heap I2.big
  have h3 : s3.heap = s2.heap.push { cls := .type "dict", data := .dict #[] } := by rw [← hs3]
  have sz : ∀ b ∈ fp, b < s2.heap.objs.size := fun b hb => by
    obtain ⟨o, e, _⟩ := T.obj _ _ st2 b hb
    exact Heap.lt_size e
  have f3 : ∀ b ∈ fp, FpOk X pins (upd H2 D (.dK [])) b ∧ b < s3.heap.objs.size := fun b hb => by
    have hlt := sz b hb
    refine ⟨⟨?_, (f2 b hb).2⟩, by rw [h3, Heap.size_push]; exact Nat.lt_succ_of_lt hlt⟩
    rw [upd_ne (by rw [← hD]; exact Nat.ne_of_lt hlt)]
    exact (f2 b hb).1
  have st3 : tn 0 s3.heap := T.keep _ _ _ st2 fun b _ o e => by rw [h3]; exact Heap.get?_push_of_some _ e
  have I4 := block_start I3 ok hN f3
  have pg := hg s3 (upd H2 D (.dK [])) s3.heap.objs.size (cellsFrom (s3.heap.objs.size + 1) scope.names (cloFrom X.env.cells scope.names [])) fp
  have pt := ht s3 (upd H2 D (.dK [])) s3.heap.objs.size (cellsFrom (s3.heap.objs.size + 1) scope.names (cloFrom X.env.cells scope.names [])) fp
  have pk := hk s3 (upd H2 D (.dK [])) s3.heap.objs.size (cellsFrom (s3.heap.objs.size + 1) scope.names (cloFrom X.env.cells scope.names [])) fp
  have pe := he s3 (upd H2 D (.dK [])) s3.heap.objs.size (cellsFrom (s3.heap.objs.size + 1) scope.names (cloFrom X.env.cells scope.names [])) fp
  show codeAny _ _ (.compStart (.DictComp kx vx [⟨tg, iter, ifs, 0⟩] scope pos) 0 (.ref it) (.ref D) (compEnvC scope (cellsFrom (s3.heap.objs.size + 1) scope.names (cloFrom X.env.cells scope.names [])) s3.heap.objs.size X.env)) (compPost (model X.prog X.w) X.A X.xe use Qf (.ref D) s3.heap.objs.size) { s3 with heap := pushCells (s3.heap.push { cls := .type "dict", data := .dict #[] }) scope.names }
  have nfp : ∀ b ∈ fp, (upd H2 D (.dK [])) b = none := fun b hb => (f3 b hb).1.1
  generalize hce : compEnvC scope (cellsFrom (s3.heap.objs.size + 1) scope.names (cloFrom X.env.cells scope.names [])) s3.heap.objs.size X.env = ce at I4 pg pt pk pe ⊢
  have cL : ce.locals = s3.heap.objs.size := by subst hce; rfl
  generalize hH3 : upd H2 D (.dK []) = H3 at I3 I4 pg pt pk pe w0 nfp f3
  generalize hs4 : ({ s3 with heap := pushCells (s3.heap.push { cls := .type "dict", data := .dict #[] }) scope.names } : Shared) = s4 at I4 ⊢
  have st4 : tn 0 s4.heap := T.keep _ _ _ st3 fun b _ o e => by rw [← hs4]; exact pushCells_keeps _ _ _ _ (Heap.get?_push_of_some _ e)
  have stat : ∀ {σ' : L2.St} {H' : Hp} {s' : Shared}, Inv (X.blk s3 H3 scope ce fp) [] σ' H' s' → (∀ b ∈ fp, H' b = none) → ∀ b ∈ fp, FpOk (X.blk s3 H3 scope ce fp) [] H' b := fun {σ' H' s'} I' hn b hb =>
    ⟨hn b hb, (I'.ok.exf b hb).1, I'.ok.exfs b hb, .inl hb, fun x c e => (I'.ok.exf b hb).2 x c e, fun p hp => absurd (show p ∈ ([] : List (Addr × Obj)) ++ [] from hp) (by simp)⟩
  have loop : codeAny (model X.prog X.w) X.A (.compLoop (.DictComp kx vx [⟨tg, iter, ifs, 0⟩] scope pos) 0 (.ref it) (.ref D) ce) (compPost (model X.prog X.w) X.A X.xe use Qf (.ref D) s3.heap.objs.size) s4 := by
    refine compLoop_anyD (fun n s' => ∃ i H', Inv (X.blk s3 H3 scope ce fp) [] (wipe σ (own.map (·.2))) H' s' ∧ tn i s'.heap ∧ (∀ b ∈ fp, H' b = none) ∧ W i n H') ?_ m0 ⟨0, H3, I4, st4, nfp, w0⟩
    rintro n s5 ⟨i, H5, I5, st5, n5, w5⟩
    rcases turn i n H5 w5 with ⟨stop, qq⟩ | ⟨go, Nx, hNx, step⟩
    · have td := T.done (X.blk s3 H3 scope ce fp) rfl rfl rfl hc i [] s5 _ H5 (fun _ _ => False) I5 (stat I5 n5) st5 stop
      refine thnF td fun r s6 ⟨hr, I6⟩ => ?_
      subst hr
      -- back in the def's context
      have I7 : Inv X pins σ H5 s6 := I3.call' (ch := fp) I6.os I6.base I6.hok I6.bare fun b hb => ⟨(f3 b hb).1.2.2.2.1, (f3 b hb).1.2.1, (f3 b hb).1.2.2.2.2.1, (f3 b hb).1.2.2.2.2.2⟩
      have nC : H5 s3.heap.objs.size = none := by
        have z : H5 ce.locals = none := I6.free
        rw [cL] at z
        exact z
      obtain ⟨m, hn, _⟩ := I6.loc
      have hn : s6.heap.Ns ce.locals m := hn
      rw [cL] at hn
      exact hRR D s3.heap.objs.size s6 m H5 I7 qq hn (I3.fpOk (Nat.le_refl _) nC)
    · have ti := T.item (X.blk s3 H3 scope ce fp) rfl rfl rfl hc i [] s5 _ H5 (fun _ _ => False) I5 (stat I5 n5) st5 go
      refine thnF ti fun r s6 ⟨u, hr, h6⟩ => ?_
      subst hr
      refine thnF h6 fun _ s7 ⟨x, H7, I7, r7, y7, st7, n7⟩ => ?_
      have I7' := I7.pinned (stat I7 n7) (T.obj _ _ st7)
      refine thnF (pg.run _ s7 _ H7 x u _ I7' r7 (step x H7 y7)) fun _ s8 ⟨σ8, H8, I8, hw8, q8⟩ => ?_
      refine thnF (pt.run _ s8 σ8 H8 _ I8 q8) fun b s9 ⟨H9, I9, q9⟩ => ?_
      -- the turn's end
      have fin : ∀ {s' : Shared} {H' : Hp}, Inv (X.blk s3 H3 scope ce fp) ([] ++ pinsAt fp s7.heap) σ8 H' s' → Nx H' → ∃ m, m < n ∧ ∃ i H', Inv (X.blk s3 H3 scope ce fp) [] (wipe σ (own.map (·.2))) H' s' ∧ tn i s'.heap ∧ (∀ b ∈ fp, H' b = none) ∧ W i m H' := fun {s' H'} I' nx => by
        obtain ⟨m', hm, w'⟩ := hNx H' nx
        have pin' : ∀ b ∈ fp, ∀ o, s7.heap.get? b = some o → s'.heap.get? b = some o ∧ H' b = none := fun b hb o e =>
          let z := I'.pin (b, o) (List.mem_append_right _ (List.mem_append_right _ (mem_pinsAt hb e)))
          ⟨z.1, z.2.1⟩
        have hl : (wipe σ (own.map (·.2))).length = σ8.length := by rw [← hw8, wipe_length]
        refine ⟨m', hm, i + 1, H', (I'.unpinned (pins := [])).weak hl (fun j v e => ?_), T.keep _ _ _ st7 fun b hb o e => (pin' b hb o e).1, fun b hb => ?_, w'⟩
        · rw [← hw8] at e
          exact (wipe_some e).1
        · obtain ⟨o, e, _⟩ := T.obj _ _ st7 b hb
          exact (pin' b hb o e).2
      cases b with
      | false =>
        simp only [Bool.false_eq_true, if_false] at q9 ⊢
        exact fin I9 q9
      | true =>
        simp only [if_true] at q9 ⊢
        refine thnF (pk.run _ s9 σ8 H9 _ I9 q9) fun z s10 ⟨yk, H10, I10, r10, q10⟩ => ?_
        refine thnF (pe.run _ s10 σ8 H10 _ I10 q10) fun z2 s11 ⟨yv, H11, I11, r11, H12, gp, nx⟩ => ?_
        exact put_new (X := X.blk s3 H3 scope ce fp) hu I11 gp r10 r11 fun s12 I12 => fin I12 nx
  exact codeAny_compStart_dict loop (T.self X.A 0 _ _ _ st4 loop)
/-- as a value -/
theorem pe_dca {kx vx tg iter : Expr} {ifs : List Expr} {scope : Scope} {own : List (Str × Nat)} {pos : Pos} {wi : TI} {g : TG} {tt : TT} {tk tv : TE} (hu : X.A.units + 100 < cLine) (hc : X.calm = true) (hN : X.N.Nodup) (hi : PI X tg iter wi) (ok : BlkOk X.N X.env.scope scope own)
    (hg : ∀ (s : Shared) (H : Hp) (C : Addr) (cl : List (Str × Addr)) (fp : List Addr), PG (X.blk s H scope (compEnvC scope cl C X.env) fp) tg g) (ht : ∀ (s : Shared) (H : Hp) (C : Addr) (cl : List (Str × Addr)) (fp : List Addr), PTs (X.blk s H scope (compEnvC scope cl C X.env) fp) ifs tt)
    (hk : ∀ (s : Shared) (H : Hp) (C : Addr) (cl : List (Str × Addr)) (fp : List Addr), PE (X.blk s H scope (compEnvC scope cl C X.env) fp) kx tk)
    (he : ∀ (s : Shared) (H : Hp) (C : Addr) (cl : List (Str × Addr)) (fp : List Addr), PE (X.blk s H scope (compEnvC scope cl C X.env) fp) vx tv) (hs : ∀ x, foldedSetIterable iter X.env x = pure x := by intro _; rfl) :
    PE X (.DictComp kx vx [⟨tg, iter, ifs, 0⟩] scope pos) (tDcA wi g tt tk tv (own.map (·.2))) := by
  refine ⟨fun pins s σ H Q I h => ?_⟩
  rw [arm_eval_DictComp]
  refine dca_core hc hN I hi ok hg ht hk he hs hu h fun D C s' m H' I' q hn f => ⟨m, hn, fun h'' sb => ?_⟩
  obtain ⟨f0, f1, f2, f3, f4, f5⟩ := f
  exact ⟨.ref D, H', I'.turned (t' := s'.toks) (fun b o hb e => (sb.2 b hb).trans e) f0 f1 f3 f4 f5, rfl, q⟩
end
end MiS

namespace MiS
open PySem PySem.Spec PyProof.Rows L2 Mi MiG
variable [Tb]
section
variable {X : Cx} {C : Cn} {W : Wish} {K : PySem.W.Frag}
/-- one turn of a dict comprehension -/
abbrev turnD (C : Cn) (tg k v : Mi.T) (own : List Nat) (env : En) : D → Sto → R (D × D) := fun x st => (asgn C tg (.val x) (wipeE env own) st).bind fun env' st => (ev C k env' st).bind fun a st => (ev C v env' st).bind fun b st => (match a, b with
          | .val a, .val b => .ok (a, b) st
          | _, _ => .bad)
/-- a pair goes in -/
theorem put_end {M : List Addr} {H : Hp} {st : Sto} {n : Nat} {a : Addr} {y z : V} {k d : D} {rest : Sto → R Unit} {Q : Unit → List Addr → Sto → Hp → Prop} (sr : SR K M H st) (hM : M[n]? = some a) (ry : Rp K (Lv M st) H y k) (rz : Rp K (Lv M st) H z d)
    (h : PR K M H st (match st[n]? with
      | some (.dic acc) => if keyOk acc k && Mi.sizeOk (acc.length + 1) then rest (st.set n (.dic (put acc k d))) else .bad
      | _ => .bad) W Q) :
    ∃ H6, DPut' H a y z H6 ∧ ∃ st', Step (Lv M st) H (Lv M st') H6 ∧ SR K M H6 st' ∧ PR K M H6 st' (rest st') W Q := by
  cases e : st[n]? with
  | none => rw [e] at h; exact h.elim
  | some o =>
    rw [e] at h
    cases o with
    | dic acc =>
      have h : PR K M H st (if keyOk acc k && Mi.sizeOk (acc.length + 1) then rest (st.set n (.dic (put acc k d))) else .bad) W Q := h
      cases q : keyOk acc k && Mi.sizeOk (acc.length + 1) with
      | false => rw [q] at h; exact h.elim
      | true =>
        rw [q, if_pos rfl] at h
        have es : setO (.dic acc) k d = some (.dic (put acc k d)) := by
          have : (if keyOk acc k && Mi.sizeOk (acc.length + 1) then some (O.dic (put acc k d)) else none) = some (.dic (put acc k d)) := by rw [q]; rfl
          cases k <;> exact this
        have hs := set_end (Q := fun H' => Step (Lv M st) H (Lv M (st.set n (.dic (put acc k d)))) H' ∧ SR K M H' (st.set n (.dic (put acc k d)))) sr hM e ry rz es fun H' s sr' => ⟨s, sr'⟩
        rcases hs with ⟨a', ys, i, j, ea, ei, ha, _⟩ | ⟨a', H', ea, g, s, sr'⟩
        · exfalso
          cases ea
          rcases sr.obj n _ a e hM with ⟨ks, e1, _⟩ | ⟨ks, e1, _⟩ <;> (rw [e1] at ha; cases ha)
        · cases ea
          exact ⟨H', g, _, s, sr', by
            have := h
            cases r : rest (st.set n (.dic (put acc k d))) with
            | ok b st2 =>
              rw [r] at this
              exact fun M2 H2 p2 sr2 s2 => this M2 H2 p2 sr2 (s.trans s2)
            | exc x st2 =>
              rw [r] at this
              exact fun M2 H2 p2 sr2 s2 => this M2 H2 p2 sr2 (s.trans s2)
            | bad => rw [r] at this; exact this⟩
    | _ => exact h.elim
theorem turnD_end {M : List Addr} {H' : Hp} {st : Sto} {env : En} {σ : L2.St} {x : V} {d : D} {tg tk tv : Mi.T} {own : List Nat} {n : Nat} {a : Addr} {Nx : Hp → Prop} {rest : Sto → R Unit} {Q : Unit → List Addr → Sto → Hp → Prop} (er : ER K M (Lv M st) H' env σ) (sr : SR K M H' st) (rx : Rp K (Lv M st) H' x d) (hM : M[n]? = some a)
    (h : PR K M H' st ((turnD C tg tk tv own env d st).bind fun p st => match st[n]? with
      | some (.dic acc) => if keyOk acc p.1 && Mi.sizeOk (acc.length + 1) then rest (st.set n (.dic (put acc p.1 p.2))) else .bad
      | _ => .bad) W Q)
    (next : ∀ M2 st2 H2, M <+: M2 → Step (Lv M st) H' (Lv M2 st2) H2 → SR K M2 H2 st2 → PR K M2 H2 st2 (rest st2) W Q → Nx H2) :
    tGw K C W own tg x (wipe σ own) H' fun σ2 H2 => wipe σ2 own = wipe σ own ∧ tB K C W .nil σ2 H2 fun b H3 => if b = true then tE K C W tk σ2 H3 fun y H4 => tE K C W tv σ2 H4 fun z H5 => ∃ H6, DPut' H5 a y z H6 ∧ Nx H6 else Nx H3 := by
  refine ⟨M, wipeE env own, st, .val d, er.wipe2 own, sr, rx, (PR.bind (PR.bind h)).imp fun env2 M2 st2 H2 p2 sr2 s2 h σ2 er2 ew => ?_⟩
  refine ⟨by rw [ew, wipe_wipe], M2, env2, st2, er2, sr2, ?_⟩
  rw [tst]
  intro M3 H3 p3 sr3 s3
  show (if true = true then _ else _)
  rw [if_pos rfl]
  have h := h.pre p3 s3
  refine ⟨M3, env2, st2, er2.mono p3 s3, sr3, (PR.bind h).imp fun rk M4 st4 H4 p4 sr4 s4 h v1 r1 => ?_⟩
  refine ⟨M4, env2, st4, (er2.mono p3 s3).mono p4 s4, sr4, (PR.bind h).imp fun rv M5 st5 H5 p5 sr5 s5 h v2 r2 => ?_⟩
  cases rk with
  | ref _ => cases rv <;> exact h.elim
  | val k =>
    cases rv with
    | ref _ => exact h.elim
    | val z =>
      have h' : PR K M5 H5 st5 (.ok (k, z) st5) W (fun p M st H => PR K M H st (match st[n]? with
        | some (.dic acc) => if keyOk acc p.1 && Mi.sizeOk (acc.length + 1) then rest (st.set n (.dic (put acc p.1 p.2))) else .bad
        | _ => .bad) W Q) := h
      have h2 := PR.here (a := (k, z)) sr5 h'
      have pp := ((p2.trans p3).trans p4).trans p5
      obtain ⟨H6, g, st', s', sr', h3⟩ := put_end (rest := rest) sr5 (prefix_at pp hM) (Rp.mono s5 r1) r2 h2
      exact ⟨H6, g, next M5 st' H6 pp ((((s2.trans s3).trans s4).trans s5).trans s') sr' h3⟩
theorem dcomp_end {M1 : List Addr} {H1 : Hp} {st1 : Sto} {J : L2.It} {xs : List D} {tg tk tv : Mi.T} {own : List Nat} {σ : L2.St} {env : En} {Q : VK} (w : Walks K M1 H1 st1 J xs) (er : ER K M1 (Lv M1 st1) H1 env σ) (sr : SR K M1 H1 st1)
    (h : PR K M1 H1 st1 (loopD st1.length (turnD C tg tk tv own env) xs (st1 ++ [.dic []])) Wno (fun _ M st H => PR K M H st (finC .keep st1.length st) W (QV K Q))) :
    ∀ D, H1 D = none → ∃ Wm : Nat → Nat → Hp → Prop, (∃ m, Wm 0 m (upd H1 D (.dK []))) ∧ ∀ i m H, Wm i m H →
      (J.stop i H ∧ Q (.ref D) H) ∨ (J.go i H ∧ ∃ Nx : Hp → Prop, (∀ H', Nx H' → ∃ m', m' < m ∧ Wm (i + 1) m' H') ∧ ∀ x H', J.yld i H x H' → tGw K C Wno own tg x (wipe σ own) H' fun σ2 H2 => wipe σ2 own = wipe σ own ∧ tB K C Wno .nil σ2 H2 fun b H3 =>
        if b = true then tE K C Wno tk σ2 H3 fun y H4 => tE K C Wno tv σ2 H4 fun z H5 => ∃ H6, DPut' H5 D y z H6 ∧ Nx H6 else Nx H3) := by
  intro D hD
  obtain ⟨s0, sr0⟩ := sr.push (o := .dic []) (u := .dK []) hD (.inl ⟨[], rfl, rfl, .nil⟩)
  have p0 := List.prefix_append M1 [D]
  have hM0 : (M1 ++ [D])[st1.length]? = some D := by rw [← sr.len]; simp
  have h0 := h.pre p0 s0
  refine ⟨fun i m H => i + m = xs.length ∧ ∃ M st, (M1 ++ [D]) <+: M ∧ Step (Lv (M1 ++ [D]) (st1 ++ [.dic []])) (upd H1 D (.dK [])) (Lv M st) H ∧ SR K M H st ∧ PR K M H st (loopD st1.length (turnD C tg tk tv own env) (xs.drop i) st) Wno (fun _ M st H => PR K M H st (finC .keep st1.length st) W (QV K Q)),
    ⟨xs.length, by omega, _, _, List.prefix_refl _, Step.refl, sr0, by rw [List.drop_zero]; exact h0⟩, ?_⟩
  rintro i m H ⟨hm, M, st, p, s, sr2, h⟩
  obtain ⟨go, stop⟩ := w M H st (p0.trans p) (s0.trans s) sr2
  have hM := prefix_at p hM0
  cases m with
  | zero =>
    have hi : i = xs.length := by omega
    subst hi
    rw [List.drop_length, loopD] at h
    exact .inl ⟨stop, fin_end sr2 hM (PR.here (a := ()) sr2 h)⟩
  | succ m =>
    have hi : i < xs.length := by omega
    obtain ⟨g1, g2⟩ := go i xs[i] (List.getElem?_eq_getElem hi)
    rw [List.drop_eq_getElem_cons hi, loopD] at h
    refine .inr ⟨g1, fun H' => ∃ M st, (M1 ++ [D]) <+: M ∧ Step (Lv (M1 ++ [D]) (st1 ++ [.dic []])) (upd H1 D (.dK [])) (Lv M st) H' ∧ SR K M H' st ∧ PR K M H' st (loopD st1.length (turnD C tg tk tv own env) (xs.drop (i + 1)) st) Wno (fun _ M st H => PR K M H st (finC .keep st1.length st) W (QV K Q)),
      fun H' q => ⟨m, Nat.lt_succ_self m, by omega, q⟩, fun x H' y => ?_⟩
    obtain ⟨sr3, s3, rx⟩ := g2 x H' y
    have er3 := er.mono (p0.trans p) ((s0.trans s).trans s3)
    exact turnD_end er3 sr3 rx hM (h.pre (List.prefix_refl _) s3) fun M2 st2 H2 p2 s2 sr2' h2 => ⟨M2, st2, p.trans p2, (s.trans s3).trans s2, sr2', h2⟩
theorem co_dcomp {w : Mi.It} {tg it k v : Mi.T} {own : List Nat} {wi : TI} (f : Feed X C W w it wi) {σ : L2.St} {H : Hp} {Q : VK} (h : tE X.K C W (.dcomp tg w it k v own) σ H Q) :
    tDcA wi (tGw X.K C Wno own tg) (tB X.K C Wno .nil) (tE X.K C Wno k) (tE X.K C Wno v) own σ H Q := by
  obtain ⟨M, env, st, er, sr, h⟩ := h
  rw [ev] at h
  refine f ⟨M, env, st, er, sr, (PR.bind h).imp fun rs M1 st1 H0 p1 sr1 s1 h vs rv => ?_⟩
  cases e1 : pures rs with
  | none => simp only [e1] at h; exact h.elim
  | some ds =>
    simp only [e1] at h
    cases e2 : walk w ds with
    | none => simp only [e2] at h; exact h.elim
    | some xs =>
      simp only [e2] at h
      refine ⟨M1, st1, ds, xs, sr1, pures_rp rv e1, e2, fun J H1 sL srL wJ => ?_⟩
      have h := (PR.calm (PR.bind h)).pre (List.prefix_refl _) sL
      exact dcomp_end (W := W) wJ ((er.mono p1 s1).mono (List.prefix_refl _) sL) srL h
/-- a dict comprehension, as a value -/
structure PartsD (X : Cx) (C : Cn) (tg kx vx : Expr) (scope : Scope) (own : List (Str × Nat)) (ttg tk tv : Mi.T) : Prop where
  ok : BlkOk X.N X.env.scope scope own
  tg : ∀ (s : Shared) (H : Hp) (A : Addr) (cl : List (Str × Addr)) (fp : List Addr), PG (X.blk s H scope (compEnvC scope cl A X.env) fp) tg (tGw X.K C Wno (own.map (·.2)) ttg)
  k : ∀ (s : Shared) (H : Hp) (A : Addr) (cl : List (Str × Addr)) (fp : List Addr), PE (X.blk s H scope (compEnvC scope cl A X.env) fp) kx (tE X.K C Wno tk)
  v : ∀ (s : Shared) (H : Hp) (A : Addr) (cl : List (Str × Addr)) (fp : List Addr), PE (X.blk s H scope (compEnvC scope cl A X.env) fp) vx (tE X.K C Wno tv)
theorem se_dcomp {w : Mi.It} {kx vx tg it : Expr} {scope : Scope} {own : List (Str × Nat)} {pos : Pos} {ttg tit tk tv : Mi.T} {wi : TI} (hu : X.A.units + 100 < cLine) (hc : X.calm = true) (hN : X.N.Nodup) (hi : PI X tg it wi) (f : Feed X C W w tit wi) (p : PartsD X C tg kx vx scope own ttg tk tv)
    (hs : ∀ x, foldedSetIterable it X.env x = pure x) : PE X (.DictComp kx vx [⟨tg, it, [], 0⟩] scope pos) (tE X.K C W (.dcomp ttg w tit tk tv (own.map (·.2)))) :=
  cvX (pe_dca (tt := tB X.K C Wno .nil) hu hc hN hi p.ok p.tg (fun _ _ _ _ _ => sts_nil) p.k p.v hs) (co_dcomp f)
/-- .. in a name -/
theorem ps_setDca {i : Nat} {y : Str} {py : Pos} {kx vx tg iter : Expr} {ifs : List Expr} {scope : Scope} {own : List (Str × Nat)} {pos spos : Pos} {wi : TI} {g : TG} {tt : TT} {tk tv : TE} (hu : X.A.units + 100 < cLine) (hc : X.calm = true) (hN : X.N.Nodup) (hy : X.N[i]? = some y) (hyl : X.env.scope.names.lookup y = some .local)
    (hsw : swapsWith (.DictComp kx vx [⟨tg, iter, ifs, 0⟩] scope pos) (some (.Name y py)) spos.line X.env = pure true) (hi : PI X tg iter wi) (ok : BlkOk X.N X.env.scope scope own)
    (hg : ∀ (s : Shared) (H : Hp) (C : Addr) (cl : List (Str × Addr)) (fp : List Addr), PG (X.blk s H scope (compEnvC scope cl C X.env) fp) tg g) (ht : ∀ (s : Shared) (H : Hp) (C : Addr) (cl : List (Str × Addr)) (fp : List Addr), PTs (X.blk s H scope (compEnvC scope cl C X.env) fp) ifs tt)
    (hk : ∀ (s : Shared) (H : Hp) (C : Addr) (cl : List (Str × Addr)) (fp : List Addr), PE (X.blk s H scope (compEnvC scope cl C X.env) fp) kx tk)
    (he : ∀ (s : Shared) (H : Hp) (C : Addr) (cl : List (Str × Addr)) (fp : List Addr), PE (X.blk s H scope (compEnvC scope cl C X.env) fp) vx tv) (hs : ∀ x, foldedSetIterable iter X.env x = pure x) :
    PS X (.Assign [.Name y py] (.DictComp kx vx [⟨tg, iter, ifs, 0⟩] scope pos) spos) (tAsg (tDcA wi g tt tk tv (own.map (·.2))) (gName i)) := by
  refine ⟨fun pins s σ H D I h => ?_⟩
  rw [exec_Assign_Name_used _ _ _ _ hsw]
  refine wpAny_bind (wpAny_standAt (wpAny_bind ?_))
  show wpAny _ X.A (do let _ ← comprehension (.DictComp kx vx [⟨tg, iter, ifs, 0⟩] scope pos) scope X.env (firstIterPos [⟨tg, iter, ifs, 0⟩] pos) newDict false (eval iter X.env) (some (assign (.Name y py) X.env))) _ _ s
  have h : tDcA wi g tt tk tv (own.map (·.2)) σ H (fun x H1 => gName i x σ H1 D.nx) := h
  refine wpAny_bind (thn (dca_core (Qf := fun _ s' => SP X pins D .next s') hc hN I hi ok hg ht hk he hs hu h fun L C s' m H' I' q hn f => ?_) fun _ s' hq => wpAny_pure (wpAny_pure hq))
  show wpAny _ _ (assign (.Name y py) X.env (.ref L)) _ _ _
  refine wpAny_assign_Name (store_ok2 (v := V.ref L) I' hN hy (.inl hyl) rfl (fun s2 I2 ⟨a, sb, ha⟩ => ?_) (.inr hyl))
  obtain ⟨f0, f1, f2, f3, f4, f5⟩ := f
  have haC : C ≠ a := by
    rcases ha with z | z
    · rw [z]; exact f1
    · exact fun e => f4 y a z e.symm
  refine ⟨m, hn.sameBut sb haC, fun h3 sb3 => ?_⟩
  exact ⟨_, H', I2.turned (t' := s2.toks) (fun b o hb e => (sb3.2 b hb).trans e) f0 f1 f3 f4 f5, q⟩
theorem ss_dcomp {w : Mi.It} {i : Nat} {y : Str} {py : Pos} {kx vx tg it : Expr} {scope : Scope} {own : List (Str × Nat)} {pos spos : Pos} {ttg tit tk tv : Mi.T} {wi : TI} (hu : X.A.units + 100 < cLine) (hc : X.calm = true) (hN : X.N.Nodup) (hy : X.N[i]? = some y) (hyl : X.env.scope.names.lookup y = some .local)
    (hsw : swapsWith (.DictComp kx vx [⟨tg, it, [], 0⟩] scope pos) (some (.Name y py)) spos.line X.env = pure true) (hi : PI X tg it wi) (f : Feed X C W w tit wi) (p : PartsD X C tg kx vx scope own ttg tk tv) (hs : ∀ x, foldedSetIterable it X.env x = pure x) :
    PS X (.Assign [.Name y py] (.DictComp kx vx [⟨tg, it, [], 0⟩] scope pos) spos) (tS X.K C W (.asg (.tname i) (.dcomp ttg w tit tk tv (own.map (·.2))))) := by
  refine cvS (ps_setDca (tt := tB X.K C Wno .nil) hu hc hN hy hyl hsw hi p.ok p.tg (fun _ _ _ _ _ => sts_nil) p.k p.v hs) fun D σ H ⟨M, env, st, er, sr, h⟩ => ?_
  rw [ex] at h
  refine co_dcomp (Q := fun x H1 => gName i x σ H1 D.nx) f ⟨M, env, st, er, sr, (PR.bind h).imp fun r M1 st1 H1 p1 sr1 s1 h v rv => ?_⟩
  have h' : PR X.K M1 H1 st1 (.ok (.nx (env.set i (some r))) st1) W (QF X.K D) := h
  exact PR.here sr1 h' _ ((er.mono p1 s1).set i rv)
end
end MiS

namespace MiS
open PySem PySem.Spec PyProof.Rows L2 Mi MiG
variable [Tb]
section
variable {X : Cx} {C : Cn} {W : Wish}
/-! ### isinstance with two types -/
theorem kit_ok2 (t u : Ty) (d : D) (nd : ∀ kvs, d ≠ .dict kvs) : ∃ n : String, (∀ {K : PySem.W.Frag} {L : Addr → Prop} {H : Hp} {v : V}, Cp K L H v d → TyX K H v (.type n)) ∧ kitB n (tyN t) = some (isTy d t) ∧ kitB n (tyN u) = some (isTy d u) := by
  cases d with
  | none => exact ⟨"NoneType", fun c => by cases c.non; exact .base .non, by cases t <;> decide +kernel, by cases u <;> decide +kernel⟩
  | bool b => exact ⟨"bool", fun c => by cases c.bl; exact .base (.bl _), by cases t <;> (show _ = some _; simp only [isTy]; decide +kernel), by cases u <;> (show _ = some _; simp only [isTy]; decide +kernel)⟩
  | int i => exact ⟨"int", fun c => by cases c.int; exact .base (.int _), by cases t <;> (show _ = some _; simp only [isTy]; decide +kernel), by cases u <;> (show _ = some _; simp only [isTy]; decide +kernel)⟩
  | str x => exact ⟨"str", fun c => by cases c.str; exact .base (.str _), by cases t <;> (show _ = some _; simp only [isTy]; decide +kernel), by cases u <;> (show _ = some _; simp only [isTy]; decide +kernel)⟩
  | list ds => exact ⟨"list", fun c => by
      obtain ⟨a, xs, rfl, r, p⟩ := c.list
      rcases r with r | ⟨o, r⟩
      · exact .base (.lst r)
      · exact .base (.frz r), by cases t <;> (show _ = some _; simp only [isTy]; decide +kernel), by cases u <;> (show _ = some _; simp only [isTy]; decide +kernel)⟩
  | tuple ds => exact ⟨"tuple", fun {K L H v} c => by
      have k := c.rt
      cases k with
      | tup n r x => exact .base (.tup r), by cases t <;> (show _ = some _; simp only [isTy]; decide +kernel), by cases u <;> (show _ = some _; simp only [isTy]; decide +kernel)⟩
  | dict kvs => exact absurd rfl (nd kvs)
theorem se_isi2 {e : Expr} {te : Mi.T} {t u : Ty} {k : Nat} {p p2 p3 tp pos : Pos} (hg : Gl X "isinstance") (hm : X.mg "isinstance" = none) (hgt : Gl X (Str.ofString (tyN t))) (hmt : X.mg (Str.ofString (tyN t)) = none) (hgu : Gl X (Str.ofString (tyN u))) (hmu : X.mg (Str.ofString (tyN u)) = none) (ha : PE X e (tE X.K C W te)) (hs : nostar e = true) :
    PE X (.Call (.Name "isinstance" p) [e, .Tuple [.Name (Str.ofString (tyN t)) p2, .Name (Str.ofString (tyN u)) p3] k tp] [] pos) (tE X.K C W (.isi te [t, u])) := by
  have hT : PE X (.Name (Str.ofString (tyN t)) p2) (tC (.ty (tyN t))) := pe_bltn hgt hmt (boot_ty t) rfl (by cases t <;> decide) (by cases t <;> decide)
  have hU : PE X (.Name (Str.ofString (tyN u)) p3) (tC (.ty (tyN u))) := pe_bltn hgu hmu (boot_ty u) rfl (by cases u <;> decide) (by cases u <;> decide)
  refine cvE (pe_callB call_isiT hg hm boot_isinstance (pa_cons ha (pa_cons (pe_tup (x1 := k) (pos := tp) (pa_cons hT (pa_cons hU pa_nil))) pa_nil) (star_cons hs)) (by decide) (by decide) (star_cons hs) (by rfl)) fun σ H Q ⟨M, env, st, er, sr, h⟩ => ?_
  rw [ev] at h
  refine ⟨M, env, st, er, sr, (PR.bind h).imp fun x M1 st1 H1 p1 sr1 s1 h v1 r1 => ?_⟩
  refine ⟨by show 2 ≤ sizeLine; decide, fun q hq => ?_⟩
  have sr2 := sr1.fresh (o := .tup [.ty (tyN t), .ty (tyN u)]) hq
  have r2 := r1.mono (List.prefix_refl M1) (Step.fresh (L := Lv M1 st1) (o := .tup [.ty (tyN t), .ty (tyN u)]) hq)
  cases e1 : content st1 x with
  | none => simp only [e1] at h; exact h.elim
  | some d =>
    simp only [e1] at h
    have nd : ∀ kvs, d ≠ .dict kvs := by rintro kvs rfl; exact h
    obtain ⟨n, ty, kt, kt2⟩ := kit_ok2 t u d nd
    have h' : PR X.K M1 H1 st1 (.ok (.val (.bool ([t, u].any (isTy d)))) st1) W (QV X.K Q) := by
      cases d <;> first
        | exact h
        | exact absurd rfl (nd _)
    have h2 := PR.pre h' (List.prefix_refl _) (Step.fresh (o := .tup [.ty (tyN t), .ty (tyN u)]) hq)
    refine ⟨v1, q, _, .type n, [.type (tyN t), .type (tyN u)], isTy d t || isTy d u, rfl, upd_same, .cons (.ty _) (.cons (.ty _) .nil), ty (content_cp sr2 r2 e1), ?_, ?_⟩
    · show (match PySem.W.kitOne X.K (.type n) (.type (tyN t)) with | some true => some true | some false => (match PySem.W.kitOne X.K (.type n) (.type (tyN u)) with | some true => some true | some false => some false | none => none) | none => none) = _
      rw [kit_ty kt, kit_ty kt2]
      cases isTy d t <;> cases isTy d u <;> rfl
    · have := (Wants.of h2).bl sr2
      simpa using this
/-! ### list(range(n)) -/
theorem rg_rp {L : Addr → Prop} {H : Hp} {K : PySem.W.Frag} (j : Int) : RpL K L H (rgV 0 j) (rangeL 0 j.toNat) := by
  have key : ∀ (n : Nat) (lo : Int), RpL K L H ((List.range n).map fun i => V.int (lo + (i : Nat))) (rangeL lo n) := by
    intro n
    induction n with
    | zero => exact fun _ => .nil
    | succ n ih =>
      intro lo
      rw [List.range_succ_eq_map, List.map_cons, List.map_map]
      show RpL K L H (V.int (lo + 0) :: _) (.int lo :: rangeL (lo + 1) n)
      rw [Int.add_zero]
      refine .cons (.int _) ?_
      have e : ((fun i : Nat => V.int (lo + (i : Nat))) ∘ Nat.succ) = fun i : Nat => V.int (lo + 1 + (i : Nat)) := by
        funext i
        show V.int (lo + ((i + 1 : Nat) : Int)) = _
        congr 1
        omega
      rw [e]
      exact ih (lo + 1)
  have := key j.toNat 0
  unfold rgV
  rw [Int.sub_zero]
  exact this
/-- range(e), its argument as written -/
def tRgA (t : TA) : L2.St → Hp → (Int → Int → Hp → Prop) → Prop := fun σ H Q => t σ H fun vs H1 => ∃ n, vs = [.int n] ∧ Q 0 n H1
theorem prg_A {e : Expr} {ta : TA} {p pos : Pos} (hg : Gl X "range") (hm : X.mg "range" = none) (ha : PA X [e] ta) (na : starEach [e] X.env = (false, eval e X.env) :: starEach [] X.env) : PRg X (.Call (.Name "range" p) [e] [] pos) (tRgA ta) := by
  intro pins s σ H Q I h
  refine Call_ (ld_blt I hg hm PyProof.Rows.boot_range (PyProof.Rows.callWith_type1 (thn (ha.run pos pins s σ H _ I h) fun us s1 ⟨vs, H1, I1, r1, q1⟩ => ?_) na rfl))
  obtain ⟨n, rfl, q⟩ := q1
  obtain ⟨u, rfl, ru⟩ := vals1 r1
  obtain ⟨t, rfl⟩ := ru
  exact call_range_1 ⟨_, 0, n, _, _, _, H1, rfl, IsRange.new _ _ _ _ _ _ _, I1.kept fun b u e => Heap.get?_push_of_some _ e, q⟩
theorem co_lrange {es : T} {K : PySem.W.Frag} {C : Cn} {W : Wish} {σ : L2.St} {H : Hp} {Q : VK} (h : tE K C W (.bi .lrange es) σ H Q) : tLstRg (tRgA (tEs K C W es)) σ H Q := by
  obtain ⟨M, env, st, er, sr, h⟩ := h
  rw [ev] at h
  refine ⟨M, env, st, er, sr, (PR.bind h).imp fun rs M1 st1 H1 p1 sr1 s1 h vs rv => ?_⟩
  rw [valsB_plain rfl] at h
  cases e1 : vals st1 rs with
  | none => simp only [e1] at h; exact h.elim
  | some ds =>
    simp only [e1] at h
    have cl := vals_cp sr1 rv e1
    cases e2 : blt .lrange ds with
    | none => simp only [e2] at h; exact h.elim
    | some z =>
      simp only [e2] at h
      have key : ∀ j, ds = [.int j] → ∃ n, vs = [.int n] ∧ RgOk 0 n ∧ ∀ q, H1 q = none → Q (.ref q) (upd H1 q (.lst (rgV 0 n))) := fun j e => by
        subst e
        obtain ⟨v, ev, c⟩ := cl.one
        cases c.int
        cases hz : inside j && Mi.sizeOk j.toNat with
        | false => simp only [blt, hz] at e2; cases e2
        | true =>
          simp only [blt, hz, if_true] at e2
          cases e2
          obtain ⟨z1, z2⟩ := Bool.and_eq_true_iff.mp hz
          have z1 := Bool.and_eq_true_iff.mp z1
          have a1 := of_decide_eq_true z1.1
          have a2 := of_decide_eq_true z1.2
          have a3 := of_decide_eq_true z2
          exact ⟨j, ev, ⟨by omega, by omega, by omega, by omega, by omega⟩, (Wants.of h).lst sr1 (rg_rp j)⟩
      match ds, e2 with
      | [.int j], _ => exact key j rfl
      | [], e2 => cases e2
      | [.none], e2 => cases e2
      | [.bool _], e2 => cases e2
      | [.str _], e2 => cases e2
      | [.list _], e2 => cases e2
      | [.tuple _], e2 => cases e2
      | [.dict _], e2 => cases e2
      | _ :: _ :: _, e2 => simp [blt] at e2
theorem co_newLrange {es : T} {K : PySem.W.Frag} {C : Cn} {W : Wish} {σ : L2.St} {H : Hp} {Q : VK} (h : tE K C W (.new (.bi .lrange es)) σ H Q) : tLstRg (tRgA (tEs K C W es)) σ H Q := by
  obtain ⟨M, env, st, er, sr, h⟩ := h
  rw [ev, ev] at h
  refine ⟨M, env, st, er, sr, (PR.bind (PR.bind h)).imp fun rs M1 st1 H1 p1 sr1 s1 h vs rv => ?_⟩
  rw [valsB_plain rfl] at h
  cases e1 : vals st1 rs with
  | none => simp only [e1] at h; exact h.elim
  | some ds =>
    simp only [e1] at h
    have cl := vals_cp sr1 rv e1
    cases e2 : blt .lrange ds with
    | none => simp only [e2] at h; exact h.elim
    | some z =>
      simp only [e2] at h
      have key : ∀ j, ds = [.int j] → ∃ n, vs = [.int n] ∧ RgOk 0 n ∧ ∀ q, H1 q = none → Q (.ref q) (upd H1 q (.lst (rgV 0 n))) := fun j e => by
        subst e
        obtain ⟨v, ev, c⟩ := cl.one
        cases c.int
        cases hz : inside j && Mi.sizeOk j.toNat with
        | false => simp only [blt, hz] at e2; cases e2
        | true =>
          simp only [blt, hz, if_true] at e2
          cases e2
          obtain ⟨z1, z2⟩ := Bool.and_eq_true_iff.mp hz
          have z1 := Bool.and_eq_true_iff.mp z1
          have a1 := of_decide_eq_true z1.1
          have a2 := of_decide_eq_true z1.2
          have a3 := of_decide_eq_true z2
          rcases WantsL.of sr1 (PR.here (a := RV.val (.list (rangeL 0 j.toNat))) sr1 h) with ⟨ds, ed, w⟩ | ⟨_, z, _⟩
          · cases ed
            exact ⟨j, ev, ⟨by omega, by omega, by omega, by omega, by omega⟩, w _ (rg_rp j)⟩
          · cases z
      match ds, e2 with
      | [.int j], _ => exact key j rfl
      | [], e2 => cases e2
      | [.none], e2 => cases e2
      | [.bool _], e2 => cases e2
      | [.str _], e2 => cases e2
      | [.list _], e2 => cases e2
      | [.tuple _], e2 => cases e2
      | [.dict _], e2 => cases e2
      | _ :: _ :: _, e2 => simp [blt] at e2
theorem se_lrange {e : Expr} {te : T} {p p2 q pos : Pos} (hc : X.calm = true) (hg : Gl X "list") (hm : X.mg "list" = none) (hg2 : Gl X "range") (hm2 : X.mg "range" = none) (ha : PA X [e] (tEs X.K C W te)) (hs : nostar e = true) :
    PE X (.Call (.Name "list" p) [.Call (.Name "range" p2) [e] [] q] [] pos) (tE X.K C W (.bi .lrange te)) := cvX (pe_listRg hc hg hm (prg_A hg2 hm2 ha (star_cons hs)) (star_cons rfl)) co_lrange
theorem se_newLrange {e : Expr} {te : T} {p p2 q pos : Pos} (hc : X.calm = true) (hg : Gl X "list") (hm : X.mg "list" = none) (hg2 : Gl X "range") (hm2 : X.mg "range" = none) (ha : PA X [e] (tEs X.K C W te)) (hs : nostar e = true) :
    PE X (.Call (.Name "list" p) [.Call (.Name "range" p2) [e] [] q] [] pos) (tE X.K C W (.new (.bi .lrange te))) := cvX (pe_listRg hc hg hm (prg_A hg2 hm2 ha (star_cons hs)) (star_cons rfl)) co_newLrange
end
end MiS

namespace MiS
open PySem PySem.Spec PyProof.Rows L2 Mi MiG
open PySem.W (EachIs sort_pairwise sortLe_total)
open RZ (ItzT iZipA)
variable [Tb]
section
variable {X : Cx} {C : Cn} {W : Wish} {K : PySem.W.Frag}
/-! ### zip of two tuples -/
theorem zip_get : ∀ {xs ys : List D} {i : Nat} {d : D}, (zipL xs ys)[i]? = some d → ∃ x y, xs[i]? = some x ∧ ys[i]? = some y ∧ d = .tuple [x, y]
  | x :: xs, y :: ys, 0, d, e => by
    have e' : some (PyData.tuple [x, y]) = some d := e
    cases e'
    exact ⟨x, y, rfl, rfl, rfl⟩
  | x :: xs, y :: ys, i + 1, d, e => by
    have e' : (zipL xs ys)[i]? = some d := e
    obtain ⟨a, b, h1, h2, h3⟩ := zip_get e'
    exact ⟨a, b, h1, h2, h3⟩
  | [], ys, i, d, e => by cases ys <;> simp [zipL] at e
  | _ :: _, [], i, d, e => by simp [zipL] at e
theorem zip_len : ∀ (xs ys : List D), xs.length ≤ (zipL xs ys).length ∨ ys.length ≤ (zipL xs ys).length
  | [], _ => .inl (Nat.zero_le _)
  | _ :: _, [] => .inr (Nat.zero_le _)
  | x :: xs, y :: ys => by
    rcases zip_len xs ys with h | h
    · exact .inl (Nat.succ_le_succ h)
    · exact .inr (Nat.succ_le_succ h)
theorem walks_zipT {M1 : List Addr} {H1 : Hp} {st1 : Sto} {a b : Addr} {vs us : List V} {ds es : List D} (nl : ¬ Lv M1 st1 a) (ra : H1 a = some (.tup vs)) (rl : RpL K (Lv M1 st1) H1 vs ds) (nb : ¬ Lv M1 st1 b) (rb : H1 b = some (.tup us)) (sl : RpL K (Lv M1 st1) H1 us es) :
    Walks K M1 H1 st1 (ItzT K a b) (zipL ds es) := by
  intro M H st p s sr
  have q : SqT K H a vs := .inl (.inl ((s.keep a _ ra (fun ps q => by cases q) nl).1.ex id))
  have q2 : SqT K H b us := .inl (.inl ((s.keep b _ rb (fun ps q => by cases q) nb).1.ex id))
  have r := rl.mono s
  have r2 := sl.mono s
  refine ⟨fun i d e => ?_, ⟨vs, us, q, q2, by rw [r.len, r2.len]; exact zip_len ds es⟩⟩
  obtain ⟨y, z, h0, h0', rfl⟩ := zip_get e
  obtain ⟨v, h1, h2⟩ := r.get h0
  obtain ⟨u, h3, h4⟩ := r2.get h0'
  refine ⟨⟨vs, us, v, u, q, q2, h1, h3⟩, fun x H' ⟨T, z1, z2, ex, hT, eH, hx, hy⟩ => ?_⟩
  subst eH ex
  have e1 := hx vs q
  have e2 := hy us q2
  rw [h1] at e1
  rw [h3] at e2
  cases e1
  cases e2
  exact pair_end sr hT h2 h4
theorem feeds_zip {ta tb : Mi.T} : Feeds X C W .zip (.cons ta (.cons tb .nil)) (iZipA X.K (tCons (tE X.K C W ta) (tCons (tE X.K C W tb) tNil))) := by
  intro k ttg tifs telt own σ H Q h
  obtain ⟨M, env, st, er, sr, h⟩ := co_two (co_comp h)
  refine ⟨M, env, st, er, sr, h.imp fun r M1 st1 H1 p1 sr1 s1 h v rv => ?_⟩
  obtain ⟨M', env', st', er', sr', h⟩ := h v rv
  refine ⟨M', env', st', er', sr', h.imp fun r M1 st1 H1 p1 sr1 s1 h u ru => ?_⟩
  obtain ⟨M2, env2, st2, rs, er2, sr2, rl, hx⟩ := h u ru
  obtain ⟨ra, rb, rfl, r1, r2⟩ := two_val rl
  cases ra with
  | ref m => exact hx.elim
  | val d =>
    cases rb with
    | ref m => exact hx.elim
    | val e =>
      rw [over_pure (ds := [d, e]) rfl] at hx
      cases d with
      | tuple xs =>
        cases e with
        | tuple ys =>
          cases r1 with
          | tup n1 q1 x1 =>
            cases r2 with
            | tup n2 q2 x2 =>
              exact ⟨_, _, _, _, rfl, .inr ⟨.inl (.inl q1), .inl (.inl q2), comp_end (walks_zipT n1 q1 x1 n2 q2 x2) er2 sr2 hx⟩⟩
        | _ => exact hx.elim
      | _ => exact hx.elim
theorem feed_zip {ta tb : Mi.T} : Feed X C W .zip (.cons ta (.cons tb .nil)) (iZipA X.K (tCons (tE X.K C W ta) (tCons (tE X.K C W tb) tNil))) := by
  intro σ H R h
  obtain ⟨M, env, st, er, sr, h⟩ := co_two h
  refine ⟨M, env, st, er, sr, h.imp fun r M1 st1 H1 p1 sr1 s1 h v rv => ?_⟩
  obtain ⟨M', env', st', er', sr', h⟩ := h v rv
  refine ⟨M', env', st', er', sr', h.imp fun r M1 st1 H1 p1 sr1 s1 h u ru => ?_⟩
  obtain ⟨M2, st2, ds, zs, sr2, rl, ew, hw⟩ := h u ru
  obtain ⟨d, e, rfl, r1, r2⟩ := two_len rl
  cases d with
  | tuple xs =>
    cases e with
    | tuple ys =>
      cases ew
      cases r1 with
      | tup n1 q1 x1 =>
        cases r2 with
        | tup n2 q2 x2 => exact ⟨_, _, _, _, rfl, .inr ⟨.inl (.inl q1), .inl (.inl q2), hw _ _ Step.refl sr2 (walks_zipT n1 q1 x1 n2 q2 x2)⟩⟩
    | _ => cases ew
  | _ => cases ew
/-! ### sorted of a list of tuples -/
def rSortN (K : PySem.W.Frag) : List V → Hp → VK → Prop := fun xs H Q => ∃ (a : Addr) (ks : List Ed), xs = [.ref a] ∧ SqL K H a (ks.map fun p => V.ref p.1) ∧ (∀ p ∈ ks, nd p.2 = true ∧ Dp K H (.ref p.1) p.2 ∧ p.2.depth ≤ 6) ∧ PySem.W.AllAlike (ks.map (·.2)) ∧ PySem.W.Sortable (ks.map (·.2)) ∧
  ∀ (L' : List Ed) (p : Addr), L'.Perm ks → L'.Pairwise (fun q r => PySem.W.dataLt r.2 q.2 = false) → H p = none → Q (.ref p) (upd H p (.lst (L'.map fun q => V.ref q.1)))
theorem call_sortN (hu : X.A.units + 100 < cLine) : CallR X (.builtin "sorted") (rSortN X.K) := by
  intro pins s σ H xs us Q I r h
  obtain ⟨a, ks, rfl, hs, hk, hal, hso, q⟩ := h
  obtain ⟨its, rv, hl, hz⟩ := I.list hs
  obtain ⟨u, rfl, ru⟩ := vals1 r
  obtain rfl : u = Value.ref a := ru
  have rd : ∀ p ∈ ks, Reads s.heap (.ref p.1) p.2 [] := fun p hp => by
    obtain ⟨n, d, dd⟩ := hk p hp
    obtain ⟨as, r2⟩ := Dp.reads I p.2 (.ref p.1) (.ref p.1) d rfl
    obtain ⟨_, e⟩ := nd_tup r2 n dd
    rw [e] at r2
    exact r2
  have ev : its = ks.map fun p => Value.ref p.1 := by
    have := refs_of rv
    rw [this, List.map_map]; rfl
  have e1 : EachIs (fun v (q : Ed) => v = Value.ref q.1) (ks.map fun p => Value.ref p.1) ks := each_map fun b _ => rfl
  have e2 : EachIs (fun v (q : Ed) => ∃ as, Reads s.heap v q.2 as) (ks.map fun p => Value.ref p.1) ks := each_map fun b hb => ⟨[], rd b hb⟩
  have hlen : ks.length ≤ sizeLine := by
    have := rv.length
    rw [List.length_map] at this
    rw [List.length_map] at hz
    exact hz
  subst ev
  refine PySem.W.sorted_data (vs := ks.map fun p => Value.ref p.1) (bs := ks) (enc := fun q : Ed => q.2) (R := fun v (q : Ed) => v = Value.ref q.1) hl.isList e1 e2 hal hso hlen (fun b hb => by have := (hk b hb).2.2; omega) fun out hl2 eo => ?_
  obtain ⟨c, hc⟩ := PyProof.Rows.sortedAll_at s.heap (ks.map fun p => Value.ref p.1) (List.toArray out)
  have eout := each_ref eo
  generalize hL : ks.mergeSort (PySem.W.dataLe false fun q : Ed => q.2) = L' at eo eout
  have pm : L'.Perm ks := by rw [← hL]; exact List.mergeSort_perm _ _
  have pw : L'.Pairwise (fun q r => PySem.W.dataLt r.2 q.2 = false) := by
    rw [← hL]
    refine (sort_pairwise (sortLe_total _ false _) ks).imp fun {q r} h => ?_
    have h : (!PySem.W.dataLt r.2 q.2) = true := h
    simpa using h
  have hn : H (s.heap.objs.size + 1) = none := I.hok.fresh (Nat.le_succ _)
  refine ⟨.ref (s.heap.objs.size + 1), upd H (s.heap.objs.size + 1) (.lst (L'.map fun q => V.ref q.1)), I.laid (t' := s.toks) (fun b o e => PyProof.Rows.sortedAll_old e) (Nat.le_succ _) ⟨by rw [List.length_map, pm.length_eq]; exact hlen, out, c, ?_, ?_⟩, rfl, q L' _ pm pw hn⟩
  · rw [eout]; exact vals_of L'
  · simpa using hc
theorem ins_perm (x : D) : ∀ r : List D, (ins1 x r).Perm (x :: r)
  | [] => .refl _
  | y :: r => by
    unfold ins1
    split
    · exact ((ins_perm x r).cons y).trans (List.Perm.swap x y r)
    · exact .refl _
theorem isort_perm : ∀ r : List D, (isort r).Perm r
  | [] => .refl _
  | x :: r => (ins_perm x (isort r)).trans ((isort_perm r).cons x)
theorem one_sorted : ∀ ds z, blt .sorted ds = some z → ∃ d, ds = [d]
  | [], z, h => by cases h
  | [d], _, _ => ⟨d, rfl⟩
  | _ :: _ :: _, z, h => by simp [blt] at h
theorem co_sorted {ta : Mi.T} {σ : L2.St} {H : Hp} {Q : VK} (h : tE K C W (.bi .sorted ta) σ H Q) : tCB (rSortN K) (tEs K C W ta) σ H Q := by
  obtain ⟨M, env, st, er, sr, h⟩ := co_bi1 rfl one_sorted h
  refine ⟨M, env, st, er, sr, h.imp fun rs M1 st1 H1 p1 sr1 s1 h vv rv => ?_⟩
  obtain ⟨M2, st2, v, d, z, rfl, sr2, c, e, w⟩ := h vv rv
  cases d with
  | list xs =>
    obtain ⟨a, vs, ev, ra, rl⟩ := c.list
    rw [blt] at e
    unfold sorL at e
    split at e
    · rename_i hb
      cases e
      obtain ⟨a1, b1⟩ := Bool.and_eq_true_iff.mp hb
      obtain ⟨a2, b2⟩ := Bool.and_eq_true_iff.mp b1
      obtain ⟨a4, b4⟩ := Bool.and_eq_true_iff.mp b2
      obtain ⟨a5, b5⟩ := Bool.and_eq_true_iff.mp b4
      obtain ⟨a6, a7⟩ := Bool.and_eq_true_iff.mp b5
      obtain ⟨ks, rfl, rfl, hk⟩ := places_of rl a2
      have hd := of_decide_eq_true a4
      refine ⟨a, ks, by rw [ev], .inl ra, fun p hp => ⟨List.all_eq_true.mp a1 _ (List.mem_map.mpr ⟨p, hp, rfl⟩), (hk p hp).dp (lay_mem a6 (List.mem_map.mpr ⟨p, hp, rfl⟩)), Nat.le_trans (depth_mem (List.mem_map.mpr ⟨p, hp, rfl⟩)) hd⟩, fun d hd d' hd' => pairs_of a5 d hd d' hd', .inl fun d hd => ?_, fun L' p pm pw hp => ?_⟩
      · have := List.all_eq_true.mp a2 d hd
        cases d with
        | tuple ys =>
          cases ys with
          | nil => cases this
          | cons y ys => exact ⟨y, ys, rfl⟩
        | _ => cases this
      · have spw := strictly_pw a7
        have pm2 : (L'.map (·.2)).Perm (isort (ks.map (·.2))) := (pm.map (·.2)).trans (isort_perm _).symm
        have eqL : L'.map (·.2) = isort (ks.map (·.2)) := by
          refine List.Perm.eq_of_pairwise (le := fun x y : D => PySem.W.dataLt y x = false) (fun x y hx hy h1 h2 => ?_) (List.pairwise_map.mpr pw) (spw.imp fun q => q.2) pm2
          have hx' := pm2.mem_iff.mp hx
          rcases Classical.em (x = y) with q | q
          · exact q
          · exfalso
            obtain ⟨i, hi, ei⟩ := List.getElem_of_mem hx'
            obtain ⟨j, hj, ej⟩ := List.getElem_of_mem hy
            have pi := List.pairwise_iff_getElem.mp spw
            rcases Nat.lt_trichotomy i j with k | k | k
            · have := (pi i j hi hj k).1; rw [ei, ej] at this; rw [this] at h2; cases h2
            · subst k; exact q (ei.symm.trans ej)
            · have := (pi j i hj hi k).1; rw [ei, ej] at this; rw [this] at h1; cases h1
        have rl2 : RpL K (Lv M2 st2) H1 (L'.map fun q => V.ref q.1) (isort (ks.map (·.2))) := by
          rw [← eqL]
          exact rpL_map fun q hq => hk q (pm.mem_iff.mp hq)
        exact w.lst sr2 rl2 p hp
    · cases e
  | _ => cases e
theorem se_sorted {a : Expr} {ta : Mi.T} {p pos : Pos} (hu : X.A.units + 100 < cLine) (hg : Gl X "sorted") (hm : X.mg "sorted" = none) (ha : PA X [a] (tEs X.K C W ta))
    (na : starEach [a] X.env = (false, eval a X.env) :: starEach [] X.env) : PE X (.Call (.Name "sorted" p) [a] [] pos) (tE X.K C W (.bi .sorted ta)) :=
  cvX (t := tCB (rSortN X.K) (tEs X.K C W ta)) (pe_callB (call_sortN hu) hg hm (show bootBuiltins "sorted" = some (.builtin "sorted") by decide +kernel) ha (by decide) (by decide) na (by rfl)) co_sorted
theorem ss_forZ {elts : List Expr} {kk : Nat} {tpos : Pos} {a b : Expr} {body : List Stmt} {tt ta tb tx : Mi.T} {p p2 pos : Pos} (hp : PassesOwn (model X.prog X.w) X.A X.env X.xe) (hc : X.calm = true) (hgl : Gl X "zip") (hm : X.mg "zip" = none) (ha : PE X a (tE X.K C W ta)) (hb : PE X b (tE X.K C W tb)) (hg : PG X (.Tuple elts kk tpos) (tG X.K C W tt)) (hx : PSs X body (tSs X.K C W tx))
    (hsa : nostar a = true) (hsb : nostar b = true) : PS X (.For (.Tuple elts kk tpos) (.Call (.Name "zip" p) [a, b] [] p2) body [] pos) (tS X.K C W (.for_ tt .zip (.cons ta (.cons tb .nil)) tx)) := by
  refine cvS (ps_for hp hc (RZ.pi_zipA hgl hm (pa_cons ha (pa_cons hb pa_nil (star_cons hsb)) (star_cons hsa)) (star_cons hsa) (by rw [star_cons hsb]; rfl)) hg hx (by intro _; rfl)) fun D σ H h => ?_
  obtain ⟨M, env, st, er, sr, h⟩ := co_two (co_for (by decide) h)
  refine ⟨M, env, st, er, sr, h.imp fun rs M1 st1 H1 p1 sr1 s1 h v rv => ?_⟩
  obtain ⟨M', env', st', er', sr', h⟩ := h v rv
  refine ⟨M', env', st', er', sr', h.imp fun rs M1 st1 H1 p1 sr1 s1 h u ru => ?_⟩
  obtain ⟨M2, env2, st2, ds, zs, er2, sr2, rl, ew, hw⟩ := h u ru
  obtain ⟨d, e, rfl, r1, r2⟩ := two_len rl
  cases d with
  | tuple xs =>
    cases e with
    | tuple ys =>
      cases ew
      cases r1 with
      | tup n1 q1 x1 =>
        cases r2 with
        | tup n2 q2 x2 => exact ⟨_, _, _, _, rfl, .inr ⟨.inl (.inl q1), .inl (.inl q2), for_end (walks_zipT n1 q1 x1 n2 q2 x2) er2 sr2 hw⟩⟩
    | _ => cases ew
  | _ => cases ew
end
end MiS

namespace MiS
open PySem PySem.Spec PyProof.Rows L2 Mi MiG
variable [Tb]
section
variable {K : PySem.W.Frag}
/-! ### a def's end: what it made for itself is dropped -/
theorem SR.cut {M M' : List Addr} {H' : Hp} {st' : Sto} (p : M <+: M') (sr : SR K M' H' st') : Step (Lv M' st') H' (Lv M (st'.take M.length)) H' ∧ SR K M H' (st'.take M.length) := by
  have hl := p.length_le
  have sub : ∀ b, Lv M (st'.take M.length) b → Lv M' st' b := by
    rintro b ⟨n, o, h1, h2, h3⟩
    have hn : n < M.length := (List.getElem?_eq_some_iff.mp h1).1
    rw [List.getElem?_take, if_pos hn] at h2
    exact ⟨n, o, prefix_at p h1, h2, h3⟩
  have s : Step (Lv M' st') H' (Lv M (st'.take M.length)) H' := .mk' (fun b u e nl => ⟨e, fun q => nl (sub b q)⟩) fun b e => e
  refine ⟨s, ⟨by rw [List.length_take, ← sr.len]; omega, fun i j a h1 h2 => sr.nd i j a (prefix_at p h1) (prefix_at p h2), fun n o a h1 h2 => ?_, sr.tab⟩⟩
  have hn : n < M.length := (List.getElem?_eq_some_iff.mp h2).1
  rw [List.getElem?_take, if_pos hn] at h1
  exact (sr.obj n o a h1 (prefix_at p h2)).mono s fun u e => e
/-- the end of a body, seen from the caller -/
theorem leave_end {M : List Addr} {H : Hp} {st : Sto} {W : Wish} {r : R Fl} {Q : VK} (hl : M.length = st.length) (h : PR K M H st (leave st.length r) W (QV K Q)) :
    PR K M H st r (fun x M' st' H' => W x M (st'.take st.length) H') (QF K { nx := fun _ H' => Q .non H', rt := Q }) := by
  have back : ∀ {M' : List Addr} {st' : Sto} {H' : Hp}, M <+: M' → SR K M' H' st' → Step (Lv M st) H (Lv M' st') H' → SR K M H' (st'.take st.length) ∧ Step (Lv M st) H (Lv M (st'.take st.length)) H' ∧ Step (Lv M' st') H' (Lv M (st'.take st.length)) H' := by
    intro M' st' H' p sr s
    obtain ⟨s2, sr2⟩ := sr.cut p
    rw [hl] at s2 sr2
    exact ⟨sr2, s.trans s2, s2⟩
  cases r with
  | bad => exact h
  | exc x st' =>
    intro M' H' p sr s
    obtain ⟨a, b, _⟩ := back p sr s
    exact h M H' (List.prefix_refl _) a b
  | ok f st' =>
    cases f with
    | nx env =>
      intro M' H' p sr s σ er
      obtain ⟨a, b, _⟩ := back p sr s
      exact h M H' (List.prefix_refl _) a b .non .non
    | bk _ => exact h.elim
    | ct _ => exact h.elim
    | rt v =>
      cases v with
      | val d =>
        intro M' H' p sr s v rv
        obtain ⟨a, b, c⟩ := back p sr s
        exact h M H' (List.prefix_refl _) a b v (Rp.mono c rv)
      | ref k =>
        by_cases hk : st.length ≤ k
        · cases q : st'[k]? with
          | none => simp only [leave, hk, if_true, q, content] at h; exact h.elim
          | some o =>
            have key : ∀ d, (∀ ds, o ≠ .tpl ds) → PR K M H st (.ok (.val d) (st'.take st.length)) W (QV K Q) → (content st' (.ref k) = some d) → PR K M H st (.ok (Fl.rt (.ref k)) st') (fun x M' st' H' => W x M (st'.take st.length) H') (QF K { nx := fun _ H' => Q .non H', rt := Q }) := fun d nt h e => by
              intro M' H' p sr s v rv
              obtain ⟨a, b, c⟩ := back p sr s
              refine h M H' (List.prefix_refl _) a b v ?_
              obtain ⟨ad, rfl, hM⟩ := rv
              have nl : ¬ Lv M (st'.take st.length) ad := by
                rintro ⟨n, o, h1, h2, h3⟩
                have hn : n < st.length := by rw [← hl]; exact (List.getElem?_eq_some_iff.mp h1).1
                have := sr.nd n k ad (prefix_at p h1) hM
                omega
              simp only [content, q] at e
              have ob := sr.obj k o ad q hM
              cases o with
              | lst ds =>
                cases e
                obtain ⟨xs, e1, r1⟩ := ob
                exact .lst nl (.inl e1) (r1.mono c)
              | dic kvs =>
                cases e
                rcases ob with ⟨ks, e1, q1, r1⟩ | ⟨ks, e1, q1, r1⟩
                · exact .dicA nl (.inl e1) q1 (r1.mono c)
                · exact .dicT nl (.inl e1) q1 (r1.mono c)
              | tpl ds => exact absurd rfl (nt ds)
              | dead => cases e
            cases o with
            | lst ds =>
              simp only [leave, hk, if_true, q, content] at h
              exact key _ (fun _ z => nomatch z) h (by simp only [content, q])
            | dic ds =>
              simp only [leave, hk, if_true, q, content] at h
              exact key _ (fun _ z => nomatch z) h (by simp only [content, q])
            | dead => simp only [leave, hk, if_true, q, content] at h; exact h.elim
            | tpl ds =>
              simp only [leave, hk, if_true, q] at h
              intro M' H' p sr s v rv
              obtain ⟨ad, rfl, hM⟩ := rv
              have hle : st.length ≤ st'.length := by have := (List.getElem?_eq_some_iff.mp q).1; omega
              have lt : (st'.take st.length).length = st.length := by rw [List.length_take]; omega
              have old : ∀ (i : Nat) (a : Addr), M[i]? = some a → i < st.length := fun i a e => by rw [← hl]; exact (List.getElem?_eq_some_iff.mp e).1
              have part : ∀ (i : Nat) (o : O) (a : Addr), (st'.take st.length ++ [O.tpl ds])[i]? = some o → (M ++ [ad])[i]? = some a → ∃ j, st'[j]? = some o ∧ M'[j]? = some a := fun i o a h1 h2 => by
                by_cases hi : i < st.length
                · rw [List.getElem?_append_left (by omega), List.getElem?_take, if_pos hi] at h1
                  rw [List.getElem?_append_left (by omega)] at h2
                  exact ⟨i, h1, prefix_at p h2⟩
                · have e : i = st.length := by
                    have := (List.getElem?_eq_some_iff.mp h1).1
                    rw [List.length_append, lt] at this
                    simp only [List.length_cons, List.length_nil] at this
                    omega
                  subst e
                  rw [List.getElem?_append_right (by omega), lt, Nat.sub_self] at h1
                  rw [← hl, List.getElem?_append_right (Nat.le_refl _), Nat.sub_self] at h2
                  cases h1
                  cases h2
                  exact ⟨k, q, hM⟩
              have sub : ∀ b, Lv (M ++ [ad]) (st'.take st.length ++ [O.tpl ds]) b → Lv M' st' b := fun b ⟨i, o, h1, h2, h3⟩ => by
                obtain ⟨j, j1, j2⟩ := part i o b h2 h1
                exact ⟨j, o, j2, j1, h3⟩
              have c : Step (Lv M' st') H' (Lv (M ++ [ad]) (st'.take st.length ++ [O.tpl ds])) H' := ⟨fun b u e _ nl => ⟨.inl e, fun z => nl (sub b z)⟩, fun b e => e⟩
              refine h (M ++ [ad]) H' (List.prefix_append _ _) ⟨by rw [List.length_append, List.length_append, lt, hl]; rfl, fun i j a h1 h2 => ?_, fun n o a h1 h2 => ?_, sr.tab⟩ (s.trans c) _ ⟨ad, rfl, by rw [← hl]; simp⟩
              · by_cases hi : i < M.length
                · by_cases hj : j < M.length
                  · rw [List.getElem?_append_left hi] at h1
                    rw [List.getElem?_append_left hj] at h2
                    exact sr.nd i j a (prefix_at p h1) (prefix_at p h2)
                  · exfalso
                    rw [List.getElem?_append_left hi] at h1
                    rw [List.getElem?_append_right (by omega)] at h2
                    have e2 : ad = a := by
                      have := List.mem_of_getElem? h2
                      exact (List.mem_singleton.mp this).symm
                    have := sr.nd i k a (prefix_at p h1) (by rw [← e2]; exact hM)
                    omega
                · by_cases hj : j < M.length
                  · exfalso
                    rw [List.getElem?_append_left hj] at h2
                    rw [List.getElem?_append_right (by omega)] at h1
                    have e2 : ad = a := by
                      have := List.mem_of_getElem? h1
                      exact (List.mem_singleton.mp this).symm
                    have := sr.nd j k a (prefix_at p h2) (by rw [← e2]; exact hM)
                    omega
                  · have l1 := (List.getElem?_eq_some_iff.mp h1).1
                    have l2 := (List.getElem?_eq_some_iff.mp h2).1
                    simp only [List.length_append, List.length_cons, List.length_nil] at l1 l2
                    omega
              · obtain ⟨j, j1, j2⟩ := part n o a h1 h2
                exact (sr.obj j o a j1 j2).mono c fun u e => e
        · simp only [leave, hk, if_false] at h; exact h.elim
theorem RVs.len {M : List Addr} {L : Addr → Prop} {H : Hp} : ∀ {vs : List V} {rs : List RV}, RVs K M L H vs rs → vs.length = rs.length
  | _, _, .nil => rfl
  | _, _, .cons _ b => by simp [RVs.len b]
theorem RVs.get {M : List Addr} {L : Addr → Prop} {H : Hp} : ∀ {vs : List V} {rs : List RV} {i : Nat} {r : RV}, RVs K M L H vs rs → rs[i]? = some r → ∃ v, vs[i]? = some v ∧ RVp K M L H v r
  | _, _, _, _, .nil, e => by simp at e
  | _, _, 0, _, .cons a _, e => by simp at e; subst e; exact ⟨_, rfl, a⟩
  | _, _, i + 1, r, .cons _ b, e => by
    obtain ⟨v, h1, h2⟩ := RVs.get (i := i) (r := r) b (by simpa using e)
    exact ⟨v, by simpa using h1, h2⟩
theorem RVs.app {M : List Addr} {L : Addr → Prop} {H : Hp} : ∀ {vs us : List V} {rs ts : List RV}, RVs K M L H vs rs → RVs K M L H us ts → RVs K M L H (vs ++ us) (rs ++ ts)
  | _, _, _, _, .nil, h => h
  | _, _, _, _, .cons a b, h => .cons a (RVs.app b h)
/-- the slots at a def's start -/
theorem start_er {M : List Addr} {L : Addr → Prop} {H : Hp} {d : FD} {vs : List V} {rs : List RV} {N : List Str} (r : RVs K M L H vs rs) (h1 : rs.length = d.npar) (h2 : N.length = d.nsl) : ER K M L H (startE d rs) (start N vs) := by
  have hl := r.len
  unfold startE L2.start
  refine ⟨by simp only [List.length_append, List.length_map, List.length_replicate]; rw [hl, h1, h2], fun i q e => ?_⟩
  by_cases hi : i < rs.length
  · rw [List.getElem?_append_left (by simpa using hi), List.getElem?_map] at e
    obtain ⟨q', e1, e2⟩ := Option.map_eq_some_iff.mp e
    cases e2
    obtain ⟨v, g1, g2⟩ := r.get e1
    exact ⟨v, by rw [List.getElem?_append_left (by simpa [hl] using hi), List.getElem?_map, g1]; rfl, g2⟩
  · rw [List.getElem?_append_right (by simpa using hi), List.getElem?_replicate] at e
    split at e <;> cases e
end
end MiS

namespace MiS
open PySem PySem.Spec PyProof.Rows L2 Mi MiG
variable [Tb]
/-- what a def of the text gives, n calls deep -/
def spF (PL : List FD) (wf : Nat) (K : PySem.W.Frag) (n f : Nat) : Sp := fun vs H Q _ => ∃ M st rs d, PL[f]? = some d ∧ rs.length = d.npar ∧ SR K M H st ∧ RVs K M (Lv M st) H vs rs ∧ PR K M H st (callN PL wf n f rs st) Wno (QV K Q)
/-- a def of the text: where it stands, its parts -/
structure FnD where
  addr : Addr
  name : Str
  qual : Str
  params : Arguments
  body : List Stmt
  scope : Scope
  dV : Value
  kV : Value
  doc : Value
  pm : Value
  cdv : Value
  ct : Value
  oc : Value
  an : Option Addr
  od : Option Addr
  osl : Array (Option Value)
  N : List Str
  ps : List Str
def FnD.fd (F : FnD) : FuncData := PySem.W.fnOf F.name F.qual F.params F.body F.scope F.dV F.kV F.doc F.pm F.an F.cdv F.ct
structure FnAt (K : PySem.W.Frag) (F : FnD) (d : FD) : Prop where
  lk : K.lookup F.addr = some ⟨F.oc, F.od, .func (PySem.W.fnOf F.name F.qual F.params F.body F.scope F.dV F.kV F.doc F.pm F.an F.cdv F.ct), F.osl⟩
  cd : PySem.W.codeIn K F.cdv F.qual = true
  sc : FnScope F.N F.ps F.scope
  len : F.ps.length = d.npar
  nsl : F.N.length = d.nsl
/-- what a frame must hold for the rules -/
structure Frame (X : Cx) (K : PySem.W.Frag) (N : List Str) (scope : Scope) : Prop where
  kK : X.K = K
  calm : X.calm = true
  nN : X.N = N
  nd : X.N.Nodup
  room : X.A.units + 100 < cLine
  own : PassesOwn (model X.prog X.w) X.A X.env X.xe
theorem fn_ok {CX : CXT} {P : Program} {w : World} {K : PySem.W.Frag} {mg : Str → Option Value} {base : Heap} {PL : List FD} {wf : Nat} {FT : Nat → FnD}
    (at_ : ∀ f d, PL[f]? = some d → FnAt K (FT f) d)
    (body : ∀ n f d, PL[f]? = some d → (∀ g e, PL[g]? = some e → FnOk P w K mg base CX n (FT g).addr (FT g).fd (FT g).ps (spF PL wf K n g)) →
      ∀ (A : Around) (outer : List Env) (s : Shared) (H : Hp) (E : XK), Room n (A.deeper (envOfC (FT f).qual (FT f).scope s.heap.objs.size (FT f).addr (FT f).cdv)) →
        PSs (cxOf CX P w K mg base (FT f).N (FT f).qual (FT f).scope (FT f).addr (FT f).cdv A outer s H E) (FT f).body (tSs K ⟨callN PL wf n, wf⟩ Wno d.body)) :
    ∀ n f d, PL[f]? = some d → FnOk P w K mg base CX n (FT f).addr (FT f).fd (FT f).ps (spF PL wf K n f)
  | 0, f, d, hf => ⟨fun vs H Q E ⟨M, st, rs, d', h1, h2, sr, rl, h⟩ => h.elim, fun A outer s H args us vs Q E _ _ _ _ ⟨M, st, rs, d', h1, h2, sr, rl, h⟩ => h.elim⟩
  | n + 1, f, d, hf => by
    have F := at_ f d hf
    refine fn_of F.lk F.cd F.sc (fun vs H Q E ⟨M, st, rs, d', h1, h2, sr, rl, h⟩ => ?_) fun A outer s H vs Q E room ⟨M, st, rs, d', h1, h2, sr, rl, h⟩ => ?_
    · rw [hf] at h1
      cases h1
      rw [rl.len, h2, F.len]
    · rw [hf] at h1
      cases h1
      refine ⟨_, body n f d hf (fun g e hg => fn_ok at_ body n g e hg) A outer s H E room, M, startE d rs, st, ?_⟩
      have efill : fillD d rs = rs := by
        unfold fillD
        split
        · rename_i e
          have : d.dfl = [] := by
            cases hd : d.dfl with
            | nil => rfl
            | cons a b => rw [hd, List.length_cons] at e; omega
          rw [this]; simp
        · rfl
      have h' : PR K M H st (leave st.length (exs ⟨callN PL wf n, wf⟩ d.body (startE d rs) st)) Wno (QV K Q) := by
        have e : callN PL wf (n + 1) f rs st = leave st.length (exs ⟨callN PL wf n, wf⟩ d.body (startE d rs) st) := by
          rw [callN, hf]
          simp only [efill, h2, if_true]
        rw [← e]; exact h
      refine ⟨start_er rl h2 F.nsl, sr, ?_⟩
      exact leave_end sr.len h'
end MiS

namespace MiS
open PySem PySem.Spec PyProof.Rows L2 Mi MiG
variable [Tb]
section
variable {X : Cx} {C : Cn} {W : Wish} {K : PySem.W.Frag}
theorem bind_ok {α β : Type} {r : R α} {f : α → Sto → R β} {b : β} {st : Sto} (h : r.bind f = .ok b st) : ∃ a s, r = .ok a s ∧ f a s = .ok b st := by
  cases r with
  | ok a s => exact ⟨a, s, rfl, h⟩
  | exc _ _ => cases h
  | bad => cases h
theorem evs_len : ∀ {es : Mi.T} {env : En} {st st' : Sto} {rs : List RV}, evs C es env st = .ok rs st' → rs.length = tlen es := by
  intro es
  induction es with
  | nil =>
    intro env st st' rs h
    rw [evs] at h
    cases h; rfl
  | cons a b _ ih =>
    intro env st st' rs h
    rw [evs] at h
    obtain ⟨v, s1, h1, h2⟩ := bind_ok h
    obtain ⟨vs, s2, h3, h4⟩ := bind_ok h2
    cases h4
    rw [List.length_cons, ih h3]; rfl
  | _ => intro env st st' rs h; cases h
theorem PR.len {M : List Addr} {H : Hp} {st : Sto} {es : Mi.T} {env : En} {Q : List RV → List Addr → Sto → Hp → Prop} (h : PR K M H st (evs C es env st) W Q) : PR K M H st (evs C es env st) W (fun rs M st H => rs.length = tlen es ∧ Q rs M st H) := by
  cases e : evs C es env st with
  | ok rs st' =>
    rw [e] at h
    exact fun M' H' p sr s => ⟨evs_len e, h M' H' p sr s⟩
  | exc x st' => rw [e] at h; exact h
  | bad => rw [e] at h; exact h
theorem fill_fill (d : FD) (rs : List RV) (h : (fillD d rs).length = d.npar) : fillD d (fillD d rs) = fillD d rs := by
  unfold fillD at h ⊢
  split at h
  · rename_i e
    rw [if_pos e]
    split
    · rename_i e2
      have : d.dfl = [] := by
        cases hd : d.dfl with
        | nil => rfl
        | cons a b => rw [hd] at e2 h; simp at e2 h; omega
      rw [this]; simp
    · rfl
  · rename_i e
    rw [if_neg e, if_neg e]
/-- f(e, ..) of a def of the text; dv: the defaults of the parameters that are left out -/
theorem co_call {CX : CXT} {PL : List FD} {wf n f : Nat} {d : FD} {dvs : List V} {dv : List D} {es : Mi.T} {E : XK} (hf : PL[f]? = some d) (hdv : ∀ L H, RpL K L H dvs dv) (hlen : (tlen es = d.npar ∧ dv = []) ∨ (tlen es + d.dfl.length = d.npar ∧ dv = d.dfl)) {σ : L2.St} {H : Hp} {Q : VK}
    (h : tE K ⟨callN PL wf n, wf⟩ Wno (.call f es) σ H Q) : tCall (spF PL wf K n f) dvs E (tEs K ⟨callN PL wf n, wf⟩ Wno es) σ H Q := by
  obtain ⟨M, env, st, er, sr, h⟩ := h
  rw [ev] at h
  refine ⟨M, env, st, er, sr, (PR.len (PR.bind h)).imp fun rs M1 st1 H1 p1 sr1 s1 ⟨hl, h⟩ vs rv => ?_⟩
  have efill : fillD d rs = rs ++ dv.map .val := by
    unfold fillD
    rcases hlen with ⟨h1, rfl⟩ | ⟨h1, rfl⟩
    · split
      · rename_i e
        have : d.dfl = [] := by
          cases hd : d.dfl with
          | nil => rfl
          | cons a b => rw [hd] at e; simp at e; omega
        rw [this]
      · simp
    · rw [if_pos (by omega)]
  have hfl : (fillD d rs).length = d.npar := by
    rw [efill, List.length_append, List.length_map]
    rcases hlen with ⟨h1, rfl⟩ | ⟨h1, rfl⟩
    · simp; omega
    · omega
  have mk : ∀ {xs : List V} {ds : List D}, RpL K (Lv M1 st1) H1 xs ds → RVs K M1 (Lv M1 st1) H1 xs (ds.map .val) := by
    intro xs ds r
    induction ds generalizing xs with
    | nil => cases r; exact .nil
    | cons a b ih => cases r with | cons r1 r2 => exact .cons r1 (ih r2)
  refine ⟨M1, st1, fillD d rs, d, hf, hfl, sr1, by rw [efill]; exact rv.app (mk (hdv _ _)), ?_⟩
  have h' : PR K M1 H1 st1 (callN PL wf n f rs st1) Wno (QV K Q) := h
  cases n with
  | zero => exact h'.elim
  | succ n =>
    have e : callN PL wf (n + 1) f (fillD d rs) st1 = callN PL wf (n + 1) f rs st1 := by
      rw [callN, callN, hf]
      simp only [fill_fill d rs hfl]
    rw [e]; exact h'
theorem se_call {CX : CXT} {PL : List FD} {wf n f k : Nat} {d : FD} {fa : Addr} {fd : FuncData} {ps : List Str} {dvs : List V} {dv : List D} {ds : List Value} {x : Str} {e : Expr} {es : List Expr} {tes : Mi.T} {p pos : Pos} {E : XK}
    (F : FnOk X.prog X.w X.K X.mg X.base CX n fa fd ps (spF PL wf X.K n f)) (hr : Room n X.A) (hg : Gl X x) (hm : X.mg x = some (.ref fa)) (hk : PySem.W.keepIn X.K (.ref fa) = true) (hb : Binds X.K fd ps ds) (hd : Vals dvs ds) (hx : Passes CX X E)
    (hf : PL[f]? = some d) (hdv : ∀ L H, RpL X.K L H dvs dv) (hlen : (tlen tes = d.npar ∧ dv = []) ∨ (tlen tes + d.dfl.length = d.npar ∧ dv = d.dfl))
    (ha : PA X (e :: es) (tEs X.K ⟨callN PL wf n, wf⟩ Wno tes)) (hdb : (x == ("__debug__" : Str)) = false) (hst : (e :: es).all nostar = true) : PE X (.Call (.Name x p) (e :: es) [] pos) (tE X.K ⟨callN PL wf n, wf⟩ Wno (.call f tes)) := by
  have h4 := Bool.and_eq_true_iff.mp hst
  exact cvX (pe_call (E := E) F hr hg hm hk hb hd hx ha hdb (star_cons h4.1) (stars_off h4.2)) (co_call (CX := CX) hf hdv hlen)
end
end MiS

namespace MiG
open PySem PySem.Spec PyProof.Rows L2 GxR GenW
/-! ### generator expressions under all, any: the body runs in a frame of its own -/
abbrev gx (X : Cx) (A : Around) (s : Shared) (H : Hp) (cenv : Env) (fp : List Addr) : Cx :=
  { X with A := A, s_0 := s, H_0 := H, env := cenv, outer := X.stack, stack := cenv :: X.stack, ex := fp, fn := fun _ => false, calm := true, pn := [], xe := fun _ _ => False }
structure GenOk (N : List Str) (sc scope : Scope) (own : List (Str × Nat)) : Prop where
  kind : scope.kind = .function
  co : scope.isCoroutine = false
  cell : ∀ y ∈ scope.names, y.2 ≠ .cell
  dot : scope.names.lookup (".0" : Str) = some NameKind.local
  ix : ∀ p ∈ own, N[p.2]? = some p.1
  free : ∀ y ∈ scope.names, y.2 = .free → sc.names.lookup y.1 = some .cell ∨ sc.names.lookup y.1 = some .free
  own : ∀ y ∈ scope.names, y.2 = .local → y.1 ∈ own.map (·.1) ∨ y.1 ∉ N
section
variable {X : Cx} {pins : List (Addr × Obj)} {σ : L2.St} {H : Hp} {s : Shared}
theorem GenOk.has {scope : Scope} {own : List (Str × Nat)} (G : GenOk X.N X.env.scope scope own) (ok : X.Ok) : ∀ y ∈ scope.names, y.2 = .free → ∃ c, X.env.cells.lookup y.1 = some c := fun y hy e => by
  rcases G.free y hy e with k | k
  · exact ok.has _ (.inl k)
  · exact ok.has _ (.inr k)
theorem gen_start {A : Around} {scope : Scope} {own : List (Str × Nat)} {fp : List Addr} {code : Value} {h5 : Heap} {tk : Nat} {g' : Array GenState} {m : Str → Option Value} (I : Inv X pins σ H s) (G : GenOk X.N X.env.scope scope own) (hN : X.N.Nodup)
    (hfp : ∀ b ∈ fp, FpOk X pins H b ∧ b < s.heap.objs.size) (hns : h5.Ns s.heap.objs.size m) (kp : ∀ b o, s.heap.get? b = some o → h5.get? b = some o) (hb : AllBare g') (hA : A.handled = none)
    (hf : A.frames = some (genEnv scope (cloFrom X.env.cells scope.names []) s.heap.objs.size code builtinsNs X.env :: X.stack)) :
    Inv (gx X A s H (genEnv scope (cloFrom X.env.cells scope.names []) s.heap.objs.size code builtinsNs X.env) fp) [] (wipe σ (own.map (·.2))) H { s with heap := h5, toks := tk, gens := g' } := by
  have hfree := G.has I.ok
  have cm : ∀ {y c}, (cloFrom X.env.cells scope.names []).lookup y = some c → X.env.cells.lookup y = some c := fun {y c} e => by
    rcases cloFrom_mem (PySem.mem_of_lookup e) with hm | ⟨h1, h2⟩
    · cases hm
    · obtain ⟨c1, hc⟩ := hfree _ h1 rfl
      have hc : X.env.cells.lookup y = some c1 := hc
      have e2 : c = c1 := by
        rw [h2, hc] <;> rfl
      rw [e2]
      exact hc
  have look : ∀ {y}, scope.names.lookup y = some .free → ∃ c, (cloFrom X.env.cells scope.names []).lookup y = some c := fun {y} hl => by
    have hy : (y, NameKind.free) ∈ scope.names := PySem.mem_of_lookup hl
    exact mem_lookup (cloFrom_has (cells := X.env.cells) (acc := []) hy)
  refine ⟨⟨I.ok.mod, G.kind, I.ok.glob, rfl, Nat.le_refl _, fun y z c e1 e2 => I.ok.inj y z c (cm e1) (cm e2), fun y hy => ?_, fun y c z _ => ?_, fun _ => hA, hf, .inr ⟨rfl, rfl⟩, fun b hb => ⟨?_, fun y c e z => ?_⟩, I.bs, Nat.le_trans I.ok.bsz I.sz,
      fun b o e hb => ?_, fun b hb z => ?_, I.stack, I.stkFree⟩,
    rfl, hb, Un.kept kp, ⟨m, hns, fun i y v e1 e2 e3 => ?_⟩, fun y c e => ?_, I.hok.fresh (Nat.le_refl _), fun y c e => I.freeC y c (cm e), fun q hq => absurd (show q ∈ ([] : List (Addr × Obj)) ++ [] from hq) (by simp), I.hok.kept kp, by rw [wipe_length]; exact I.len⟩
  · have hy : scope.names.lookup y = some .cell ∨ scope.names.lookup y = some .free := hy
    rcases hy with hy | hy
    · exact absurd rfl (G.cell _ (PySem.mem_of_lookup hy))
    · exact look hy
  · have z : false = true := z
    cases z
  · exact Nat.ne_of_lt (hfp b hb).2
  · exact (hfp b hb).1.2.2.2.2.1 y c (cm e) z
  · rcases (hfp b hb).1.2.2.2.1 with z | z
    · exact I.ok.noex b o e z
    · exact absurd (Nat.lt_of_lt_of_le (Heap.lt_size e) (Nat.le_trans I.ok.bsz z)) (Nat.lt_irrefl _)
  · rcases List.mem_cons.mp (I.stkSub b z) with z | z
    · exact (hfp b hb).1.2.1 z
    · exact (hfp b hb).1.2.2.1 z
  · obtain ⟨e2, hne⟩ := wipe_some e2
    have e3 : Vis scope y := e3
    have e1 : X.N[i]? = some y := e1
    rcases e3 with k | k | k
    · rcases G.own _ (PySem.mem_of_lookup k) rfl with q | q
      · obtain ⟨p, hp, rfl⟩ := List.mem_map.mp q
        have := G.ix p hp
        have hij : i = p.2 := by
          have h1 := (List.getElem?_eq_some_iff.mp e1)
          have h2 := (List.getElem?_eq_some_iff.mp this)
          exact (List.getElem_inj hN).mp (h1.2.trans h2.2.symm)
        exact absurd (List.mem_map.mpr ⟨p, hp, hij.symm⟩) hne
      · exact absurd (List.mem_of_getElem? e1) q
    · exact absurd rfl (G.cell _ (PySem.mem_of_lookup k))
    · obtain ⟨m, hn, hl⟩ := I.loc
      have hvis : Vis X.env.scope y := (G.free _ (PySem.mem_of_lookup k) rfl).elim (fun k => .inr (.inl k)) (fun k => .inr (.inr k))
      obtain ⟨w', r, q⟩ := hl i y v e1 e2 hvis
      obtain ⟨c2, h2⟩ := look k
      refine ⟨w', r, .inr ⟨.inr k, c2, h2, ?_⟩⟩
      have c1 := cm h2
      rcases q with ⟨k', _⟩ | ⟨_, c3, e', z⟩
      · have k' : X.env.scope.names.lookup y = some .local := k'
        rcases G.free _ (PySem.mem_of_lookup k) rfl with k2 | k2 <;> rw [show X.env.scope.names.lookup y = _ from k2] at k' <;> cases k'
      · rw [c1] at e'
        cases e'
        obtain ⟨o, ho, hd⟩ := z
        exact ⟨o, kp _ _ ho, hd⟩
  · obtain ⟨w', o, ho, hd⟩ := I.cell y c (cm e)
    exact ⟨w', o, kp _ _ ho, hd⟩
/-- the generators' states are of no matter -/
theorem inv_gens (I : Inv X pins σ H s) {g' : Array GenState} (hb : AllBare g') : Inv X pins σ H { s with gens := g' } :=
  ⟨I.ok, I.os, hb, I.base, I.loc, I.cell, I.free, I.freeC, I.pin, I.hok, I.len⟩
theorem inv_same {s' : Shared} (I : Inv X pins σ H s) (h1 : s'.heap = s.heap) (h2 : s'.os = s.os) (hb : AllBare s'.gens) : Inv X pins σ H s' := by
  obtain ⟨hp, g, d, t, o⟩ := s'
  cases h1
  cases h2
  exact ⟨I.ok, I.os, hb, I.base, I.loc, I.cell, I.free, I.freeC, I.pin, I.hok, I.len⟩
end
/-! ### the protocol -/
/-- an item is handed out: a bool -/
def YB (X : Cx) (pins : List (Addr × Obj)) (σ : L2.St) (all : Bool) (Q : VK) (a : Addr) (g : Nat) : Protocol := fun _ _ v s kap =>
  ∃ b H', v = .bool b ∧ Inv X pins σ H' s ∧ s.heap.IsGen a g ∧ (b ≠ all → Q (.bl b) H') ∧ (b = all → ∀ s', s'.heap = s.heap → s'.os = s.os → AllBare s'.gens → kap (.send .none) s')
def FB (X : Cx) (pins : List (Addr × Obj)) (σ : L2.St) (all : Bool) (Q : VK) : Nat → Shared → Shared → Prop := fun _ _ s => ∃ H', Inv X pins σ H' s ∧ Q (.bl all) H'
def RB (X : Cx) (pins : List (Addr × Obj)) (σ : L2.St) (all : Bool) (Q : VK) : GenEnd := fun n s₀ r s₁ => ((r = .ok (.ret .none) ∨ r = .ok .next) ∧ FB X pins σ all Q n s₀ s₁) ∨ ∃ e, r = .error e ∧ (fun (_ : Value) (_ : Shared) => False) e s₁
/-- what all, any give -/
def DB (X : Cx) (pins : List (Addr × Obj)) (σ : L2.St) (Q : VK) : Result → Shared → Prop := fun r s' => match r with
  | .ok (.ret v) => EP X pins σ Q v s'
  | _ => False
section
variable {X : Cx} {pins : List (Addr × Obj)} {σ : L2.St} {Q : VK} {a : Addr} {g : Nat}
theorem drain_all (hh : X.A.handled = none) (hd : X.A.depth < recursionLimit) : ∀ (n : Nat) (H : Hp) (s : Shared), Inv X pins σ H s → s.heap.IsGen a g →
    (∃ gs, s.gens[g]? = some gs ∧ gs.Goes (model X.prog X.w) X.A.in1.in1 (RB X pins σ true Q) (YB X pins σ true Q a g) n (.send .none) (s.setGen g .running)) →
    codeAny (model X.prog X.w) X.A (.builtin "all.loop" ⟨[.ref a], []⟩) (DB X pins σ Q) s := by
  intro n
  induction n with
  | zero =>
    intro H s I hg ⟨gs, hgs, hgo⟩
    refine codeAny_builtin F.entry_all_loop ?_
    rw [Around.under_plainId F.plain_all_loop _]
    show wpAny _ X.A.in1 (pyNext (.ref a) >>= _) _ _ s
    refine wpAny_bind (next_genG (A := X.A.in1) hh I.nolimit hd hg hgs hgo (fun v s₁ gs' hbare hv => ?_) (fun s₁ hp h' hk => ?_) fun e s₁ he => he.elim)
    · obtain ⟨b, H', rfl, I1, hg1, q1, q2⟩ := hv
      cases b with
      | true => exact (q2 rfl s₁ rfl rfl I1.bare).elim
      | false =>
        refine wpAny_bind (wpAny_holding (wpAny_truthy_bool ?_))
        refine wpAny_bind (wpAny_letGo ?_)
        simp only [Bool.false_eq_true, if_false]
        refine wpAny_bind (wpAny_rule (wpAny_pure ?_))
        exact ⟨.bl false, H', inv_gens I1 (allBare_setGen I1.bare hbare), rfl, q1 (by decide)⟩
    · obtain ⟨H', I1, q⟩ := hp
      refine wpAny_bind (wpAny_rule (wpAny_pure ?_))
      exact ⟨.bl true, H', (inv_gens I1 (allBare_setGen I1.bare rfl)).kept (t' := s₁.toks) hk, rfl, q⟩
  | succ n ih =>
    intro H s I hg ⟨gs, hgs, hgo⟩
    have hgl : g < s.gens.size := (Array.getElem?_eq_some_iff.mp hgs).1
    refine codeAny_builtin F.entry_all_loop ?_
    rw [Around.under_plainId F.plain_all_loop _]
    show wpAny _ X.A.in1 (pyNext (.ref a) >>= _) _ _ s
    refine wpAny_bind (wpAny_gsz (n := g + 1) hgl (next_genG (A := X.A.in1) hh I.nolimit hd hg hgs hgo (fun v s₁ gs' hbare hv => ?_) (fun s₁ hp h' hk => ?_) fun e s₁ he => he.elim))
    · intro hsz
      obtain ⟨b, H', rfl, I1, hg1, q1, q2⟩ := hv
      refine wpAny_bind (wpAny_holding (wpAny_truthy_bool ?_))
      refine wpAny_bind (wpAny_letGo ?_)
      cases b with
      | true =>
        simp only [if_true]
        have hsz1 : g < s₁.gens.size := by
          have q : (s₁.setGen g gs').gens.size = s₁.gens.size := setGen_size _ _ _
          have hsz' : g + 1 ≤ (s₁.setGen g gs').gens.size := hsz
          omega
        refine wpAny_pure ⟨plainId_quiet F.plain_all_loop _, ?_⟩
        refine ih H' (s₁.setGen g gs') (inv_gens I1 (allBare_setGen I1.bare hbare)) hg1 ⟨gs', setGen_at hsz1, ?_⟩
        exact q2 rfl _ rfl rfl (allBare_setGen (s := s₁.setGen g gs') (allBare_setGen I1.bare hbare) rfl)
      | false =>
        simp only [Bool.false_eq_true, if_false]
        refine wpAny_bind (wpAny_rule (wpAny_pure ?_))
        exact ⟨.bl false, H', inv_gens I1 (allBare_setGen I1.bare hbare), rfl, q1 (by decide)⟩
    · intro hsz
      obtain ⟨H', I1, q⟩ := hp
      refine wpAny_bind (wpAny_rule (wpAny_pure ?_))
      exact ⟨.bl true, H', (inv_gens I1 (allBare_setGen I1.bare rfl)).kept (t' := s₁.toks) hk, rfl, q⟩
theorem drain_any (hh : X.A.handled = none) (hd : X.A.depth < recursionLimit) : ∀ (n : Nat) (H : Hp) (s : Shared), Inv X pins σ H s → s.heap.IsGen a g →
    (∃ gs, s.gens[g]? = some gs ∧ gs.Goes (model X.prog X.w) X.A.in1.in1 (RB X pins σ false Q) (YB X pins σ false Q a g) n (.send .none) (s.setGen g .running)) →
    codeAny (model X.prog X.w) X.A (.builtin "any.loop" ⟨[.ref a], []⟩) (DB X pins σ Q) s := by
  intro n
  induction n with
  | zero =>
    intro H s I hg ⟨gs, hgs, hgo⟩
    refine codeAny_builtin F.entry_any_loop ?_
    rw [Around.under_plainId F.plain_any_loop _]
    show wpAny _ X.A.in1 (pyNext (.ref a) >>= _) _ _ s
    refine wpAny_bind (next_genG (A := X.A.in1) hh I.nolimit hd hg hgs hgo (fun v s₁ gs' hbare hv => ?_) (fun s₁ hp h' hk => ?_) fun e s₁ he => he.elim)
    · obtain ⟨b, H', rfl, I1, hg1, q1, q2⟩ := hv
      cases b with
      | false => exact (q2 rfl s₁ rfl rfl I1.bare).elim
      | true =>
        refine wpAny_bind (wpAny_holding (wpAny_truthy_bool ?_))
        refine wpAny_bind (wpAny_letGo ?_)
        simp only [if_true]
        refine wpAny_bind (wpAny_rule (wpAny_pure ?_))
        exact ⟨.bl true, H', inv_gens I1 (allBare_setGen I1.bare hbare), rfl, q1 (by decide)⟩
    · obtain ⟨H', I1, q⟩ := hp
      refine wpAny_bind (wpAny_rule (wpAny_pure ?_))
      exact ⟨.bl false, H', (inv_gens I1 (allBare_setGen I1.bare rfl)).kept (t' := s₁.toks) hk, rfl, q⟩
  | succ n ih =>
    intro H s I hg ⟨gs, hgs, hgo⟩
    have hgl : g < s.gens.size := (Array.getElem?_eq_some_iff.mp hgs).1
    refine codeAny_builtin F.entry_any_loop ?_
    rw [Around.under_plainId F.plain_any_loop _]
    show wpAny _ X.A.in1 (pyNext (.ref a) >>= _) _ _ s
    refine wpAny_bind (wpAny_gsz (n := g + 1) hgl (next_genG (A := X.A.in1) hh I.nolimit hd hg hgs hgo (fun v s₁ gs' hbare hv => ?_) (fun s₁ hp h' hk => ?_) fun e s₁ he => he.elim))
    · intro hsz
      obtain ⟨b, H', rfl, I1, hg1, q1, q2⟩ := hv
      refine wpAny_bind (wpAny_holding (wpAny_truthy_bool ?_))
      refine wpAny_bind (wpAny_letGo ?_)
      cases b with
      | false =>
        simp only [Bool.false_eq_true, if_false]
        have hsz1 : g < s₁.gens.size := by
          have q : (s₁.setGen g gs').gens.size = s₁.gens.size := setGen_size _ _ _
          have hsz' : g + 1 ≤ (s₁.setGen g gs').gens.size := hsz
          omega
        refine wpAny_pure ⟨plainId_quiet F.plain_any_loop _, ?_⟩
        refine ih H' (s₁.setGen g gs') (inv_gens I1 (allBare_setGen I1.bare hbare)) hg1 ⟨gs', setGen_at hsz1, ?_⟩
        exact q2 rfl _ rfl rfl (allBare_setGen (s := s₁.setGen g gs') (allBare_setGen I1.bare hbare) rfl)
      | true =>
        simp only [if_true]
        refine wpAny_bind (wpAny_rule (wpAny_pure ?_))
        exact ⟨.bl true, H', inv_gens I1 (allBare_setGen I1.bare hbare), rfl, q1 (by decide)⟩
    · intro hsz
      obtain ⟨H', I1, q⟩ := hp
      refine wpAny_bind (wpAny_rule (wpAny_pure ?_))
      exact ⟨.bl false, H', (inv_gens I1 (allBare_setGen I1.bare rfl)).kept (t' := s₁.toks) hk, rfl, q⟩
end
end MiG

namespace MiG
open PySem PySem.Spec PyProof.Rows L2 GxR GenW
theorem compTurn_g20 (elt t1 i1 t2 i2 : Expr) (scope : Scope) (pos : Pos) (it acc : Value) (env : Env) :
    compTurn (.GeneratorExp elt [⟨t1, i1, [], 0⟩, ⟨t2, i2, [], 0⟩] scope pos) 0 it acc env = (do
      standAt i1.pos
      match ← pyNext it with
      | none => pure (.done .next)
      | some v =>
        letOwnedTupleGo t1 it v
        assign t1 env v
        let x ← eval i2 env
        standAt i2.pos
        let x ← foldedSetIterable i2 env x
        let u ← holding [x] (pyIter x)
        let _ ← runOwn (.compStart (.GeneratorExp elt [⟨t1, i1, [], 0⟩, ⟨t2, i2, [], 0⟩] scope pos) 1 u acc env) env
        again (.compLoop (.GeneratorExp elt [⟨t1, i1, [], 0⟩, ⟨t2, i2, [], 0⟩] scope pos) 0 it acc env)) := by rfl
theorem compTurn_g21 (elt t1 i1 t2 i2 : Expr) (scope : Scope) (pos : Pos) (it acc : Value) (env : Env) :
    compTurn (.GeneratorExp elt [⟨t1, i1, [], 0⟩, ⟨t2, i2, [], 0⟩] scope pos) 1 it acc env = (do
      standAt i2.pos
      match ← pyNext it with
      | none => pure (.done .next)
      | some v =>
        letOwnedTupleGo t2 it v
        assign t2 env v
        (do let v ← eval elt env; standAt elt.pos; let _ ← yieldOut env v)
        again (.compLoop (.GeneratorExp elt [⟨t1, i1, [], 0⟩, ⟨t2, i2, [], 0⟩] scope pos) 1 it acc env)) := by rfl
theorem compTurn_g1 (elt tg iter : Expr) (scope : Scope) (pos : Pos) (it acc : Value) (env : Env) :
    compTurn (.GeneratorExp elt [⟨tg, iter, [], 0⟩] scope pos) 0 it acc env = (do
      standAt iter.pos
      match ← pyNext it with
      | none => pure (.done .next)
      | some v =>
        letOwnedTupleGo tg it v
        assign tg env v
        (do let v ← eval elt env; standAt elt.pos; let _ ← yieldOut env v)
        again (.compLoop (.GeneratorExp elt [⟨tg, iter, [], 0⟩] scope pos) 0 it acc env)) := by rfl
section
variable {X : Cx} {pins : List (Addr × Obj)} {σ : L2.St} {Q : VK} {a : Addr} {g : Nat} {all : Bool}
/-- the turn of a generator expression of one clause -/
def Turn1 (J : It) (tg : TG) (te : TE) (vs : List Nat) (σ : L2.St) (all : Bool) (Q : VK) (W : Nat → Nat → Hp → Prop) : Prop := ∀ i m H, W i m H →
  (J.stop i H ∧ Q (.bl all) H) ∨ (J.go i H ∧ ∀ x H', J.yld i H x H' → tg x (wipe σ vs) H' fun σ2 H2 => wipe σ2 vs = wipe σ vs ∧ te σ2 H2 fun y H3 => ∃ b, y = .bl b ∧ (b ≠ all → Q (.bl b) H3) ∧ (b = all → ∃ m', m' < m ∧ W (i + 1) m' H3))
theorem seg_gen1 {elt tgt iter : Expr} {scope : Scope} {pos : Pos} {cenv : Env} {it : Addr} {fp : List Addr} {tn : Nat → Heap → Prop} {J : It} {s4 : Shared} {H4 : Hp} {go : Obj} {nm qn : Value} {vs : List Nat} {tg : TG} {te : TE} {W : Nat → Nat → Hp → Prop} {A : Around} {c : Code}
    (hc : c = .compLoop (.GeneratorExp elt [⟨tgt, iter, [], 0⟩] scope pos) 0 (.ref it) .none cenv) (hA : A = X.A.in1.in1.over c [])
    (I4 : Inv X pins σ H4 s4) (T : Turn X.prog X.w X.K tgt J fp it tn) (f4 : ∀ b ∈ fp, FpOk X pins H4 b) (hfa : ∀ b ∈ fp, b ≠ a)
    (hgo : go.cls = .type "generator" ∧ go.data = .fields #[.int g 0, nm, qn] ∧ go.slots = #[]) (hco : cenv.scope.isCoroutine = false)
    (pg : PG (gx X A s4 H4 cenv fp) tgt tg) (pe : PE (gx X A s4 H4 cenv fp) elt te) (turn : Turn1 J tg te vs σ all Q W) :
    ∀ (m i : Nat) (H : Hp) (s s₀ : Shared) (n : Nat), m < n → W i m H → Inv (gx X A s4 H4 cenv fp) [(a, go)] (wipe σ vs) H s → tn i s.heap → (∀ b ∈ fp, H b = none) →
      Seg (model X.prog X.w) X.A.in1.in1 (RB X pins σ all Q) (YB X pins σ all Q a g) n s₀ c ((model X.prog X.w).den c) [] s := by
  subst hc hA
  have back : ∀ {σ' : L2.St} {H' : Hp} {s' : Shared} {ps : List (Addr × Obj)}, Inv (gx X (X.A.in1.in1.over (.compLoop (.GeneratorExp elt [⟨tgt, iter, [], 0⟩] scope pos) 0 (.ref it) .none cenv) []) s4 H4 cenv fp) ps σ' H' s' → Inv X pins σ H' s' := fun {σ' H' s' ps} I' =>
    I4.call' (ch := fp) I'.os I'.base I'.hok I'.bare fun b hb => ⟨(f4 b hb).2.2.2.1, (f4 b hb).2.1, (f4 b hb).2.2.2.2.1, (f4 b hb).2.2.2.2.2⟩
  have stat : ∀ {σ' : L2.St} {H' : Hp} {s' : Shared}, Inv (gx X (X.A.in1.in1.over (.compLoop (.GeneratorExp elt [⟨tgt, iter, [], 0⟩] scope pos) 0 (.ref it) .none cenv) []) s4 H4 cenv fp) [(a, go)] σ' H' s' → (∀ b ∈ fp, H' b = none) → ∀ b ∈ fp, FpOk (gx X (X.A.in1.in1.over (.compLoop (.GeneratorExp elt [⟨tgt, iter, [], 0⟩] scope pos) 0 (.ref it) .none cenv) []) s4 H4 cenv fp) [(a, go)] H' b := fun {σ' H' s'} I' hn b hb =>
    ⟨hn b hb, (I'.ok.exf b hb).1, I'.ok.exfs b hb, .inl hb, fun x c e => (I'.ok.exf b hb).2 x c e, fun p hp => by
      rcases List.mem_append.mp hp with z | z
      · cases z
      · rw [List.mem_singleton.mp z]; exact fun q => hfa b hb q.symm⟩
  intro m
  induction m using Nat.strongRecOn with
  | ind m ih =>
    intro i H s s₀ n hmn w I st hn
    show Seg _ _ _ _ n s₀ _ ((compTurn (.GeneratorExp elt [⟨tgt, iter, [], 0⟩] scope pos) 0 (.ref it) .none cenv).onRaise (leaving cenv)) [] s
    rw [compTurn_g1, Sem.onRaise_eq_wrap]
    refine seg_bind_wrap (wpAny_standAt ?_)
    rcases turn i m H w with ⟨stop, q⟩ | ⟨gg, step⟩
    · refine seg_bind_wrap (wpAny_mono (T.done (gx X (X.A.in1.in1.over (.compLoop (.GeneratorExp elt [⟨tgt, iter, [], 0⟩] scope pos) 0 (.ref it) .none cenv) []) s4 H4 cenv fp) rfl rfl rfl rfl i [(a, go)] s _ H (fun _ _ => False) I (stat I hn) st stop) (fun r s6 h6 => ?_) fun _ _ e => e.elim)
      obtain ⟨hr, I6⟩ := h6
      subst hr
      exact seg_end (.ok .next) (.inl ⟨.inr rfl, H, back I6, q⟩)
    · refine seg_bind_wrap (wpAny_mono (T.item (gx X (X.A.in1.in1.over (.compLoop (.GeneratorExp elt [⟨tgt, iter, [], 0⟩] scope pos) 0 (.ref it) .none cenv) []) s4 H4 cenv fp) rfl rfl rfl rfl i [(a, go)] s _ H (fun _ _ => False) I (stat I hn) st gg) (fun r s6 h6 => ?_) fun _ _ e => e.elim)
      obtain ⟨u, hr, h6⟩ := h6
      subst hr
      refine seg_bind_wrap (wpAny_mono h6 (fun _ s7 h7 => ?_) fun _ _ e => e.elim)
      obtain ⟨x, H7, I7, r7, y7, st7, n7⟩ := h7
      have I7' := I7.pinned (stat I7 n7) (T.obj _ _ st7)
      refine seg_bind_wrap (wpAny_mono (pg.run _ s7 _ H7 x u _ I7' r7 (step x H7 y7)) (fun _ s8 h8 => ?_) fun _ _ e => e.elim)
      obtain ⟨σ8, H8, I8, hw8, q8⟩ := h8
      have hy : ∀ v, yieldOut cenv v = yieldValue v := fun v => by simp only [yieldOut, hco, Bool.false_eq_true, if_false]
      simp only [hy]
      rw [Sem.bind_eq_wrap', Sem.bind_eq_wrap', Sem.wrap_wrap, Sem.wrap_wrap]
      refine seg_wrap (wpAny_mono (pe.run _ s8 σ8 H8 _ I8 q8) (fun v s9 h9 => ?_) fun _ _ e => e.elim)
      obtain ⟨y, H9, I9, r9, b, rfl, qb, qa⟩ := h9
      obtain rfl : v = .bool b := r9
      obtain ⟨n, rfl⟩ : ∃ k, n = k + 1 := ⟨n - 1, by omega⟩
      have hgen : s9.heap.IsGen a g := ⟨go, nm, qn, (I9.pin (a, go) (List.mem_append_right _ (List.mem_append_left _ (List.mem_singleton.mpr rfl)))).1, hgo.1, hgo.2.1, hgo.2.2⟩
      refine seg_at (seg_yield rfl rfl rfl ⟨b, H9, rfl, back I9, hgen, qb, fun hb s' e1 e2 e3 => ?_⟩)
      obtain ⟨m', hm, w'⟩ := qa hb
      have I9' := inv_same I9 e1 e2 e3
      have hl : (wipe σ vs).length = σ8.length := by rw [← hw8, wipe_length]
      have pin' : ∀ b ∈ fp, ∀ o, s7.heap.get? b = some o → s'.heap.get? b = some o ∧ H9 b = none := fun b hb o e =>
        let z := I9'.pin (b, o) (List.mem_append_right _ (List.mem_append_right _ (mem_pinsAt hb e)))
        ⟨z.1, z.2.1⟩
      refine seg_again rfl (ih m' hm (i + 1) H9 s' s' n (by omega) w' ((I9'.unpinned (pins := [(a, go)])).weak hl fun j v e => ?_) (T.keep _ _ _ st7 fun b hb o e => (pin' b hb o e).1) fun b hb => ?_)
      · rw [← hw8] at e
        exact (wipe_some e).1
      · obtain ⟨o, e, _⟩ := T.obj _ _ st7 b hb
        exact (pin' b hb o e).2
end
end MiG

namespace MiG
open PySem PySem.Spec PyProof.Rows L2 GxR GenW
theorem eval_genN (elt target iter : Expr) (rest : List Comprehension) (scope : Scope) (pos : Pos) (env : Env) (hco : scope.isCoroutine = false) :
    eval (.GeneratorExp elt (⟨target, iter, [], 0⟩ :: rest) scope pos) env = (do
      let x ← eval iter env
      standAt iter.pos
      let x ← genFold iter env x
      let it ← holding [x] (pyIter x)
      enterFrame
      let cl ← closureFor scope env
      let code ← genexprCode env pos (env.qual ++ "<genexpr>") scope
      let bi ← builtinsFor env.globals env.builtins
      let cenv ← newFunctionEnv scope env.globals cl [(".0", it)] (env.qual ++ "<genexpr>.") none code none bi
      newGenerator (.compStart (.GeneratorExp elt (⟨target, iter, [], 0⟩ :: rest) scope pos) 0 it .none cenv) "<genexpr>" (env.qual ++ "<genexpr>")) := by
  rw [arm_eval_GeneratorExp]
  simp only [hco, Bool.false_eq_true, if_false]
  cases iter <;> rfl
section
variable {M : Model} {A : Around} {E : Value → Shared → Prop} {s : Shared}
theorem wpAny_genN {env : Env} {elt target iter : Expr} {rest : List Comprehension} {scope : Scope} {cl : List (Str × Addr)} {pos : Pos} {Q : Value → Shared → Prop}
    (hco : scope.isCoroutine = false) (hclos : closureFor scope env = pure cl) (hcell : ∀ y ∈ scope.names, y.2 ≠ .cell) (h0 : scope.names.lookup (".0" : Str) = some NameKind.local) (hkind : scope.kind = .function)
    (hroom : A.depth < recursionLimit)
    (h : wpAny M A (eval iter env) (fun xv s₁ => wpAny M A (pyIter xv) (fun it s₂ => s₂.heap.NoLimit ∧
      wpAny M A (genexprCode env pos (env.qual ++ "<genexpr>") scope) (fun code s₃ => wpAny M A (builtinsFor env.globals env.builtins) (fun bi s₄ =>
        ∀ h', h'.Ns s₄.heap.objs.size (fun y => if y = ".0" then some it else none) → Heap.SameBut s₄.heap.objs.size (s₄.heap.push { cls := .type "frame", data := .dict #[] }) h' →
          Q (.ref h'.objs.size) { s₄ with
            gens := s₄.gens.push (.fresh (.compStart (.GeneratorExp elt (⟨target, iter, [], 0⟩ :: rest) scope pos) 0 it .none (genEnv scope cl s₄.heap.objs.size code bi env))),
            toks := s₄.toks + 1 + 1 + 1,
            heap := h'.push { cls := .type "generator", data := .fields #[.int s₄.gens.size 0, .str "<genexpr>" (s₄.toks + 1), .str (env.qual ++ "<genexpr>") (s₄.toks + 1 + 1)] } }) E s₃) E s₂) E s₁) E s)
    (hs : ∀ x, genFold iter env x = pure x) :
    wpAny M A (eval (.GeneratorExp elt (⟨target, iter, [], 0⟩ :: rest) scope pos) env) Q E s := by
  rw [eval_genN _ _ _ _ _ _ _ hco, hclos]
  refine wpAny_bind (wpAny_mono h (fun xv s₁ h₁ => ?_) fun _ _ e => e)
  refine wpAny_bind (wpAny_standAt ?_)
  refine wpAny_bind (wpAny_of_eq (hs xv) ?_)
  refine wpAny_bind (wpAny_holding (wpAny_mono h₁ (fun it s₂ h₂ => ?_) fun _ _ e => e))
  refine wpAny_bind (wpAny_enterFrame h₂.1 hroom ?_)
  refine wpAny_bind (wpAny_pure ?_)
  refine wpAny_bind (wpAny_mono h₂.2 (fun code s₃ h₃ => ?_) fun _ _ e => e)
  refine wpAny_bind (wpAny_mono h₃ (fun bi s₄ h₄ => ?_) fun _ _ e => e)
  have hbinds : ∀ y ∈ ([((".0" : Str), it)] : List (Str × Value)), scope.names.lookup y.1 = some NameKind.local := by
    intro y hy
    rcases List.mem_cons.mp hy with rfl | hy
    · exact h0
    · cases hy
  refine wpAny_bind (wpAny_newFunctionEnv hcell hbinds (fun h' hn' hs' => ?_) hkind)
  have e : (fun y : Str => ([((".0" : Str), it)] : List (Str × Value)).reverse.lookup y) = fun y : Str => if y = (".0" : Str) then some it else none := by
    funext y
    by_cases hy : y = ".0"
    · subst hy; simp
    · have : (y == (".0" : Str)) = false := by simpa using hy
      simp [List.lookup, this, hy]
  rw [e] at hn'
  simp only [newGenerator, newFields]
  refine wpAny_bind (wpAny_newGen (wpAny_bind (wpAny_mkText (wpAny_bind (wpAny_mkText (wpAny_newObj_type ?_ (by size_fits)))))))
  exact h₄ h' hn' hs'
end
section
variable {X : Cx} {pins : List (Addr × Obj)} {σ : L2.St} {H : Hp} {s : Shared}
/-- a generator has been made and waits: the iterator, the table grown, the frame, the generator's object -/
structure MadeG (X : Cx) (pins : List (Addr × Obj)) (σ : L2.St) (e : Expr) (tgt : Expr) (scope : Scope) (vs : List Nat) (P : Addr) (R : It → Hp → Prop) (v : Value) (s5 : Shared) : Prop where
  ex : ∃ (J : It) (H1 H2 : Hp) (s4 : Shared) (it a : Addr) (fp : List Addr) (tn : Nat → Heap → Prop) (code : Value) (g : Nat) (go : Obj) (nm qn : Value), v = .ref a ∧ R J H1 ∧ Tabbed P H1 H2 ∧ Inv X pins σ H2 s4 ∧ Inv X pins σ H2 s5 ∧ Turn X.prog X.w X.K tgt J fp it tn ∧ tn 0 s5.heap ∧
    (∀ b ∈ fp, FpOk X pins H2 b) ∧ (∀ b ∈ fp, b ≠ a) ∧ (go.cls = .type "generator" ∧ go.data = .fields #[.int g 0, nm, qn] ∧ go.slots = #[]) ∧ s5.heap.IsGen a g ∧
    s5.gens[g]? = some (.fresh (.compStart e 0 (.ref it) .none (genEnv scope (cloFrom X.env.cells scope.names []) s4.heap.objs.size code builtinsNs X.env))) ∧
    ∀ (A : Around), A.handled = none → A.frames = some (genEnv scope (cloFrom X.env.cells scope.names []) s4.heap.objs.size code builtinsNs X.env :: X.stack) →
      Inv (gx X A s4 H2 (genEnv scope (cloFrom X.env.cells scope.names []) s4.heap.objs.size code builtinsNs X.env) fp) [(a, go)] (wipe σ vs) H2 s5
theorem gen_made {c P : Addr} {elt tgt iter : Expr} {rest : List Comprehension} {scope : Scope} {own : List (Str × Nat)} {gpos : Pos} {wi : TI} {R : It → Hp → Prop} {Q' : Value → Shared → Prop}
    (hd : X.A.depth < recursionLimit) (hN : X.N.Nodup) (TB : GxR.TabB X.base X.mg c P) (hcode : X.env.code = .ref c) (G : GenOk X.N X.env.scope scope own) (hi : PI X tgt iter wi) (hs : ∀ v, genFold iter X.env v = pure v)
    (I : Inv X pins σ H s) (h : wi σ H fun J H1 => TabG H1 P ∧ R J H1) (hQ : ∀ v s5, MadeG X pins σ (.GeneratorExp elt (⟨tgt, iter, [], 0⟩ :: rest) scope gpos) tgt scope (own.map (·.2)) P R v s5 → Q' v s5) :
    wpAny (model X.prog X.w) X.A (eval (.GeneratorExp elt (⟨tgt, iter, [], 0⟩ :: rest) scope gpos) X.env) Q' X.xe s := by
  refine wpAny_genN G.co (closure_ok (G.has I.ok)) G.cell G.dot G.kind hd ?_ hs
  refine thn (hi.run pins s σ H _ I h) fun xv s1 hx => thn hx fun itv s2 h2 => ?_
  obtain ⟨it, fp, tn, J, H1, rfl, I2, T, st2, f2, ⟨ps, hP, ht⟩, hR⟩ := h2
  have hPs : s2.heap.get? P = some { cls := .none, data := .fields ps } := I2.hok P _ hP
  have cd : PySem.W.CodeHd s2.heap c P := TB.code.keeps fun b u e => I2.bk b u e
  have fpP : ∀ b ∈ fp, b ≠ P := fun b hb e => by
    have := (f2 b hb).1
    rw [e, hP] at this; cases this
  have cont : ∀ (code : Value) (h3 : Heap) (tk : Nat) (ps' : Array Value), Heap.ExtBut P s2.heap h3 → s2.heap.objs.size ≤ h3.objs.size → h3.get? P = some { cls := .none, data := .fields ps' } → (∃ more, ps' = ps ++ more) → TriplesOk ps'.toList →
      wpAny (model X.prog X.w) X.A (builtinsFor X.env.globals X.env.builtins) (fun bi s₄ => ∀ h', h'.Ns s₄.heap.objs.size (fun y => if y = ".0" then some (Value.ref it) else none) → Heap.SameBut s₄.heap.objs.size (s₄.heap.push { cls := .type "frame", data := .dict #[] }) h' →
          Q' (.ref h'.objs.size) { s₄ with
            gens := s₄.gens.push (.fresh (.compStart (.GeneratorExp elt (⟨tgt, iter, [], 0⟩ :: rest) scope gpos) 0 (.ref it) .none (genEnv scope (cloFrom X.env.cells scope.names []) s₄.heap.objs.size code bi X.env))),
            toks := s₄.toks + 1 + 1 + 1,
            heap := h'.push { cls := .type "generator", data := .fields #[.int s₄.gens.size 0, .str "<genexpr>" (s₄.toks + 1), .str (X.env.qual ++ "<genexpr>") (s₄.toks + 1 + 1)] } }) X.xe { s2 with heap := h3, toks := tk } := by
    intro code h3 tk ps' hx hsz hP3 hmore ht3
    obtain ⟨bm, ob, e1, e2, e3, e4, e5, e6, e7, e8⟩ := TB.bm
    have keep3 : ∀ b u, b ≠ P → s2.heap.get? b = some u → h3.get? b = some u := fun b u hb e => hx b u hb e
    refine wpAny_builtinsFor (m := X.mg) (by rw [I2.ok.glob]; exact (I2.mod.glob.keeps I2.bk).extBut hx TB.gP) e1 e2 (keep3 _ _ e4 (I2.bk _ _ e5)) e6 e7 e8 ?_
    obtain ⟨more, em⟩ := hmore
    have I4 : Inv X pins σ (upd H1 P (.tbl (ps ++ more))) { s2 with heap := h3, toks := tk } :=
      GxR.inv_tab (more := more) (g' := s2.gens) (d' := s2.drawn) (t' := tk) I2 hP keep3 (by rw [← em]; exact hP3) I2.bare
    have hTb : Tabbed P H1 (upd H1 P (.tbl (ps ++ more))) := ⟨⟨ps ++ more, upd_same, by rw [← em]; exact ht3⟩, fun b hb => upd_ne hb⟩
    have st4 : tn 0 h3 := T.keep _ _ _ st2 fun b hb o e => keep3 b o (fpP b hb) e
    have f4 : ∀ b ∈ fp, FpOk X pins (upd H1 P (.tbl (ps ++ more))) b := fun b hb => ⟨by rw [upd_ne (fpP b hb)]; exact (f2 b hb).1, (f2 b hb).2⟩
    have lt4 : ∀ b ∈ fp, b < h3.objs.size := fun b hb => by
      obtain ⟨o, e, _⟩ := T.obj _ _ st4 b hb
      exact Heap.lt_size e
    intro h' hns hsb
    have kp : ∀ b o, h3.get? b = some o → h'.get? b = some o := fun b o e => hsb.extBut b o (Nat.ne_of_lt (Heap.lt_size e)) (Heap.get?_push_of_some _ e)
    have szh : h3.objs.size < h'.objs.size := hns.lt
    refine hQ _ _ ⟨J, H1, upd H1 P (.tbl (ps ++ more)), { s2 with heap := h3, toks := tk }, it, h'.objs.size, fp, tn, code, s2.gens.size, { cls := .type "generator", data := .fields #[.int s2.gens.size 0, .str "<genexpr>" (tk + 1), .str (X.env.qual ++ "<genexpr>") (tk + 1 + 1)] }, _, _, rfl, hR, hTb, I4, ?_, T, ?_, f4, ?_, ⟨rfl, rfl, rfl⟩, ?_, ?_, ?_⟩
    · have := (I4.kept (t' := tk + 1 + 1 + 1) (h' := h'.push { cls := .type "generator", data := .fields #[.int s2.gens.size 0, .str "<genexpr>" (tk + 1), .str (X.env.qual ++ "<genexpr>") (tk + 1 + 1)] }) fun b o e => Heap.get?_push_of_some _ (kp b o e))
      exact inv_gens this (AllBare.push I2.bare rfl)
    · exact T.keep _ _ _ st4 fun b hb o e => Heap.get?_push_of_some _ (kp b o e)
    · intro b hb e
      have h9 := lt4 b hb
      rw [e] at h9
      exact absurd (Nat.lt_trans szh h9) (Nat.lt_irrefl _)
    · exact ⟨_, _, _, Heap.get?_push_size _ rfl, rfl, rfl, rfl⟩
    · exact Array.getElem?_push_size ..
    · intro A hA hf
      have J0 := gen_start (A := A) (fp := fp) (code := code) (tk := tk + 1 + 1 + 1) (h5 := h'.push { cls := .type "generator", data := .fields #[.int s2.gens.size 0, .str "<genexpr>" (tk + 1), .str (X.env.qual ++ "<genexpr>") (tk + 1 + 1)] }) (g' := s2.gens.push (.fresh (.compStart (.GeneratorExp elt (⟨tgt, iter, [], 0⟩ :: rest) scope gpos) 0 (.ref it) .none (genEnv scope (cloFrom X.env.cells scope.names []) h3.objs.size code builtinsNs X.env))))
        I4 G hN (fun b hb => ⟨f4 b hb, lt4 b hb⟩) (hns.keeps fun b o e => Heap.get?_push_of_some _ e) (fun b o e => Heap.get?_push_of_some _ (kp b o e)) (AllBare.push I2.bare rfl) hA hf
      refine J0.pins_of fun p hp => ?_
      rw [List.mem_singleton.mp hp]
      refine ⟨Heap.get?_push_size _ rfl, I4.hok.fresh (Nat.le_of_lt szh), Nat.ne_of_gt szh, fun hm => ?_, fun v q => by cases q⟩
      have hm : h'.objs.size ∈ frs X.stack := hm
      rcases List.mem_cons.mp (I4.stkSub _ hm) with z | z
      · have h1 : X.env.locals < h3.objs.size := I4.lt
        rw [← z] at h1
        exact absurd (Nat.lt_trans szh h1) (Nat.lt_irrefl _)
      · exact I4.nofs (Nat.le_of_lt szh) z
  refine ⟨I2.nolimit, ?_⟩
  cases hf : codeAmong gpos ps.toList with
  | none =>
    refine wpAny_genexprCodeX hcode (cd.code hPs ht) (cd.tab hPs) hf fun c' h' tk hx hge hlt hco' _ htab' _ => ?_
    obtain ⟨o1, vs, f1, tf, fl, tg, inF, tx, tt, op, _, _, _, _, _, _, _, _, _, htr, _⟩ := hco'
    exact cont _ h' tk _ hx (Nat.le_trans hge (Nat.le_of_lt hlt)) htab'.2 ⟨_, rfl⟩ htr
  | some cv =>
    refine wpAny_genexprCode_hit hcode (cd.code hPs ht) hf ?_
    exact cont cv s2.heap s2.toks ps (Heap.ExtBut.refl _ _) (Nat.le_refl _) hPs ⟨#[], by simp⟩ ht
end
end MiG

namespace MiG
open PySem PySem.Spec PyProof.Rows L2 GxR GenW
section
variable {prog : Program} {w : World} {A : Around} {R : GenEnd} {Y : Protocol} {n : Nat} {s₀ s : Shared}
theorem seg_start1 {elt tgt iter : Expr} {scope : Scope} {pos : Pos} {cenv : Env} {it : Addr} (self : ∀ (A : Around) (Q : Value → Shared → Prop) (E : Value → Shared → Prop), Q (.ref it) s → wpAny (model prog w) A (pyIter (.ref it)) Q E s)
    (loop : Seg (model prog w) A R Y n s₀ (.compLoop (.GeneratorExp elt [⟨tgt, iter, [], 0⟩] scope pos) 0 (.ref it) .none cenv) ((model prog w).den (.compLoop (.GeneratorExp elt [⟨tgt, iter, [], 0⟩] scope pos) 0 (.ref it) .none cenv)) [] s) :
    Seg (model prog w) A R Y n s₀ (.compStart (.GeneratorExp elt [⟨tgt, iter, [], 0⟩] scope pos) 0 (.ref it) .none cenv) ((model prog w).den (.compStart (.GeneratorExp elt [⟨tgt, iter, [], 0⟩] scope pos) 0 (.ref it) .none cenv)) [] s := by
  show Seg _ A _ _ _ s₀ _ ((compStart (.GeneratorExp elt [⟨tgt, iter, [], 0⟩] scope pos) 0 (.ref it) .none cenv).onRaise (leaving cenv)) [] s
  unfold compStart
  rw [Sem.onRaise_eq_wrap]
  show Seg _ A _ _ _ s₀ _ ((ask >>= _).wrap _ _ _ _) [] s
  refine seg_bind_wrap (wpAny_askSetting ?_)
  split
  · exact seg_again rfl loop
  · first
      | exact seg_bind_wrap (wpAny_rule (seg_bind_wrap (wpAny_standAt (seg_bind_wrap (self _ _ _ (seg_again rfl loop))))))
      | (refine seg_bind_wrap (wpAny_rule ?_); show Seg _ _ _ _ _ s₀ _ ((standAt iter.pos >>= _).wrap _ _ _ _) [] s; exact seg_bind_wrap (wpAny_standAt (seg_bind_wrap (self _ _ _ (seg_again rfl loop)))))
end
/-- the around within a generator expression's frame -/
abbrev gA (A : Around) (e : Expr) (it : Addr) (cenv : Env) : Around := A.in1.in1.over (.compLoop e 0 (.ref it) .none cenv) []
theorem gA_hd {A : Around} {e : Expr} {it : Addr} {cenv : Env} : (gA A e it cenv).handled = A.handled := rfl
theorem gA_frames {A : Around} {elt : Expr} {gs : List Comprehension} {scope : Scope} {pos : Pos} {it : Addr} {cenv : Env} {l : List Env} (h : A.frames = some l) : (gA A (.GeneratorExp elt gs scope pos) it cenv).frames = some (cenv :: l) := by
  show pushEnvs [cenv] (pushEnvs [] A.frames) = _
  rw [h]; rfl
theorem gA_room {A : Around} {elt : Expr} {gs : List Comprehension} {scope : Scope} {pos : Pos} {it : Addr} {cenv : Env} {k : Nat} (h : Room (k + 1) A) : Room k (gA A (.GeneratorExp elt gs scope pos) it cenv) := by
  refine ⟨h.hd, ?_, ?_⟩
  · show A.depth + 0 + 1 + 3 * k + 5 < recursionLimit
    have := h.dp
    omega
  · show A.units + 1 + 1 + 0 + 3 + 16 * k + 200 < cLine
    have := h.un
    omega
/-- the context within -/
abbrev gcx (X : Cx) (e : Expr) (scope : Scope) (it : Addr) (s : Shared) (H : Hp) (code : Value) (fp : List Addr) : Cx :=
  gx X (gA X.A e it (genEnv scope (cloFrom X.env.cells scope.names []) s.heap.objs.size code builtinsNs X.env)) s H (genEnv scope (cloFrom X.env.cells scope.names []) s.heap.objs.size code builtinsNs X.env) fp
def tGen1 (P : Addr) (all : Bool) (wi : TI) (tg : TG) (te : TE) (vs : List Nat) : TE := fun σ H Q => wi σ H fun J H1 => TabG H1 P ∧ ∀ H2, Tabbed P H1 H2 → ∃ W : Nat → Nat → Hp → Prop, (∃ m, W 0 m H2) ∧ Turn1 J tg te vs σ all Q W
section
variable {X : Cx} {k : Nat} {c P : Addr} {elt tgt iter : Expr} {scope : Scope} {own : List (Str × Nat)} {p pos gpos : Pos} {wi : TI} {tg : TG} {te : TE}
theorem pe_all1 (hN : X.N.Nodup) (hr : Room k X.A) (hg : Gl X "all") (hm : X.mg "all" = none) (TB : GxR.TabB X.base X.mg c P) (hcode : X.env.code = .ref c) (G : GenOk X.N X.env.scope scope own) (hi : PI X tgt iter wi)
    (pg : ∀ it s H code fp, PG (gcx X (.GeneratorExp elt [⟨tgt, iter, [], 0⟩] scope gpos) scope it s H code fp) tgt tg) (pe : ∀ it s H code fp, PE (gcx X (.GeneratorExp elt [⟨tgt, iter, [], 0⟩] scope gpos) scope it s H code fp) elt te)
    (hs : ∀ v, genFold iter X.env v = pure v) : PE X (.Call (.Name "all" p) [.GeneratorExp elt [⟨tgt, iter, [], 0⟩] scope gpos] [] pos) (tGen1 P true wi tg te (own.map (·.2))) := by
  refine ⟨fun pins s σ H Q I h => ?_⟩
  have hdl : X.A.depth < recursionLimit := by have := hr.dp; omega
  have he : starEach [.GeneratorExp elt [⟨tgt, iter, [], 0⟩] scope gpos] X.env = (false, eval (.GeneratorExp elt [⟨tgt, iter, [], 0⟩] scope gpos) X.env) :: starEach [] X.env := by rfl
  refine wpAny_Call_Name_kw (ld_blt I hg hm (show bootBuiltins "all" = some (.builtin "all") by kernel_rfl) ?_)
  refine PyProof.Rows.callWith_builtin1 ?_ he (by rfl)
  rw [he]
  show wpAny _ _ (spliced ((false, eval (.GeneratorExp elt [⟨tgt, iter, [], 0⟩] scope gpos) X.env) :: backTo pos (starEach [] X.env))) _ _ s
  refine Calls.spliced_cons (gen_made (rest := []) hdl hN TB hcode G hi hs I h fun v s5 M => ?_)
  refine Calls.spliced_nil ?_
  obtain ⟨J, H1, H2, s4, it, a, fp, tn, code, g, go, nm, qn, rfl, hR, hT, I4, I5, T, st5, f4, hfa, hgo, hgen, hgs, hJ⟩ := M.ex
  obtain ⟨W, ⟨m0, w0⟩, turn⟩ := hR H2 hT
  refine call_function_tree F.kind_all F.plain_all F.entry_all (F.args_all1 _) ?_
  unfold Builtin.«all»
  refine wpAny_bind (m := oneArg "all" _) (wpAny_pure ?_)
  refine wpAny_bind (wpAny_pyIter_gen hgen ?_)
  refine wpAny_pure ⟨plainId_quiet F.plain_all_loop _, ?_⟩
  refine codeAny_mono (drain_all (Q := Q) hr.hd hdl (m0 + 1) H2 s5 I5 hgen ⟨_, hgs, rfl, ?_⟩) fun r s' hq => ?_
  · have J5 := hJ (gA X.A (.GeneratorExp elt [⟨tgt, iter, [], 0⟩] scope gpos) it (genEnv scope (cloFrom X.env.cells scope.names []) s4.heap.objs.size code builtinsNs X.env)) hr.hd (gA_frames I.ok.frames)
    refine seg_start1 (fun A Q E q => T.self A 0 _ _ _ st5 q) ?_
    refine seg_gen1 rfl rfl I4 T f4 hfa hgo G.co (pg it s4 H2 code fp) (pe it s4 H2 code fp) turn m0 0 H2 _ _ (m0 + 1) (Nat.lt_succ_self _) w0 ?_ st5 fun b hb => (f4 b hb).1
    exact inv_gens J5 (allBare_setGen J5.bare rfl)
  · cases r with
    | error e => exact (show False from hq).elim
    | ok fl =>
      cases fl with
      | ret u => exact hq
      | _ => exact hq
theorem pe_any1 (hN : X.N.Nodup) (hr : Room k X.A) (hg : Gl X "any") (hm : X.mg "any" = none) (TB : GxR.TabB X.base X.mg c P) (hcode : X.env.code = .ref c) (G : GenOk X.N X.env.scope scope own) (hi : PI X tgt iter wi)
    (pg : ∀ it s H code fp, PG (gcx X (.GeneratorExp elt [⟨tgt, iter, [], 0⟩] scope gpos) scope it s H code fp) tgt tg) (pe : ∀ it s H code fp, PE (gcx X (.GeneratorExp elt [⟨tgt, iter, [], 0⟩] scope gpos) scope it s H code fp) elt te)
    (hs : ∀ v, genFold iter X.env v = pure v) : PE X (.Call (.Name "any" p) [.GeneratorExp elt [⟨tgt, iter, [], 0⟩] scope gpos] [] pos) (tGen1 P false wi tg te (own.map (·.2))) := by
  refine ⟨fun pins s σ H Q I h => ?_⟩
  have hdl : X.A.depth < recursionLimit := by have := hr.dp; omega
  have he : starEach [.GeneratorExp elt [⟨tgt, iter, [], 0⟩] scope gpos] X.env = (false, eval (.GeneratorExp elt [⟨tgt, iter, [], 0⟩] scope gpos) X.env) :: starEach [] X.env := by rfl
  refine wpAny_Call_Name_kw (ld_blt I hg hm (show bootBuiltins "any" = some (.builtin "any") by kernel_rfl) ?_)
  refine PyProof.Rows.callWith_builtin1 ?_ he (by rfl)
  rw [he]
  show wpAny _ _ (spliced ((false, eval (.GeneratorExp elt [⟨tgt, iter, [], 0⟩] scope gpos) X.env) :: backTo pos (starEach [] X.env))) _ _ s
  refine Calls.spliced_cons (gen_made (rest := []) hdl hN TB hcode G hi hs I h fun v s5 M => ?_)
  refine Calls.spliced_nil ?_
  obtain ⟨J, H1, H2, s4, it, a, fp, tn, code, g, go, nm, qn, rfl, hR, hT, I4, I5, T, st5, f4, hfa, hgo, hgen, hgs, hJ⟩ := M.ex
  obtain ⟨W, ⟨m0, w0⟩, turn⟩ := hR H2 hT
  refine call_function_tree F.kind_any F.plain_any F.entry_any (F.args_any1 _) ?_
  unfold Builtin.«any»
  refine wpAny_bind (m := oneArg "any" _) (wpAny_pure ?_)
  refine wpAny_bind (wpAny_pyIter_gen hgen ?_)
  refine wpAny_pure ⟨plainId_quiet F.plain_any_loop _, ?_⟩
  refine codeAny_mono (drain_any (Q := Q) hr.hd hdl (m0 + 1) H2 s5 I5 hgen ⟨_, hgs, rfl, ?_⟩) fun r s' hq => ?_
  · have J5 := hJ (gA X.A (.GeneratorExp elt [⟨tgt, iter, [], 0⟩] scope gpos) it (genEnv scope (cloFrom X.env.cells scope.names []) s4.heap.objs.size code builtinsNs X.env)) hr.hd (gA_frames I.ok.frames)
    refine seg_start1 (fun A Q E q => T.self A 0 _ _ _ st5 q) ?_
    refine seg_gen1 rfl rfl I4 T f4 hfa hgo G.co (pg it s4 H2 code fp) (pe it s4 H2 code fp) turn m0 0 H2 _ _ (m0 + 1) (Nat.lt_succ_self _) w0 ?_ st5 fun b hb => (f4 b hb).1
    exact inv_gens J5 (allBare_setGen J5.bare rfl)
  · cases r with
    | error e => exact (show False from hq).elim
    | ok fl =>
      cases fl with
      | ret u => exact hq
      | _ => exact hq
end
end MiG

namespace MiG
open PySem PySem.Spec PyProof.Rows L2 GxR GenW
section
variable {X : Cx} {pins : List (Addr × Obj)} {σ : L2.St} {Q : VK} {a : Addr} {g : Nat} {all : Bool}
/-- the turn of the inner clause -/
def Turn2i (J2 : It) (tg2 : TG) (te : TE) (vs2 : List Nat) (σ2 : L2.St) (all : Bool) (Q : VK) (Out : Nat → Hp → Prop) (W2 : Nat → Nat → Nat → Hp → Prop) : Prop := ∀ i k m H, W2 i k m H →
  (J2.stop i H ∧ Out m H) ∨ (J2.go i H ∧ ∀ x H', J2.yld i H x H' → tg2 x (wipe σ2 vs2) H' fun σ3 H3 => wipe σ3 vs2 = wipe σ2 vs2 ∧ te σ3 H3 fun y H4 => ∃ b, y = .bl b ∧ (b ≠ all → Q (.bl b) H4) ∧ (b = all → ∃ k' m', k' < k ∧ m' < m ∧ W2 (i + 1) k' m' H4))
/-- the turn of a generator expression of two clauses -/
def Turn2 (J : It) (tg : TG) (vs : List Nat) (wi2 : TI) (tg2 : TG) (vs2 : List Nat) (te : TE) (σ : L2.St) (all : Bool) (Q : VK) (W : Nat → Nat → Nat → Hp → Prop) : Prop := ∀ i k m H, W i k m H →
  (J.stop i H ∧ Q (.bl all) H) ∨ (J.go i H ∧ ∀ x H', J.yld i H x H' → tg x (wipe σ vs) H' fun σ2 H2 => wipe σ2 vs = wipe σ vs ∧ wi2 σ2 H2 fun J2 H3 => ∃ W2 : Nat → Nat → Nat → Hp → Prop, (∃ k2, W2 0 k2 m H3) ∧
    Turn2i J2 tg2 te vs2 σ2 all Q (fun m' H' => ∃ k', k' < k ∧ W (i + 1) k' m' H') W2)
abbrev E2 (elt t1 i1 t2 i2 : Expr) (scope : Scope) (pos : Pos) : Expr := .GeneratorExp elt [⟨t1, i1, [], 0⟩, ⟨t2, i2, [], 0⟩] scope pos
/-- the inner clause's loop, over the frames fs -/
theorem seg_in {elt t1 i1 t2 i2 : Expr} {scope : Scope} {pos : Pos} {cenv : Env} {it2 : Addr} {fp fp2 : List Addr} {tn2 : Nat → Heap → Prop} {J2 : It} {s4 : Shared} {H4 : Hp} {go : Obj} {nm qn : Value} {vs2 : List Nat} {σ2 : L2.St} {tg2 : TG} {te : TE} {W2 : Nat → Nat → Nat → Hp → Prop} {Out : Nat → Hp → Prop} {A : Around} {fs : List Frame} {ip : List (Addr × Obj)}
    (hA : X.A.in1.in1.over (.compLoop (E2 elt t1 i1 t2 i2 scope pos) 1 (.ref it2) .none cenv) fs = A) (hsp : splitAtGen fs = none) (hgd : fs.any Frame.guarded = false)
    (T2 : Turn X.prog X.w X.K t2 J2 fp2 it2 tn2) (stat : ∀ {σ' : L2.St} {H' : Hp} {s' : Shared}, Inv (gx X A s4 H4 cenv fp) ip σ' H' s' → (∀ b ∈ fp2, H' b = none) → ∀ b ∈ fp2, FpOk (gx X A s4 H4 cenv fp) ip H' b)
    (hip : (a, go) ∈ ip) (back : ∀ {σ' : L2.St} {H' : Hp} {s' : Shared} {ps : List (Addr × Obj)}, Inv (gx X A s4 H4 cenv fp) ps σ' H' s' → Inv X pins σ H' s')
    (hgo : go.cls = .type "generator" ∧ go.data = .fields #[.int g 0, nm, qn] ∧ go.slots = #[]) (hco : cenv.scope.isCoroutine = false)
    (pg : PG (gx X A s4 H4 cenv fp) t2 tg2) (pe : PE (gx X A s4 H4 cenv fp) elt te) (turn : Turn2i J2 tg2 te vs2 σ2 all Q Out W2)
    (hend : ∀ (n m : Nat) (H : Hp) (s s₀ : Shared), m < n → Out m H → Inv (gx X A s4 H4 cenv fp) ip (wipe σ2 vs2) H s →
      Seg (model X.prog X.w) X.A.in1.in1 (RB X pins σ all Q) (YB X pins σ all Q a g) n s₀ (.compLoop (E2 elt t1 i1 t2 i2 scope pos) 1 (.ref it2) .none cenv) (.pure (.done .next)) fs s) :
    ∀ (k m i : Nat) (H : Hp) (s s₀ : Shared) (n : Nat), m < n → W2 i k m H → Inv (gx X A s4 H4 cenv fp) ip (wipe σ2 vs2) H s → tn2 i s.heap → (∀ b ∈ fp2, H b = none) →
      Seg (model X.prog X.w) X.A.in1.in1 (RB X pins σ all Q) (YB X pins σ all Q a g) n s₀ (.compLoop (E2 elt t1 i1 t2 i2 scope pos) 1 (.ref it2) .none cenv)
        ((model X.prog X.w).den (.compLoop (E2 elt t1 i1 t2 i2 scope pos) 1 (.ref it2) .none cenv)) fs s := by
  intro k
  induction k using Nat.strongRecOn with
  | ind k ih =>
    intro m i H s s₀ n hmn w I st hn
    show Seg _ _ _ _ n s₀ _ ((compTurn (E2 elt t1 i1 t2 i2 scope pos) 1 (.ref it2) .none cenv).onRaise (fun x => do noteFrame x cenv; theTreesLotGoes x)) fs s
    rw [compTurn_g21, Sem.onRaise_eq_wrap]
    refine seg_bind_wrap (wpAny_standAt ?_)
    rcases turn i k m H w with ⟨stop, q⟩ | ⟨gg, step⟩
    · refine seg_bind_wrap ?_
      rw [hA]
      refine wpAny_mono (T2.done (gx X A s4 H4 cenv fp) rfl rfl rfl rfl i ip s _ H (fun _ _ => False) I (stat I hn) st stop) (fun r s6 h6 => ?_) fun _ _ e => e.elim
      obtain ⟨hr, I6⟩ := h6
      subst hr
      exact hend n m H s6 s₀ hmn q I6
    · refine seg_bind_wrap ?_
      rw [hA]
      refine wpAny_mono (T2.item (gx X A s4 H4 cenv fp) rfl rfl rfl rfl i ip s _ H (fun _ _ => False) I (stat I hn) st gg) (fun r s6 h6 => ?_) fun _ _ e => e.elim
      obtain ⟨u, hr, h6⟩ := h6
      subst hr
      refine seg_bind_wrap ?_
      rw [hA]
      refine wpAny_mono h6 (fun _ s7 h7 => ?_) fun _ _ e => e.elim
      obtain ⟨x, H7, I7, r7, y7, st7, n7⟩ := h7
      have I7' := I7.pinned (stat I7 n7) (T2.obj _ _ st7)
      refine seg_bind_wrap ?_
      rw [hA]
      refine wpAny_mono (pg.run _ s7 _ H7 x u _ I7' r7 (step x H7 y7)) (fun _ s8 h8 => ?_) fun _ _ e => e.elim
      obtain ⟨σ8, H8, I8, hw8, q8⟩ := h8
      have hy : ∀ v, yieldOut cenv v = yieldValue v := fun v => by simp only [yieldOut, hco, Bool.false_eq_true, if_false]
      simp only [hy]
      rw [Sem.bind_eq_wrap', Sem.bind_eq_wrap', Sem.wrap_wrap, Sem.wrap_wrap]
      refine seg_wrap ?_
      rw [hA]
      refine wpAny_mono (pe.run _ s8 σ8 H8 _ I8 q8) (fun v s9 h9 => ?_) fun _ _ e => e.elim
      obtain ⟨y, H9, I9, r9, b, rfl, qb, qa⟩ := h9
      obtain rfl : v = .bool b := r9
      obtain ⟨n, rfl⟩ : ∃ k, n = k + 1 := ⟨n - 1, by omega⟩
      have hgen : s9.heap.IsGen a g := ⟨go, nm, qn, (I9.pin (a, go) (List.mem_append_right _ (List.mem_append_left _ hip))).1, hgo.1, hgo.2.1, hgo.2.2⟩
      refine seg_at (seg_yield hsp rfl hgd ⟨b, H9, rfl, back I9, hgen, qb, fun hb s' e1 e2 e3 => ?_⟩)
      obtain ⟨k', m', hk, hm, w'⟩ := qa hb
      have I9' := inv_same I9 e1 e2 e3
      have hl : (wipe σ2 vs2).length = σ8.length := by rw [← hw8, wipe_length]
      have pin' : ∀ b ∈ fp2, ∀ o, s7.heap.get? b = some o → s'.heap.get? b = some o ∧ H9 b = none := fun b hb o e =>
        let z := I9'.pin (b, o) (List.mem_append_right _ (List.mem_append_right _ (mem_pinsAt hb e)))
        ⟨z.1, z.2.1⟩
      refine seg_again rfl (ih k' hk m' (i + 1) H9 s' s' n (by omega) w' ((I9'.unpinned (pins := ip)).weak hl fun j v e => ?_) (T2.keep _ _ _ st7 fun b hb o e => (pin' b hb o e).1) fun b hb => ?_)
      · rw [← hw8] at e
        exact (wipe_some e).1
      · obtain ⟨o, e, _⟩ := T2.obj _ _ st7 b hb
        exact (pin' b hb o e).2
theorem seg_start2 {elt t1 i1 t2 i2 : Expr} {scope : Scope} {pos : Pos} {cenv : Env} {it2 : Addr} {A : Around} {R : GenEnd} {Y : Protocol} {n : Nat} {s₀ s : Shared} {fs : List Frame} {prog : Program} {w : World} (self : ∀ (A : Around) (Q : Value → Shared → Prop) (E : Value → Shared → Prop), Q (.ref it2) s → wpAny (model prog w) A (pyIter (.ref it2)) Q E s)
    (loop : Seg (model prog w) A R Y n s₀ (.compLoop (E2 elt t1 i1 t2 i2 scope pos) 1 (.ref it2) .none cenv) ((model prog w).den (.compLoop (E2 elt t1 i1 t2 i2 scope pos) 1 (.ref it2) .none cenv)) fs s) :
    Seg (model prog w) A R Y n s₀ (.compStart (E2 elt t1 i1 t2 i2 scope pos) 1 (.ref it2) .none cenv) ((model prog w).den (.compStart (E2 elt t1 i1 t2 i2 scope pos) 1 (.ref it2) .none cenv)) fs s := by
  show Seg _ A _ _ _ s₀ _ ((compStart (E2 elt t1 i1 t2 i2 scope pos) 1 (.ref it2) .none cenv).onRaise (fun x => do noteFrame x cenv; standAt theWindowsPlace)) fs s
  unfold compStart
  rw [Sem.onRaise_eq_wrap]
  show Seg _ A _ _ _ s₀ _ ((ask >>= _).wrap _ _ _ _) fs s
  refine seg_bind_wrap (wpAny_askSetting ?_)
  split
  · exact seg_again rfl loop
  · first
      | exact seg_bind_wrap (wpAny_rule (seg_bind_wrap (wpAny_standAt (seg_bind_wrap (self _ _ _ (seg_again rfl loop))))))
      | (refine seg_bind_wrap (wpAny_rule ?_); show Seg _ _ _ _ _ s₀ _ ((standAt i2.pos >>= _).wrap _ _ _ _) fs s; exact seg_bind_wrap (wpAny_standAt (seg_bind_wrap (self _ _ _ (seg_again rfl loop)))))
theorem seg_start20 {elt t1 i1 t2 i2 : Expr} {scope : Scope} {pos : Pos} {cenv : Env} {it : Addr} {A : Around} {R : GenEnd} {Y : Protocol} {n : Nat} {s₀ s : Shared} {prog : Program} {w : World} (self : ∀ (A : Around) (Q : Value → Shared → Prop) (E : Value → Shared → Prop), Q (.ref it) s → wpAny (model prog w) A (pyIter (.ref it)) Q E s)
    (loop : Seg (model prog w) A R Y n s₀ (.compLoop (E2 elt t1 i1 t2 i2 scope pos) 0 (.ref it) .none cenv) ((model prog w).den (.compLoop (E2 elt t1 i1 t2 i2 scope pos) 0 (.ref it) .none cenv)) [] s) :
    Seg (model prog w) A R Y n s₀ (.compStart (E2 elt t1 i1 t2 i2 scope pos) 0 (.ref it) .none cenv) ((model prog w).den (.compStart (E2 elt t1 i1 t2 i2 scope pos) 0 (.ref it) .none cenv)) [] s := by
  show Seg _ A _ _ _ s₀ _ ((compStart (E2 elt t1 i1 t2 i2 scope pos) 0 (.ref it) .none cenv).onRaise (leaving cenv)) [] s
  unfold compStart
  rw [Sem.onRaise_eq_wrap]
  show Seg _ A _ _ _ s₀ _ ((ask >>= _).wrap _ _ _ _) [] s
  refine seg_bind_wrap (wpAny_askSetting ?_)
  split
  · exact seg_again rfl loop
  · first
      | exact seg_bind_wrap (wpAny_rule (seg_bind_wrap (wpAny_standAt (seg_bind_wrap (self _ _ _ (seg_again rfl loop))))))
      | (refine seg_bind_wrap (wpAny_rule ?_); show Seg _ _ _ _ _ s₀ _ ((standAt i1.pos >>= _).wrap _ _ _ _) [] s; exact seg_bind_wrap (wpAny_standAt (seg_bind_wrap (self _ _ _ (seg_again rfl loop)))))
theorem seg_gen2 {elt t1 i1 t2 i2 : Expr} {scope : Scope} {pos : Pos} {cenv : Env} {it : Addr} {fp : List Addr} {tn : Nat → Heap → Prop} {J : It} {s4 : Shared} {H4 : Hp} {go : Obj} {nm qn : Value} {vs vs2 : List Nat} {tg tg2 : TG} {wi2 : TI} {te : TE} {W : Nat → Nat → Nat → Hp → Prop} {A : Around} {c : Code}
    (hc : c = .compLoop (E2 elt t1 i1 t2 i2 scope pos) 0 (.ref it) .none cenv) (hA : X.A.in1.in1.over (.compLoop (E2 elt t1 i1 t2 i2 scope pos) 0 (.ref it) .none cenv) [] = A)
    (I4 : Inv X pins σ H4 s4) (T : Turn X.prog X.w X.K t1 J fp it tn) (f4 : ∀ b ∈ fp, FpOk X pins H4 b) (hfa : ∀ b ∈ fp, b ≠ a)
    (hgo : go.cls = .type "generator" ∧ go.data = .fields #[.int g 0, nm, qn] ∧ go.slots = #[]) (hco : cenv.scope.isCoroutine = false) (hvs : ∀ v ∈ vs2, v ∈ vs)
    (pg : PG (gx X A s4 H4 cenv fp) t1 tg) (pi2 : PI (gx X A s4 H4 cenv fp) t2 i2 wi2) (hs2 : ∀ x, foldedSetIterable i2 cenv x = pure x) (pg2 : PG (gx X A s4 H4 cenv fp) t2 tg2) (pe : PE (gx X A s4 H4 cenv fp) elt te) (turn : Turn2 J tg vs wi2 tg2 vs2 te σ all Q W) :
    ∀ (k m i : Nat) (H : Hp) (s s₀ : Shared) (n : Nat), m < n → W i k m H → Inv (gx X A s4 H4 cenv fp) [(a, go)] (wipe σ vs) H s → tn i s.heap → (∀ b ∈ fp, H b = none) →
      Seg (model X.prog X.w) X.A.in1.in1 (RB X pins σ all Q) (YB X pins σ all Q a g) n s₀ c ((model X.prog X.w).den c) [] s := by
  subst hc
  have back : ∀ {σ' : L2.St} {H' : Hp} {s' : Shared} {ps : List (Addr × Obj)}, Inv (gx X A s4 H4 cenv fp) ps σ' H' s' → Inv X pins σ H' s' := fun {σ' H' s' ps} I' =>
    I4.call' (ch := fp) I'.os I'.base I'.hok I'.bare fun b hb => ⟨(f4 b hb).2.2.2.1, (f4 b hb).2.1, (f4 b hb).2.2.2.2.1, (f4 b hb).2.2.2.2.2⟩
  have stat : ∀ {σ' : L2.St} {H' : Hp} {s' : Shared}, Inv (gx X A s4 H4 cenv fp) [(a, go)] σ' H' s' → (∀ b ∈ fp, H' b = none) → ∀ b ∈ fp, FpOk (gx X A s4 H4 cenv fp) [(a, go)] H' b := fun {σ' H' s'} I' hn b hb =>
    ⟨hn b hb, (I'.ok.exf b hb).1, I'.ok.exfs b hb, .inl hb, fun x c e => (I'.ok.exf b hb).2 x c e, fun p hp => by
      rcases List.mem_append.mp hp with z | z
      · cases z
      · rw [List.mem_singleton.mp z]; exact fun q => hfa b hb q.symm⟩
  intro k
  induction k using Nat.strongRecOn with
  | ind k ih =>
    intro m i H s s₀ n hmn w I st hn
    show Seg _ _ _ _ n s₀ _ ((compTurn (E2 elt t1 i1 t2 i2 scope pos) 0 (.ref it) .none cenv).onRaise (leaving cenv)) [] s
    rw [compTurn_g20, Sem.onRaise_eq_wrap]
    refine seg_bind_wrap (wpAny_standAt ?_)
    rcases turn i k m H w with ⟨stop, q⟩ | ⟨gg, step⟩
    · refine seg_bind_wrap ?_
      rw [hA]
      refine wpAny_mono (T.done (gx X A s4 H4 cenv fp) rfl rfl rfl rfl i [(a, go)] s _ H (fun _ _ => False) I (stat I hn) st stop) (fun r s6 h6 => ?_) fun _ _ e => e.elim
      obtain ⟨hr, I6⟩ := h6
      subst hr
      exact seg_end (.ok .next) (.inl ⟨.inr rfl, H, back I6, q⟩)
    · refine seg_bind_wrap ?_
      rw [hA]
      refine wpAny_mono (T.item (gx X A s4 H4 cenv fp) rfl rfl rfl rfl i [(a, go)] s _ H (fun _ _ => False) I (stat I hn) st gg) (fun r s6 h6 => ?_) fun _ _ e => e.elim
      obtain ⟨u, hr, h6⟩ := h6
      subst hr
      refine seg_bind_wrap ?_
      rw [hA]
      refine wpAny_mono h6 (fun _ s7 h7 => ?_) fun _ _ e => e.elim
      obtain ⟨x, H7, I7, r7, y7, st7, n7⟩ := h7
      have I7' := I7.pinned (stat I7 n7) (T.obj _ _ st7)
      refine seg_bind_wrap ?_
      rw [hA]
      refine wpAny_mono (pg.run _ s7 _ H7 x u _ I7' r7 (step x H7 y7)) (fun _ s8 h8 => ?_) fun _ _ e => e.elim
      obtain ⟨σ8, H8, I8, hw8, q8⟩ := h8
      refine seg_bind_wrap ?_
      rw [hA]
      refine wpAny_mono (pi2.run _ s8 σ8 H8 _ I8 q8) (fun v s9 h9 => ?_) fun _ _ e => e.elim
      refine seg_bind_wrap (wpAny_standAt ?_)
      refine seg_bind_wrap (wpAny_of_eq (hs2 v) ?_)
      refine seg_bind_wrap (wpAny_holding ?_)
      rw [hA]
      refine wpAny_mono h9 (fun itv s10 h10 => ?_) fun _ _ e => e.elim
      obtain ⟨it2, fp2, tn2, J2, H10, rfl, I10, T2, st10, f10, W2, ⟨k2, w2⟩, turn2⟩ := h10
      -- the inner loop
      rw [Sem.bind_eq_wrap', Sem.wrap_wrap]
      refine seg_call fun p => ?_
      refine seg_start2 (fun A Q E q => T2.self A 0 _ _ _ st10 q) ?_
      have hover : ∀ fr : Frame, (∃ kk l, fr = .ret kk none false l (.compLoop (E2 elt t1 i1 t2 i2 scope pos) 0 (.ref it) .none cenv) p []) → X.A.in1.in1.over (.compLoop (E2 elt t1 i1 t2 i2 scope pos) 1 (.ref it2) .none cenv) [fr] = A := by
        rintro fr ⟨kk, l, rfl⟩
        rw [over_loop (c := .compLoop (E2 elt t1 i1 t2 i2 scope pos) 0 (.ref it) .none cenv) (fs := []) rfl rfl]
        exact hA
      have pin8 : ∀ {σ' : L2.St} {H' : Hp} {s' : Shared}, Inv (gx X A s4 H4 cenv fp) ([(a, go)] ++ pinsAt fp s7.heap) σ' H' s' → ∀ b ∈ fp, ∀ o, s7.heap.get? b = some o → s'.heap.get? b = some o ∧ H' b = none := fun {σ' H' s'} I' b hb o e =>
        let z := I'.pin (b, o) (List.mem_append_right _ (List.mem_append_right _ (mem_pinsAt hb e)))
        ⟨z.1, z.2.1⟩
      refine seg_in (ip := [(a, go)] ++ pinsAt fp s7.heap) (Out := fun m' H' => ∃ k', k' < k ∧ W (i + 1) k' m' H') (hover _ ⟨_, _, rfl⟩) rfl rfl T2 (fun {σ' H' s'} I' hn' b hb => ⟨hn' b hb, (f10 b hb).2⟩) (List.mem_append_left _ (List.mem_singleton.mpr rfl)) back hgo hco pg2 pe turn2 ?_ k2 m 0 H10 s10 _ n hmn w2 ?_ st10 fun b hb => (f10 b hb).1
      · intro n' m' H' s' s₀' hm' hout I'
        obtain ⟨k', hk, w'⟩ := hout
        refine seg_leaf (.ok .next) ?_
        have hl : (wipe σ vs).length = (wipe σ8 vs2).length := by rw [← hw8, wipe_length, wipe_length]
        refine seg_again rfl (ih k' hk m' (i + 1) H' s' _ n' hm' w' ((I'.unpinned (pins := [(a, go)])).weak hl fun j v e => ?_) (T.keep _ _ _ st7 fun b hb o e => (pin8 I' b hb o e).1) fun b hb => ?_)
        · rw [← hw8] at e
          obtain ⟨e1, e2⟩ := wipe_some e
          rw [wipe_out (fun q => e2 (hvs j q))]
          exact e1
        · obtain ⟨o, e, _⟩ := T.obj _ _ st7 b hb
          exact (pin8 I' b hb o e).2
      · exact I10.weak (by rw [wipe_length]) fun j v e => (wipe_some e).1
end
end MiG

namespace MiG
open PySem PySem.Spec PyProof.Rows L2 GxR GenW
def tGen2 (P : Addr) (all : Bool) (wi : TI) (tg : TG) (vs : List Nat) (wi2 : TI) (tg2 : TG) (vs2 : List Nat) (te : TE) : TE := fun σ H Q => wi σ H fun J H1 => TabG H1 P ∧ ∀ H2, Tabbed P H1 H2 → ∃ W : Nat → Nat → Nat → Hp → Prop, (∃ k m, W 0 k m H2) ∧ Turn2 J tg vs wi2 tg2 vs2 te σ all Q W
section
variable {X : Cx} {k : Nat} {c P : Addr} {elt t1 i1 t2 i2 : Expr} {scope : Scope} {own : List (Str × Nat)} {vs2 : List Nat} {p pos gpos : Pos} {wi wi2 : TI} {tg tg2 : TG} {te : TE}
theorem pe_all2 (hN : X.N.Nodup) (hr : Room k X.A) (hg : Gl X "all") (hm : X.mg "all" = none) (TB : GxR.TabB X.base X.mg c P) (hcode : X.env.code = .ref c) (G : GenOk X.N X.env.scope scope own) (hvs : ∀ v ∈ vs2, v ∈ own.map (·.2)) (hi : PI X t1 i1 wi)
    (pg : ∀ it s H code fp, PG (gcx X (E2 elt t1 i1 t2 i2 scope gpos) scope it s H code fp) t1 tg) (pi2 : ∀ it s H code fp, PI (gcx X (E2 elt t1 i1 t2 i2 scope gpos) scope it s H code fp) t2 i2 wi2)
    (hs2 : ∀ cenv x, foldedSetIterable i2 cenv x = pure x) (pg2 : ∀ it s H code fp, PG (gcx X (E2 elt t1 i1 t2 i2 scope gpos) scope it s H code fp) t2 tg2)
    (pe : ∀ it s H code fp, PE (gcx X (E2 elt t1 i1 t2 i2 scope gpos) scope it s H code fp) elt te)
    (hs : ∀ v, genFold i1 X.env v = pure v) : PE X (.Call (.Name "all" p) [E2 elt t1 i1 t2 i2 scope gpos] [] pos) (tGen2 P true wi tg (own.map (·.2)) wi2 tg2 vs2 te) := by
  refine ⟨fun pins s σ H Q I h => ?_⟩
  have hdl : X.A.depth < recursionLimit := by have := hr.dp; omega
  have he : starEach [E2 elt t1 i1 t2 i2 scope gpos] X.env = (false, eval (E2 elt t1 i1 t2 i2 scope gpos) X.env) :: starEach [] X.env := by rfl
  refine wpAny_Call_Name_kw (ld_blt I hg hm (show bootBuiltins "all" = some (.builtin "all") by kernel_rfl) ?_)
  refine PyProof.Rows.callWith_builtin1 ?_ he (by rfl)
  rw [he]
  show wpAny _ _ (spliced ((false, eval (E2 elt t1 i1 t2 i2 scope gpos) X.env) :: backTo pos (starEach [] X.env))) _ _ s
  refine Calls.spliced_cons (gen_made (rest := [⟨t2, i2, [], 0⟩]) hdl hN TB hcode G hi hs I h fun v s5 M => ?_)
  refine Calls.spliced_nil ?_
  obtain ⟨J, H1, H2, s4, it, a, fp, tn, code, g, go, nm, qn, rfl, hR, hT, I4, I5, T, st5, f4, hfa, hgo, hgen, hgs, hJ⟩ := M.ex
  obtain ⟨W, ⟨k0, m0, w0⟩, turn⟩ := hR H2 hT
  refine call_function_tree F.kind_all F.plain_all F.entry_all (F.args_all1 _) ?_
  unfold Builtin.«all»
  refine wpAny_bind (m := oneArg "all" _) (wpAny_pure ?_)
  refine wpAny_bind (wpAny_pyIter_gen hgen ?_)
  refine wpAny_pure ⟨plainId_quiet F.plain_all_loop _, ?_⟩
  refine codeAny_mono (drain_all (Q := Q) hr.hd hdl (m0 + 1) H2 s5 I5 hgen ⟨_, hgs, rfl, ?_⟩) fun r s' hq => ?_
  · have J5 := hJ (gA X.A (E2 elt t1 i1 t2 i2 scope gpos) it (genEnv scope (cloFrom X.env.cells scope.names []) s4.heap.objs.size code builtinsNs X.env)) hr.hd (gA_frames I.ok.frames)
    refine seg_start20 (fun A Q E q => T.self A 0 _ _ _ st5 q) ?_
    refine seg_gen2 rfl rfl I4 T f4 hfa hgo G.co hvs (pg it s4 H2 code fp) (pi2 it s4 H2 code fp) (hs2 _) (pg2 it s4 H2 code fp) (pe it s4 H2 code fp) turn k0 m0 0 H2 _ _ (m0 + 1) (Nat.lt_succ_self _) w0 ?_ st5 fun b hb => (f4 b hb).1
    exact inv_gens J5 (allBare_setGen J5.bare rfl)
  · cases r with
    | error e => exact (show False from hq).elim
    | ok fl =>
      cases fl with
      | ret u => exact hq
      | _ => exact hq
end
end MiG

namespace MiS
open PySem PySem.Spec PyProof.Rows L2 Mi MiG GxR
variable [Tb]
section
variable {X : Cx} {C : Cn} {W : Wish} {K : PySem.W.Frag}
theorem wipe_idem {own : List Nat} {σ : L2.St} : wipe (wipe σ own) own = wipe σ own := by
  refine List.ext_getElem? fun j => ?_
  by_cases hj : j ∈ own
  · have : ∀ (vs : List Nat) (σ : L2.St), j ∈ vs → (wipe σ vs)[j]? = if j < σ.length then some none else none := by
      intro vs σ
      induction vs with
      | nil => intro h; cases h
      | cons v vs ih =>
        intro h
        show ((wipe σ vs).set v none)[j]? = _
        by_cases hv : v = j
        · subst hv
          by_cases hl : v < σ.length
          · rw [List.getElem?_set_self (by rw [wipe_length]; exact hl), if_pos hl]
          · rw [if_neg hl, List.getElem?_eq_none (by rw [List.length_set, wipe_length]; omega)]
        · rw [List.getElem?_set_ne hv]
          rcases List.mem_cons.mp h with e | h
          · exact absurd e.symm hv
          · exact ih h
    rw [this own _ hj, this own _ hj, wipe_length]
  · rw [wipe_out hj]
/-- a def's table of code objects has grown -/
theorem SR.tabbed {M : List Addr} {H H2 : Hp} {st : Sto} {P : Addr} (sr : SR K M H st) (hP : Tb.T P) (t : Tabbed P H H2) : Step (Lv M st) H (Lv M st) H2 ∧ SR K M H2 st := by
  obtain ⟨ps, hps, _⟩ := sr.tab P hP
  have ne : ∀ b u, H b = some u → NT u → b ≠ P := fun b u e n q => by subst q; rw [hps] at e; cases e; exact n ps rfl
  have s : Step (Lv M st) H (Lv M st) H2 := ⟨fun b u e n nl => ⟨.inl (by rw [t.2 b (ne b u e n)]; exact e), nl⟩, fun b e => by
    by_cases q : b = P
    · obtain ⟨ps', h', _⟩ := t.1
      rw [q, h']; simp
    · rw [t.2 b q]; exact e⟩
  refine ⟨s, ⟨sr.len, sr.nd, fun n o a h1 h2 => ?_, fun P' hP' => ?_⟩⟩
  · have h := sr.obj n o a h1 h2
    by_cases hd : o = .dead
    · subst hd; exact s.dom a h
    · exact h.mono s fun u e => by rw [t.2 a (fun q => h.nt hd ps (by rw [q]; exact hps))]; exact e
  · by_cases q : P' = P
    · subst q; exact t.1
    · obtain ⟨ps', e', r⟩ := sr.tab P' hP'
      exact ⟨ps', by rw [t.2 P' q]; exact e', r⟩
theorem rv_bool {M : List Addr} {L : Addr → Prop} {H : Hp} {v : V} {b : Bool} (r : RVp K M L H v (.val (.bool b))) : v = .bl b := by
  have r : Rp K L H v (.bool b) := r
  cases r; rfl
/-- an element's test behind its making -/
theorem bool_end {M : List Addr} {H : Hp} {st : Sto} {r : RV} {v : V} {W : Wish} {Q : Bool → List Addr → Sto → Hp → Prop} (sr : SR K M H st) (rv : RVp K M (Lv M st) H v r) (h : PR K M H st (boolV r st) W Q) : ∃ b, v = .bl b ∧ Q b M st H := by
  cases r with
  | ref _ => exact h.elim
  | val d =>
    cases d <;> first
      | exact h.elim
      | skip
    rename_i b
    exact ⟨b, rv_bool rv, PR.here (a := b) sr h⟩
theorem gen_end {all : Bool} {x : Nat} {telt : Mi.T} {M1 : List Addr} {H1 : Hp} {st1 : Sto} {J : L2.It} {xs : List D} {σ : L2.St} {env : En} {Q : VK} {P : Addr} (hP : Tb.T P) (w : Walks K M1 H1 st1 J xs) (er : ER K M1 (Lv M1 st1) H1 env σ) (sr : SR K M1 H1 st1)
    (h : PR K M1 H1 st1 (loopG all (fun d st => (ev C telt ((wipeE env [x]).set x (some (.val d))) st).bind boolV) xs st1) Wno (fun r M st H => PR K M H st (.ok (.val (.bool (r.getD all))) st) W (QV K Q))) :
    TabG H1 P ∧ ∀ H2, Tabbed P H1 H2 → ∃ Wm : Nat → Nat → Hp → Prop, (∃ m, Wm 0 m H2) ∧ Turn1 J (tGw K C Wno [x] (.tname x)) (tE K C Wno telt) [x] σ all Q Wm := by
  refine ⟨sr.tab P hP, fun H2 ht => ?_⟩
  obtain ⟨s0, sr0⟩ := sr.tabbed hP ht
  refine ⟨fun i m H => i + m = xs.length ∧ ∃ M st, M1 <+: M ∧ Step (Lv M1 st1) H1 (Lv M st) H ∧ SR K M H st ∧ PR K M H st (loopG all (fun d st => (ev C telt ((wipeE env [x]).set x (some (.val d))) st).bind boolV) (xs.drop i) st) Wno (fun r M st H => PR K M H st (.ok (.val (.bool (r.getD all))) st) W (QV K Q)),
    ⟨xs.length, by omega, M1, st1, List.prefix_refl _, s0, sr0, by rw [List.drop_zero]; exact h.pre (List.prefix_refl _) s0⟩, ?_⟩
  rintro i m H ⟨hm, M, st, p, s, sr2, h⟩
  obtain ⟨go, stop⟩ := w M H st p s sr2
  cases m with
  | zero =>
    have hi : i = xs.length := by omega
    subst hi
    rw [List.drop_length, loopG] at h
    exact .inl ⟨stop, PR.here (a := RV.val (.bool all)) sr2 (PR.here (a := (none : Option Bool)) sr2 h) _ (.bl all)⟩
  | succ m =>
    have hi : i < xs.length := by omega
    obtain ⟨g1, g2⟩ := go i xs[i] (List.getElem?_eq_getElem hi)
    rw [List.drop_eq_getElem_cons hi, loopG] at h
    refine .inr ⟨g1, fun v H' y => ?_⟩
    obtain ⟨sr3, s3, rx⟩ := g2 v H' y
    have er3 := er.mono p (s.trans s3)
    have h3 := h.pre (List.prefix_refl _) s3
    refine ⟨M, wipeE env [x], st, .val xs[i], er3.wipe2 [x], sr3, rx, ?_⟩
    rw [asgn]
    intro M4 H4 p4 sr4 s4 σ4 er4 ew
    refine ⟨ew.trans wipe_idem, M4, _, st, er4, sr4, (PR.bind (PR.bind (h3.pre p4 s4))).imp fun r M5 st5 H5 p5 sr5 s5 h5 u ru => ?_⟩
    obtain ⟨b, rfl, h6⟩ := bool_end sr5 ru h5
    refine ⟨b, rfl, fun ne => ?_, fun e => ⟨m, Nat.lt_succ_self m, by omega, M5, st5, (p.trans p4).trans p5, ((s.trans s3).trans s4).trans s5, sr5, ?_⟩⟩
    · rw [if_neg ne] at h6
      exact PR.here (a := RV.val (.bool b)) sr5 (PR.here (a := some b) sr5 h6) _ (.bl b)
    · rw [if_pos e] at h6
      exact h6
theorem co_gen {all : Bool} {x : Nat} {tit telt : Mi.T} {P : Addr} (hP : Tb.T P) {σ : L2.St} {H : Hp} {Q : VK} (h : tE K C W (.gen all x tit telt) σ H Q) :
    tGen1 P all (iSeq K (tE K C W tit)) (tGw K C Wno [x] (.tname x)) (tE K C Wno telt) [x] σ H Q := by
  obtain ⟨M, env, st, er, sr, h⟩ := h
  rw [ev] at h
  refine ⟨M, env, st, er, sr, (PR.bind h).imp fun r M1 st1 H1 p1 sr1 s1 h v rv => ?_⟩
  have er1 := er.mono p1 s1
  cases r with
  | ref _ => exact h.elim
  | val d =>
    have rv : Rp K (Lv M1 st1) H1 v d := rv
    cases d <;> first
      | exact h.elim
      | skip
    · cases rv with
      | str y => exact .inr (.inr ⟨_, rfl, gen_end hP (walks_str _) er1 sr1 (PR.calm (PR.bind h))⟩)
    · cases rv with
      | lst nl ra rl => exact .inl ⟨_, rfl, ⟨_, .inl ra⟩, gen_end hP (walks_list nl ra rl) er1 sr1 (PR.calm (PR.bind h))⟩
    · cases rv with
      | tup nl ra rl => exact .inr (.inl ⟨_, rfl, ⟨_, .inl (.inl ra)⟩, gen_end hP (walks_tup nl ra rl) er1 sr1 (PR.calm (PR.bind h))⟩)
/-! two clauses -/
abbrev inG (C : Cn) (all : Bool) (y : Nat) (telt : Mi.T) (env1 : En) : D → Sto → R Bool := fun e st => (ev C telt ((wipeE env1 [y]).set y (some (.val e))) st).bind boolV
abbrev outG (C : Cn) (all : Bool) (x y : Nat) (tit2 telt : Mi.T) (env : En) : D → Sto → R (Option Bool) := fun d st => (ev C tit2 ((wipeE env [x, y]).set x (some (.val d))) st).bind fun v st => (match v with
          | .val e => (match walk .plain [e] with
            | some ys => if sizeOk ys.length then loopG all (fun e st => (ev C telt ((wipeE ((wipeE env [x, y]).set x (some (.val d))) [y]).set y (some (.val e))) st).bind boolV) ys st else .bad
            | none => .bad)
          | .ref _ => .bad)
theorem gen2_in {all : Bool} {y k : Nat} {telt : Mi.T} {M1 : List Addr} {H1 : Hp} {st1 : Sto} {J : L2.It} {ys : List D} {σ : L2.St} {env : En} {Q : VK} {m : Nat} {rest : Sto → R (Option Bool)} {Out : Nat → Hp → Prop} {cont : Option Bool → List Addr → Sto → Hp → Prop} (hsz : sizeOk ys.length = true) (w : Walks K M1 H1 st1 J ys) (er : ER K M1 (Lv M1 st1) H1 env σ) (sr : SR K M1 H1 st1) (hm0 : k * 16777217 + 16777217 ≤ m)
    (hout : ∀ (m' : Nat) (M : List Addr) (st : Sto) (H : Hp), k * 16777217 ≤ m' → M1 <+: M → Step (Lv M1 st1) H1 (Lv M st) H → SR K M H st → PR K M H st (rest st) Wno cont → Out m' H)
    (hq : ∀ (b : Bool) (M : List Addr) (st : Sto) (H : Hp), SR K M H st → PR K M H st (.ok (some b) st) Wno cont → Q (.bl b) H)
    (h : PR K M1 H1 st1 (loopG all (fun e st => (ev C telt ((wipeE env [y]).set y (some (.val e))) st).bind boolV) ys st1) Wno (fun t M st H => PR K M H st (match t with
      | none => rest st
      | some t => .ok (some t) st) Wno cont)) :
    ∃ W2 : Nat → Nat → Nat → Hp → Prop, (∃ k2, W2 0 k2 m H1) ∧ Turn2i J (tGw K C Wno [y] (.tname y)) (tE K C Wno telt) [y] σ all Q Out W2 := by
  have hl : ys.length ≤ 16777216 := of_decide_eq_true hsz
  refine ⟨fun i k2 m2 H => i + k2 = ys.length ∧ k * 16777217 + k2 ≤ m2 ∧ ∃ M st, M1 <+: M ∧ Step (Lv M1 st1) H1 (Lv M st) H ∧ SR K M H st ∧ PR K M H st (loopG all (fun e st => (ev C telt ((wipeE env [y]).set y (some (.val e))) st).bind boolV) (ys.drop i) st) Wno (fun t M st H => PR K M H st (match t with
      | none => rest st
      | some t => .ok (some t) st) Wno cont),
    ⟨ys.length, by omega, by omega, M1, st1, List.prefix_refl _, Step.refl, sr, by rw [List.drop_zero]; exact h⟩, ?_⟩
  rintro i k2 m2 H ⟨hk, hm, M, st, p, s, sr2, h⟩
  obtain ⟨go, stop⟩ := w M H st p s sr2
  cases k2 with
  | zero =>
    have hi : i = ys.length := by omega
    subst hi
    rw [List.drop_length, loopG] at h
    exact .inl ⟨stop, hout m2 M st H (Nat.le_trans (Nat.le_add_right _ _) hm) p s sr2 (PR.here (a := (none : Option Bool)) sr2 h)⟩
  | succ k2 =>
    have hi : i < ys.length := by omega
    obtain ⟨g1, g2⟩ := go i ys[i] (List.getElem?_eq_getElem hi)
    rw [List.drop_eq_getElem_cons hi, loopG] at h
    refine .inr ⟨g1, fun v H' yy => ?_⟩
    obtain ⟨sr3, s3, rx⟩ := g2 v H' yy
    have er3 := er.mono p (s.trans s3)
    have h3 := h.pre (List.prefix_refl _) s3
    refine ⟨M, wipeE env [y], st, .val ys[i], er3.wipe2 [y], sr3, rx, ?_⟩
    rw [asgn]
    intro M4 H4 p4 sr4 s4 σ4 er4 ew
    refine ⟨ew.trans wipe_idem, M4, _, st, er4, sr4, (PR.bind (PR.bind (h3.pre p4 s4))).imp fun r M5 st5 H5 p5 sr5 s5 h5 u ru => ?_⟩
    obtain ⟨b, rfl, h6⟩ := bool_end sr5 ru h5
    refine ⟨b, rfl, fun ne => ?_, fun e => ⟨k2, m2 - 1, by omega, by omega, by omega, by omega, M5, st5, (p.trans p4).trans p5, ((s.trans s3).trans s4).trans s5, sr5, ?_⟩⟩
    · rw [if_neg ne] at h6
      exact hq b M5 st5 H5 sr5 (PR.here (a := some b) sr5 h6)
    · rw [if_pos e] at h6
      exact h6
theorem gen2_end {all : Bool} {x y : Nat} {tit2 telt : Mi.T} {M1 : List Addr} {H1 : Hp} {st1 : Sto} {J : L2.It} {xs : List D} {σ : L2.St} {env : En} {Q : VK} {P : Addr} (hP : Tb.T P) (w : Walks K M1 H1 st1 J xs) (er : ER K M1 (Lv M1 st1) H1 env σ) (sr : SR K M1 H1 st1)
    (h : PR K M1 H1 st1 (loopG2 (outG C all x y tit2 telt env) xs st1) Wno (fun r M st H => PR K M H st (.ok (.val (.bool (r.getD all))) st) W (QV K Q))) :
    TabG H1 P ∧ ∀ H2, Tabbed P H1 H2 → ∃ Wm : Nat → Nat → Nat → Hp → Prop, (∃ k m, Wm 0 k m H2) ∧ Turn2 J (tGw K C Wno [x, y] (.tname x)) [x, y] (iSeq K (tE K C Wno tit2)) (tGw K C Wno [y] (.tname y)) [y] (tE K C Wno telt) σ all Q Wm := by
  refine ⟨sr.tab P hP, fun H2 ht => ?_⟩
  obtain ⟨s0, sr0⟩ := sr.tabbed hP ht
  refine ⟨fun i k m H => i + k = xs.length ∧ k * 16777217 ≤ m ∧ ∃ M st, M1 <+: M ∧ Step (Lv M1 st1) H1 (Lv M st) H ∧ SR K M H st ∧ PR K M H st (loopG2 (outG C all x y tit2 telt env) (xs.drop i) st) Wno (fun r M st H => PR K M H st (.ok (.val (.bool (r.getD all))) st) W (QV K Q)),
    ⟨xs.length, xs.length * 16777217, by omega, Nat.le_refl _, M1, st1, List.prefix_refl _, s0, sr0, by rw [List.drop_zero]; exact h.pre (List.prefix_refl _) s0⟩, ?_⟩
  rintro i k m H ⟨hk, hm, M, st, p, s, sr2, h⟩
  obtain ⟨go, stop⟩ := w M H st p s sr2
  cases k with
  | zero =>
    have hi : i = xs.length := by omega
    subst hi
    rw [List.drop_length, loopG2] at h
    exact .inl ⟨stop, PR.here (a := RV.val (.bool all)) sr2 (PR.here (a := (none : Option Bool)) sr2 h) _ (.bl all)⟩
  | succ k =>
    have hi : i < xs.length := by omega
    obtain ⟨g1, g2⟩ := go i xs[i] (List.getElem?_eq_getElem hi)
    rw [List.drop_eq_getElem_cons hi, loopG2] at h
    refine .inr ⟨g1, fun v H' yy => ?_⟩
    obtain ⟨sr3, s3, rx⟩ := g2 v H' yy
    have er3 := er.mono p (s.trans s3)
    have h3 := h.pre (List.prefix_refl _) s3
    refine ⟨M, wipeE env [x, y], st, .val xs[i], er3.wipe2 [x, y], sr3, rx, ?_⟩
    rw [asgn]
    intro M4 H4 p4 sr4 s4 σ4 er4 ew
    refine ⟨ew.trans wipe_idem, M4, _, st, er4, sr4, (PR.bind (PR.bind (h3.pre p4 s4))).imp fun r M5 st5 H5 p5 sr5 s5 h5 u ru => ?_⟩
    cases r with
    | ref _ => exact h5.elim
    | val e =>
      have er5 := er4.mono p5 s5
      have ru : Rp K (Lv M5 st5) H5 u e := ru
      have fin : ∀ {J2 : L2.It} {ys : List D}, Walks K M5 H5 st5 J2 ys → PR K M5 H5 st5 (if sizeOk ys.length then loopG all (fun e st => (ev C telt ((wipeE ((wipeE env [x, y]).set x (some (.val xs[i]))) [y]).set y (some (.val e))) st).bind boolV) ys st5 else .bad) Wno (fun t M st H => PR K M H st (match t with
          | none => loopG2 (outG C all x y tit2 telt env) (xs.drop (i + 1)) st
          | some t => .ok (some t) st) Wno (fun r M st H => PR K M H st (.ok (.val (.bool (r.getD all))) st) W (QV K Q))) →
          ∃ W2 : Nat → Nat → Nat → Hp → Prop, (∃ k2, W2 0 k2 m H5) ∧ Turn2i J2 (tGw K C Wno [y] (.tname y)) (tE K C Wno telt) [y] σ4 all Q (fun m' H' => ∃ k', k' < k + 1 ∧ (i + 1 + k' = xs.length ∧ k' * 16777217 ≤ m' ∧ ∃ M st, M1 <+: M ∧ Step (Lv M1 st1) H1 (Lv M st) H' ∧ SR K M H' st ∧ PR K M H' st (loopG2 (outG C all x y tit2 telt env) (xs.drop (i + 1)) st) Wno (fun r M st H => PR K M H st (.ok (.val (.bool (r.getD all))) st) W (QV K Q)))) W2 := by
        intro J2 ys w2 h9
        cases hsz : sizeOk ys.length with
        | false => rw [hsz] at h9; exact h9.elim
        | true =>
          rw [hsz, if_pos rfl] at h9
          refine gen2_in hsz w2 er5 sr5 (k := k) (by omega) (fun m' M6 st6 H6 hm6 p6 s6 sr6 h6 => ?_) (fun b M6 st6 H6 sr6 h6 => ?_) h9
          · exact ⟨k, Nat.lt_succ_self k, by omega, hm6, M6, st6, ((p.trans p4).trans p5).trans p6, (((s.trans s3).trans s4).trans s5).trans s6, sr6, h6⟩
          · exact PR.here (a := RV.val (.bool b)) sr6 (PR.here (a := some b) sr6 h6) _ (.bl b)
      cases e <;> first
        | exact h5.elim
        | skip
      · cases ru with
        | str y => exact .inr (.inr ⟨_, rfl, fin (walks_str _) h5⟩)
      · cases ru with
        | lst nl ra rl => exact .inl ⟨_, rfl, ⟨_, .inl ra⟩, fin (walks_list nl ra rl) h5⟩
      · cases ru with
        | tup nl ra rl => exact .inr (.inl ⟨_, rfl, ⟨_, .inl (.inl ra)⟩, fin (walks_tup nl ra rl) h5⟩)
theorem co_gen2 {all : Bool} {x y : Nat} {tit tit2 telt : Mi.T} {P : Addr} (hP : Tb.T P) {σ : L2.St} {H : Hp} {Q : VK} (h : tE K C W (.gen2 all x tit y tit2 telt) σ H Q) :
    tGen2 P all (iSeq K (tE K C W tit)) (tGw K C Wno [x, y] (.tname x)) [x, y] (iSeq K (tE K C Wno tit2)) (tGw K C Wno [y] (.tname y)) [y] (tE K C Wno telt) σ H Q := by
  obtain ⟨M, env, st, er, sr, h⟩ := h
  rw [ev] at h
  refine ⟨M, env, st, er, sr, (PR.bind h).imp fun r M1 st1 H1 p1 sr1 s1 h v rv => ?_⟩
  have er1 := er.mono p1 s1
  cases r with
  | ref _ => exact h.elim
  | val d =>
    have rv : Rp K (Lv M1 st1) H1 v d := rv
    cases d <;> first
      | exact h.elim
      | skip
    · cases rv with
      | str y => exact .inr (.inr ⟨_, rfl, gen2_end hP (walks_str _) er1 sr1 (PR.calm (PR.bind h))⟩)
    · cases rv with
      | lst nl ra rl => exact .inl ⟨_, rfl, ⟨_, .inl ra⟩, gen2_end hP (walks_list nl ra rl) er1 sr1 (PR.calm (PR.bind h))⟩
    · cases rv with
      | tup nl ra rl => exact .inr (.inl ⟨_, rfl, ⟨_, .inl (.inl ra)⟩, gen2_end hP (walks_tup nl ra rl) er1 sr1 (PR.calm (PR.bind h))⟩)
end
end MiS

namespace MiS
open PySem PySem.Spec PyProof.Rows L2 Mi MiG
variable [Tb]
/-! ### the checker: a term is that of an expression -/
abbrev Sc := List (Str × NameKind)
/-- the text's global names: its defs (number, parameters, defaults), its constants -/
structure Gb where
  fns : List (Str × Nat)
  con : List (Str × D)
  arity : Nat → Nat × Nat
  tup : List (Str × List D) := []
  exc : List Str := []
  gsc : List (List (Str × NameKind)) := []
/-- a def of the name has the number -/
def fnIn (Γ : Gb) (x : Str) (f : Nat) : Bool := Γ.fns.any fun p => decide (p.1 = x) && decide (p.2 = f)
def isVis (sc : Sc) (x : Str) : Bool := match sc.lookup x with
  | some .local => true
  | some .cell => true
  | some .free => true
  | _ => false
def isLoc (sc : Sc) (x : Str) : Bool := match sc.lookup x with
  | some .local => true
  | some .cell => true
  | _ => false
def isGl (sc : Sc) (x : Str) : Bool := match sc.lookup x with
  | some .globalImplicit => true
  | _ => false
def plainN (x : Str) : Bool := !(x == ("__debug__" : Str)) && !(x == ("__classdict__" : Str))
def varOk (N : List Str) (sc : Sc) (i : Nat) (x : Str) : Bool := decide (N[i]? = some x) && (isVis sc x && plainN x)
def isInt (d : D) (i : Int) : Bool := match d with | .int j => decide (i = j) | _ => false
def isStr (d : D) (x : Str) : Bool := match d with | .str y => decide (x = y) | _ => false
def isBl (d : D) (b : Bool) : Bool := match d with | .bool c => b == c | _ => false
def isNo (d : D) : Bool := match d with | .none => true | _ => false
def conOk (Γ : Gb) (sc : Sc) (x : Str) (d : D) : Bool := isGl sc x && (!(x == ("__debug__" : Str)) && (match Γ.con.lookup x, d with
  | some (.int i), .int j => decide (i = j)
  | some (.str a), .str b => decide (a = b)
  | _, _ => false))
def ixOk : Expr → Bool
  | .Slice .. => false
  | _ => true
/-- the truth of the expression is asked in the plain way -/
def plainT : Expr → Bool
  | .UnaryOp .Not _ _ => false
  | .BoolOp .. => false
  | .IfExp .. => false
  | .Compare .. => false
  | _ => true
def arOk (Γ : Gb) (f k : Nat) : Bool := decide (k = (Γ.arity f).1) || decide (k + (Γ.arity f).2 = (Γ.arity f).1)
def tyOf? (x : Str) : Option Ty := if x = Str.ofString "int" then some .int else if x = Str.ofString "bool" then some .bool else if x = Str.ofString "str" then some .str else if x = Str.ofString "tuple" then some .tuple else if x = Str.ofString "list" then some .list else none
/-- a comprehension's block fits the frame -/
def blkB (N : List Str) (sc : Sc) (scope : Scope) (own : List (Str × Nat)) : Bool :=
  decide (scope.kind = .function) && (scope.names.all (fun y => decide (scope.names.lookup y.1 = some y.2)) && (scope.names.any (fun p => decide (p.1 = (".0" : Str))) && (own.all (fun p => decide (N[p.2]? = some p.1)) &&
    (scope.names.all (fun y => if y.2 = .free then (decide (sc.lookup y.1 = some .cell) || decide (sc.lookup y.1 = some .free)) else true) &&
      scope.names.all (fun y => if y.2 = .local ∨ y.2 = .cell then ((own.map (·.1)).contains y.1 || !N.contains y.1) else true)))))
def ownOf (N : List Str) : List Nat → List (Str × Nat)
  | [] => []
  | i :: r => (N.getD i "", i) :: ownOf N r
def noSet : Expr → Bool
  | .Set .. => false
  | _ => true
def isTup : Expr → Bool
  | .Tuple .. => true
  | _ => false
def isNil : T → Bool
  | .nil => true
  | _ => false
/-- generator expressions may stand here -/
def gens0 (sc : Sc) : Bool := !(sc.any fun p => decide (p.1 = (".0" : Str))) && sc.any fun p => decide (p.2 = .local) || decide (p.2 = .cell)
def gens (Γ : Gb) (sc : Sc) : Bool := (Γ.gsc.any fun s => decide (s = sc)) && gens0 sc
def noLst : Expr → Bool
  | .List .. => false
  | .Set .. => false
  | _ => true
/-- a generator expression's scope fits the frame -/
def genB (N : List Str) (sc : Sc) (scope : Scope) (own : List (Str × Nat)) : Bool :=
  decide (scope.kind = .function) && (!scope.isCoroutine && (decide (scope.names.lookup (".0" : Str) = some .local) && (own.all (fun p => decide (N[p.2]? = some p.1)) &&
    (scope.names.all (fun y => !decide (y.2 = .cell)) && (scope.names.all (fun y => if y.2 = .free then (decide (sc.lookup y.1 = some .cell) || decide (sc.lookup y.1 = some .free)) else true) &&
      scope.names.all (fun y => if y.2 = .local then ((own.map (·.1)).contains y.1 || !N.contains y.1) else true))))))
def gname (all : Bool) : Str := if all then "all" else "any"
def setBi : Bi → Bool
  | .lenset => true
  | .sortset => true
  | _ => false
def isLr : Bi → Bool
  | .lrange => true
  | _ => false
def isSo : Bi → Bool
  | .sorted => true
  | _ => false
/-- nm(a), of a built-in -/
def argOf (nm : Str) (sc : Sc) : Expr → Option Expr
  | .Call (.Name z _) [a] [] _ => if decide (z = nm) && (isGl sc z && nostar a) then some a else none
  | _ => none
def isNilE : List Expr → Bool
  | [] => true
  | _ => false
def isOne : T → Bool
  | .cons _ .nil => true
  | _ => false
def sameDs : List D → List D → Bool
  | [], [] => true
  | .int i :: r, .int j :: t => decide (i = j) && sameDs r t
  | .str x :: r, .str y :: t => decide (x = y) && sameDs r t
  | _, _ => false
def tupOk (Γ : Gb) (sc : Sc) (x : Str) (ds : List D) : Bool := isGl sc x && (!(x == ("__debug__" : Str)) && (match Γ.tup.lookup x with | some es => sameDs es ds | none => false))
mutual
/-- a comprehension's target: its names are among own -/
def chkW (N : List Str) (own : List Nat) : T → Sc → Expr → Bool
  | .tname i, sc, e => (match e with | .Name x _ => decide (N[i]? = some x) && (isLoc sc x && own.contains i) | _ => false)
  | .ttup ts, sc, e => (match e with | .Tuple xs _ _ => chkWs N own ts sc xs | _ => false)
  | _, _, _ => false
termination_by structural t => t
def chkWs (N : List Str) (own : List Nat) : T → Sc → List Expr → Bool
  | .nil, _, xs => xs.isEmpty
  | .cons a b, sc, xs => (match xs with | x :: r => nostar x && (chkW N own a sc x && chkWs N own b sc r) | [] => false)
  | _, _, _ => false
termination_by structural t => t
end
mutual
def chkE (Γ : Gb) (N : List Str) : T → Sc → Expr → Bool
  | .var i, sc, e => (match e with | .Name x _ => varOk N sc i x | _ => false)
  | .mv i, sc, e => (match e with | .Name x _ => varOk N sc i x | _ => false)
  | .lit d, sc, e => (match e with
    | .Constant (.int i) _ _ => isInt d i
    | .Constant (.str x) _ _ => isStr d x
    | .Constant (.bool b) _ _ => isBl d b
    | .Constant .none _ _ => isNo d
    | .Name x _ => conOk Γ sc x d
    | _ => false)
  | .tup es, sc, e => (match e with | .Tuple xs _ _ => chkEs Γ N es sc xs | _ => false)
  | .lst es, sc, e => (match e with | .List xs _ => chkEs Γ N es sc xs | _ => false)
  | .new (.lst es), sc, e => (match e with | .List xs _ => chkEs Γ N es sc xs | _ => false)
  | .new (.bi .ltup es), sc, e => (match e with
    | .Call (.Name x _) (y :: ys) [] _ => decide (x = ("tuple" : Str)) && (isGl sc x && ((y :: ys).all nostar && chkEs Γ N es sc (y :: ys)))
    | _ => false)
  | .new (.op o a b), sc, e => (match e with | .BinOp x p y _ => decide (p = pyOp o) && (chkE Γ N a sc x && chkE Γ N b sc y) | _ => false)
  | .new (.slc a lo hi), sc, e => (match e with | .Subscript x (.Slice l h none _) _ => chkE Γ N a sc x && (chkO Γ N lo sc l && chkO Γ N hi sc h) | _ => false)
  | .new (.bi .list es), sc, e => (match e with
    | .Call (.Name x _) (y :: ys) [] _ => decide (x = biN .list) && (isGl sc x && ((y :: ys).all nostar && chkEs Γ N es sc (y :: ys)))
    | _ => false)
  | .dic .nil, sc, e => (match e with | .Dict [] [] _ => true | _ => false)
  | .dic (.cons k (.cons v .nil)), sc, e => (match e with | .Dict [some a] [b] _ => chkE Γ N k sc a && chkE Γ N v sc b | _ => false)
  | .op o a b, sc, e => (match e with | .BinOp x p y _ => decide (p = pyOp o) && (chkE Γ N a sc x && chkE Γ N b sc y) | _ => false)
  | .neg a, sc, e => (match e with | .UnaryOp .USub x _ => chkE Γ N a sc x | _ => false)
  | .not_ a, sc, e => (match e with | .UnaryOp .Not x _ => chkE Γ N a sc x | _ => false)
  | .and_ a b, sc, e => (match e with
    | .BoolOp .And [x, y] _ => chkE Γ N a sc x && chkE Γ N b sc y
    | .BoolOp .And (x :: y :: z :: r) p => chkE Γ N a sc x && chkE Γ N b sc (.BoolOp .And (y :: z :: r) p)
    | _ => false)
  | .or_ a b, sc, e => (match e with
    | .BoolOp .Or [x, y] _ => chkE Γ N a sc x && chkE Γ N b sc y
    | .BoolOp .Or (x :: y :: z :: r) p => chkE Γ N a sc x && chkE Γ N b sc (.BoolOp .Or (y :: z :: r) p)
    | _ => false)
  | .cmp c a b, sc, e => (match e with | .Compare x [p] [y] _ => decide (p = pyCm c) && (!behindInMarks p y && (chkE Γ N a sc x && chkE Γ N b sc y)) | _ => false)
  | .chain c c' a b z, sc, e => (match e with
    | .Compare x [p, q] [y, w] _ => decide (p = pyCm c) && (decide (q = pyCm c') && (!lastMarks [p, q] [y, w] && (chkE Γ N a sc x && (chkE Γ N b sc y && chkE Γ N z sc w))))
    | _ => false)
  | .isn a, sc, e => (match e with | .Compare x [.Is] [.Constant .none _ _] _ => chkE Γ N a sc x | _ => false)
  | .nisn a, sc, e => (match e with | .Compare x [.IsNot] [.Constant .none _ _] _ => chkE Γ N a sc x | _ => false)
  | .isb b a, sc, e => (match e with | .Compare x [.Is] [.Constant (.bool c) _ _] _ => b == c && chkE Γ N a sc x | _ => false)
  | .nisb b a, sc, e => (match e with | .Compare x [.IsNot] [.Constant (.bool c) _ _] _ => b == c && chkE Γ N a sc x | _ => false)
  | .ite c a b, sc, e => (match e with | .IfExp x y z _ => chkT Γ N c sc x && (chkE Γ N a sc y && chkE Γ N b sc z) | _ => false)
  | .idx a i, sc, e => (match e with | .Subscript x y _ => ixOk y && (chkE Γ N a sc x && chkE Γ N i sc y) | _ => false)
  | .slc a lo hi, sc, e => (match e with | .Subscript x (.Slice l h none _) _ => chkE Γ N a sc x && (chkO Γ N lo sc l && chkO Γ N hi sc h) | _ => false)
  | .bi b es, sc, e => (match e with
    | .Call (.Name x _) (y :: ys) [] _ => decide (x = biN b) && (isGl sc x && (if easyBi b then ((y :: ys).all nostar && chkEs Γ N es sc (y :: ys)) else isNilE ys && (if setBi b then (match argOf "set" sc y with
      | some a => chkEs Γ N es sc [a]
      | none => false) else if isLr b then (match argOf "range" sc y with
      | some a => chkEs Γ N es sc [a]
      | none => false) else isSo b && (nostar y && chkEs Γ N es sc [y]))))
    | _ => false)
  | .new (.bi .lrange es), sc, e => (match e with
    | .Call (.Name x _) [.Call (.Name z _) [a] [] _] [] _ => decide (x = ("list" : Str)) && (isGl sc x && (decide (z = ("range" : Str)) && (isGl sc z && (nostar a && chkEs Γ N es sc [a]))))
    | _ => false)
  | .call f es, sc, e => (match e with
    | .Call (.Name x _) (y :: ys) [] _ => fnIn Γ x f && (isGl sc x && (!(x == ("__debug__" : Str)) && (arOk Γ f (ys.length + 1) && ((y :: ys).all nostar && chkEs Γ N es sc (y :: ys)))))
    | _ => false)
  | .isi a ts, sc, e => (match ts with
    | [t] => (match e with
      | .Call (.Name x _) [y, .Name z _] [] _ => decide (x = ("isinstance" : Str)) && (decide (z = Str.ofString (tyN t)) && (isGl sc x && (isGl sc z && (nostar y && chkE Γ N a sc y))))
      | _ => false)
    | [t, u] => (match e with
      | .Call (.Name x _) [y, .Tuple [.Name z _, .Name z2 _] _ _] [] _ => decide (x = ("isinstance" : Str)) && (decide (z = Str.ofString (tyN t)) && (decide (z2 = Str.ofString (tyN u)) && (isGl sc x && (isGl sc z && (isGl sc z2 && (nostar y && chkE Γ N a sc y))))))
      | _ => false)
    | _ => false)
  | .mth m o es, sc, e => (match e with
    | .Call (.Attribute x name ap) ys [] cp => okM x ys ap cp && (chkE Γ N o sc x && (chkEs Γ N es sc ys && (match m, ys with
      | .append, [_] => decide (name = ("append" : Str))
      | .pop, [] => decide (name = ("pop" : Str))
      | .popAt, [_] => decide (name = ("pop" : Str))
      | .setdefault, [_, _] => decide (name = ("setdefault" : Str))
      | .index, [_] => decide (name = ("index" : Str))
      | .tindex, [_] => decide (name = ("index" : Str))
      | .join, [_] => decide (name = ("join" : Str))
      | .get, [_] => decide (name = ("get" : Str))
      | .sindex, [_] => decide (name = ("index" : Str))
      | _, _ => false)))
    | _ => false)
  | .comp k tg w it ifs elt own, sc, e => (match e with
    | .ListComp y [⟨g, i, fs, 0⟩] scope _ => blkB N sc scope (ownOf N own) && (chkW N own tg scope.names g && (chkI Γ N it w sc g i && ((match fs with | [] => isNil ifs | [x] => chkT Γ N ifs scope.names x | _ => false) && chkE Γ N elt scope.names y)))
    | _ => false)
  | .inl neg a ds, sc, e => (match e with
    | .Compare x [p] [.Name y q] _ => decide (p = pyCm (if neg then .nin else .in_)) && (!behindInMarks p (.Name y q) && (tupOk Γ sc y ds && chkE Γ N a sc x))
    | _ => false)
  | .comp2 k tg w it tg2 w2 it2 elt own, sc, e => (match e with
    | .ListComp y [⟨g, i, [], 0⟩, ⟨g2, i2, [], 0⟩] scope _ => blkB N sc scope (ownOf N own) && ((slots tg2).all (own.contains ·) && (chkW N own tg scope.names g && (chkW N (slots tg2) tg2 scope.names g2 && (chkI Γ N it w sc g i && (chkI Γ N it2 w2 scope.names g2 i2 && chkE Γ N elt scope.names y)))))
    | _ => false)
  | .dcomp tg w it k v own, sc, e => (match e with
    | .DictComp kx vx [⟨g, i, [], 0⟩] scope _ => blkB N sc scope (ownOf N own) && (chkW N own tg scope.names g && (chkI Γ N it w sc g i && (chkE Γ N k scope.names kx && chkE Γ N v scope.names vx)))
    | _ => false)
  | .gen all x it elt, sc, e => (match e with
    | .Call (.Name f _) [.GeneratorExp y [⟨.Name z _, i, [], 0⟩] scope _] [] _ => gens Γ sc && (decide (f = gname all) && (isGl sc f && (genB N sc scope [(z, x)] && (decide (scope.names.lookup z = some .local) && (noLst i && (chkE Γ N it sc i && chkE Γ N elt scope.names y))))))
    | _ => false)
  | .gen2 all x it y it2 elt, sc, e => (match e with
    | .Call (.Name f _) [.GeneratorExp w [⟨.Name z _, i, [], 0⟩, ⟨.Name z2 _, i2, [], 0⟩] scope _] [] _ => all && (gens Γ sc && (decide (f = gname true) && (isGl sc f && (genB N sc scope [(z, x), (z2, y)] && (decide (scope.names.lookup z = some .local) && (decide (scope.names.lookup z2 = some .local) && (noLst i && (noLst i2 && (chkE Γ N it sc i && (chkE Γ N it2 scope.names i2 && chkE Γ N elt scope.names w))))))))))
    | _ => false)
  | _, _, _ => false
termination_by structural t => t
def chkEs (Γ : Gb) (N : List Str) : T → Sc → List Expr → Bool
  | .nil, _, xs => xs.isEmpty
  | .cons a b, sc, xs => (match xs with | x :: r => nostar x && (chkE Γ N a sc x && chkEs Γ N b sc r) | [] => false)
  | _, _, _ => false
termination_by structural t => t
/-- what is walked -/
def chkI (Γ : Gb) (N : List Str) : T → Mi.It → Sc → Expr → Expr → Bool
  | .cons a .nil, w, sc, g, i => (match w with
    | .plain => noSet i && chkE Γ N a sc i
    | .range => (match i with | .Call (.Name x _) [y] [] _ => decide (x = ("range" : Str)) && (isGl sc x && (nostar y && chkE Γ N a sc y)) | _ => false)
    | .enum => (match i with | .Call (.Name x _) [y] [] _ => decide (x = ("enumerate" : Str)) && (isTup g && (isGl sc x && (nostar y && chkE Γ N a sc y))) | _ => false)
    | _ => false)
  | .cons a (.cons b .nil), w, sc, g, i => (match w with
    | .range => (match i with | .Call (.Name x _) [y, z] [] _ => decide (x = ("range" : Str)) && (isGl sc x && (nostar y && (nostar z && (chkE Γ N a sc y && chkE Γ N b sc z)))) | _ => false)
    | .zip => (match i with | .Call (.Name x _) [y, z] [] _ => decide (x = ("zip" : Str)) && (isTup g && (isGl sc x && (nostar y && (nostar z && (chkE Γ N a sc y && chkE Γ N b sc z))))) | _ => false)
    | _ => false)
  | _, _, _, _, _ => false
termination_by structural t => t
def chkO (Γ : Gb) (N : List Str) : T → Sc → Option Expr → Bool
  | .nil, _, x => x.isNone
  | .cons a .nil, sc, x => (match x with | some e => chkE Γ N a sc e | none => false)
  | _, _, _ => false
termination_by structural t => t
def chkT (Γ : Gb) (N : List Str) : T → Sc → Expr → Bool
  | .not_ a, sc, e => (match e with | .UnaryOp .Not x _ => chkT Γ N a sc x | _ => false)
  | .and_ a b, sc, e => (match e with
    | .BoolOp .And [x, y] _ => chkT Γ N a sc x && chkT Γ N b sc y
    | .BoolOp .And (x :: y :: z :: r) p => chkT Γ N a sc x && chkT Γ N b sc (.BoolOp .And (y :: z :: r) p)
    | _ => false)
  | .or_ a b, sc, e => (match e with
    | .BoolOp .Or [x, y] _ => chkT Γ N a sc x && chkT Γ N b sc y
    | .BoolOp .Or (x :: y :: z :: r) p => chkT Γ N a sc x && chkT Γ N b sc (.BoolOp .Or (y :: z :: r) p)
    | _ => false)
  | .tr a, sc, e => plainT e && chkE Γ N a sc e
  | .trb (.cmp c a b), sc, e => (match e with | .Compare x [p] [y] _ => decide (p = pyCm c) && (!behindInMarks p y && (chkE Γ N a sc x && chkE Γ N b sc y)) | _ => false)
  | .trb (.chain c c' a b z), sc, e => (match e with
    | .Compare x [p, q] [y, w] _ => decide (p = pyCm c) && (decide (q = pyCm c') && (!lastMarks [p, q] [y, w] && (chkE Γ N a sc x && (chkE Γ N b sc y && chkE Γ N z sc w))))
    | _ => false)
  | .trb (.isn a), sc, e => (match e with | .Compare x [.Is] [.Constant .none _ _] _ => chkE Γ N a sc x | _ => false)
  | .trb (.nisn a), sc, e => (match e with | .Compare x [.IsNot] [.Constant .none _ _] _ => chkE Γ N a sc x | _ => false)
  | .trb (.inl neg a ds), sc, e => (match e with
    | .Compare x [p] [.Name y q] _ => decide (p = pyCm (if neg then .nin else .in_)) && (!behindInMarks p (.Name y q) && (tupOk Γ sc y ds && chkE Γ N a sc x))
    | _ => false)
  | .trb (.isb b a), sc, e => (match e with | .Compare x [.Is] [.Constant (.bool c) _ _] _ => b == c && chkE Γ N a sc x | _ => false)
  | .trb (.nisb b a), sc, e => (match e with | .Compare x [.IsNot] [.Constant (.bool c) _ _] _ => b == c && chkE Γ N a sc x | _ => false)
  | _, _, _ => false
termination_by structural t => t
end
end MiS

set_option maxHeartbeats 16000000
namespace MiS
open PySem PySem.Spec PyProof.Rows L2 Mi MiG
variable [Tb]
/-- the text's global names as the frame sees them -/
structure TextOk (K : PySem.W.Frag) (mg : Str → Option Value) (Γ : Gb) : Prop where
  bi : ∀ b : Bi, mg (biN b) = none
  isi : mg "isinstance" = none
  all_ : mg "all" = none
  set_ : mg "set" = none
  tup : ∀ (x : Str) (ds : List D), Γ.tup.lookup x = some ds → ∃ (a : Addr) (vs : List V), mg x = some (.ref a) ∧ (∀ H, SqT K H a vs) ∧ ∀ L H, RpL K L H vs ds
  exc : ∀ x : Str, Γ.exc.contains x = true → ∃ c, mg x = some c
  any_ : mg "any" = none
  rng : mg "range" = none
  enu : mg "enumerate" = none
  zip : mg "zip" = none
  ty : ∀ t : Ty, mg (Str.ofString (tyN t)) = none
  con : ∀ (x : Str) (d : D), Γ.con.lookup x = some d → (∀ i, d = .int i → ∃ u, mg x = some u ∧ RelV (.int i) u) ∧ ∀ z, d = .str z → ∃ u, mg x = some u ∧ RelV (.str z) u
/-- the text's defs may be called -/
def CallRule (X : Cx) (C : Cn) (W : Wish) (Γ : Gb) : Prop := ∀ (x : Str) (f : Nat) (e : Expr) (es : List Expr) (tes : Mi.T) (p pos : Pos), fnIn Γ x f = true → Gl X x → (x == ("__debug__" : Str)) = false → arOk Γ f (es.length + 1) = true → tlen tes = es.length + 1 →
  (e :: es).all nostar = true → PA X (e :: es) (tEs X.K C W tes) → PE X (.Call (.Name x p) (e :: es) [] pos) (tE X.K C W (.call f tes))
/-- what a frame must hold -/
structure Good (X : Cx) (Γ : Gb) (N : List Str) (sc : Sc) (C : Cn) (W : Wish) : Prop where
  calm : X.calm = true
  nN : X.N = N
  nd : N.Nodup
  room : X.A.units + 100 < cLine
  own : PassesOwn (model X.prog X.w) X.A X.env X.xe
  bk : X.env.blockKind = .function
  sok : ∀ x k, sc.lookup x = some k → X.env.scope.names.lookup x = some k ∨ (k = .free ∧ X.env.scope.names.lookup x = some .cell)
  fnl : ∀ x, isLoc sc x = true → X.fn x = true ∨ X.env.scope.names.lookup x = some .local
  txt : TextOk X.K X.mg Γ
  calls : ∃ lev, Room lev X.A ∧ (gens Γ sc = true → Room (lev + 1) X.A) ∧ ∀ Y : Cx, Y.prog = X.prog → Y.w = X.w → Y.K = X.K → Y.mg = X.mg → Y.base = X.base → Room lev Y.A → CallRule Y C Wno Γ
  callW : CallRule X C W Γ
  tab : gens Γ sc = true → ∃ c P, GxR.TabB X.base X.mg c P ∧ X.env.code = .ref c ∧ Tb.T P
  fr : gens Γ sc = true → X.stack = X.env :: X.outer ∧ X.env.frame = some X.env.locals
theorem Good.vis {X : Cx} {Γ : Gb} {N : List Str} {sc : Sc} {C : Cn} {W : Wish} (G : Good X Γ N sc C W) (x : Str) (h : isVis sc x = true) : Vis X.env.scope x := by
  unfold isVis at h
  cases e : sc.lookup x with
  | none => rw [e] at h; cases h
  | some k =>
    rcases G.sok x k e with q | ⟨rfl, q⟩
    · rw [e] at h
      cases k <;> first
        | exact .inl q
        | exact .inr (.inl q)
        | exact .inr (.inr q)
        | cases h
    · exact .inr (.inl q)
theorem Good.loc {X : Cx} {Γ : Gb} {N : List Str} {sc : Sc} {C : Cn} {W : Wish} (G : Good X Γ N sc C W) (x : Str) (h : isLoc sc x = true) : Loc X.env.scope x := by
  unfold isLoc at h
  cases e : sc.lookup x with
  | none => rw [e] at h; cases h
  | some k =>
    rcases G.sok x k e with q | ⟨rfl, q⟩
    · rw [e] at h
      cases k <;> first
        | exact .inl q
        | exact .inr q
        | cases h
    · rw [e] at h; cases h
theorem Good.gl {X : Cx} {Γ : Gb} {N : List Str} {sc : Sc} {C : Cn} {W : Wish} (G : Good X Γ N sc C W) (x : Str) (h : isGl sc x = true) : Gl X x := by
  unfold isGl at h
  cases e : sc.lookup x with
  | none => rw [e] at h; cases h
  | some k =>
    rcases G.sok x k e with q | ⟨rfl, q⟩
    · rw [e] at h
      cases k <;> first
        | exact q
        | cases h
    · rw [e] at h; cases h
section
variable {X : Cx} {C : Cn} {W : Wish} {Γ : Gb} {N : List Str} {sc : Sc}
theorem and2 {a b : Bool} (h : (a && b) = true) : a = true ∧ b = true := Bool.and_eq_true_iff.mp h
theorem not_ {a : Bool} (h : (!a) = true) : a = false := by cases a <;> first | rfl | cases h
theorem plain_of {x : Str} (h : plainN x = true) : (x == ("__debug__" : Str)) = false ∧ (x == ("__classdict__" : Str)) = false := ⟨not_ (and2 h).1, not_ (and2 h).2⟩
theorem g_var (G : Good X Γ N sc C W) {i : Nat} {x : Str} {p : Pos} (h : varOk N sc i x = true) : PE X (.Name x p) (tE X.K C W (.var i)) := by
  obtain ⟨h1, h2⟩ := and2 h
  obtain ⟨h3, h4⟩ := and2 h2
  exact se_var (by rw [G.nN]; exact of_decide_eq_true h1) (G.vis x h3) (plain_of h4).1 (plain_of h4).2
theorem g_mv (G : Good X Γ N sc C W) {i : Nat} {x : Str} {p : Pos} (h : varOk N sc i x = true) : PE X (.Name x p) (tE X.K C W (.mv i)) := by
  obtain ⟨h1, h2⟩ := and2 h
  obtain ⟨h3, h4⟩ := and2 h2
  exact se_mv (by rw [G.nN]; exact of_decide_eq_true h1) (G.vis x h3) (plain_of h4).1 (plain_of h4).2
theorem pe_no {j : Nat} {p : Pos} : PE X (.Constant .none j p) (tC .non) := ⟨fun pins s σ H Q I q => wpAny_pure ⟨.non, H, I, rfl, q⟩⟩
theorem g_con (G : Good X Γ N sc C W) {x : Str} {d : D} {p : Pos} (h : conOk Γ sc x d = true) : PE X (.Name x p) (tE X.K C W (.lit d)) := by
  obtain ⟨h1, h2⟩ := and2 h
  obtain ⟨h3, h4⟩ := and2 h2
  have hg := G.gl x h1
  cases e : Γ.con.lookup x with
  | none => rw [e] at h4; cases h4
  | some c =>
    rw [e] at h4
    obtain ⟨t1, t2⟩ := G.txt.con x c e
    cases c with
    | int i =>
      cases d with
      | int j =>
        obtain rfl : i = j := of_decide_eq_true h4
        obtain ⟨u, m, r⟩ := t1 i rfl
        exact se_lit (pe_glob hg m r (not_ h3)) fun _ _ => .int i
      | _ => cases h4
    | str a =>
      cases d with
      | str b =>
        obtain rfl : a = b := of_decide_eq_true h4
        obtain ⟨u, m, r⟩ := t2 a rfl
        exact se_lit (pe_glob hg m r (not_ h3)) fun _ _ => .str a
      | _ => cases h4
    | _ => cases d <;> cases h4
theorem ix_plain {b : Expr} (h : ixOk b = true) : PlainIx b := by
  cases b <;> first
    | exact fun o i => rfl
    | cases h
theorem tr_plain {a : Expr} (h : plainT a = true) : ∀ whole, isTrue a X.env whole = (do let v ← whole; standAt a.pos; holding [v] (truthy v)) := by
  intro whole
  cases a <;> first
    | rfl
    | (cases h; done)
    | skip
  rename_i op x p
  cases op <;> first
    | rfl
    | cases h
theorem pw_bool {op : BoolOp} {xs : List Expr} {p : Pos} {t : TT} (h : PT X (.BoolOp op xs p) t) : PW X (.BoolOp op xs p) t := ⟨fun wh pins s σ H Q I q => h.run pins s σ H Q I q⟩
theorem look_X : True := trivial
theorem look_relabel {env : Env} : ∀ {names : List (Str × NameKind)} {x : Str} {k : NameKind}, names.lookup x = some k →
    (names.map fun (n, k) => if (k == NameKind.free && env.scope.kind == .function && env.kindOf n == some .cell) then (n, NameKind.cell) else (n, k)).lookup x = some k ∨
      (k = .free ∧ (names.map fun (n, k) => if (k == NameKind.free && env.scope.kind == .function && env.kindOf n == some .cell) then (n, NameKind.cell) else (n, k)).lookup x = some .cell)
  | [], _, _, h => by simp at h
  | (n, j) :: r, x, k, h => by
    rw [List.lookup_cons] at h
    rw [List.map_cons]
    by_cases hx : (x == n) = true
    · rw [hx] at h
      have hk : j = k := Option.some.inj h
      subst hk
      by_cases c : (j == NameKind.free && env.scope.kind == .function && env.kindOf n == some .cell) = true
      · simp only [c, if_true]
        rw [List.lookup_cons, hx]
        have hj := (Bool.and_eq_true_iff.mp (Bool.and_eq_true_iff.mp c).1).1
        exact .inr ⟨eq_of_beq hj, rfl⟩
      · simp only [c, if_false, Bool.false_eq_true]
        rw [List.lookup_cons, hx]
        exact .inl rfl
    · have hx' : (x == n) = false := by simpa using hx
      rw [hx'] at h
      have ih := look_relabel (env := env) (names := r) (x := x) (k := k) h
      by_cases c : (j == NameKind.free && env.scope.kind == .function && env.kindOf n == some .cell) = true
      · simp only [c, if_true]
        rw [List.lookup_cons, hx']
        exact ih
      · simp only [c, if_false, Bool.false_eq_true]
        rw [List.lookup_cons, hx']
        exact ih
theorem Good.blk (G : Good X Γ N sc C W) {scope : Scope} (hk : scope.kind = .function) (h0 : (scope.names.any fun p => decide (p.1 = (".0" : Str))) = true) (s : Shared) (H : Hp) (A : Addr) (cl : List (Str × Addr)) (fp : List Addr) : Good (X.blk s H scope (compEnvC scope cl A X.env) fp) Γ N scope.names C Wno where
  calm := G.calm
  nN := G.nN
  nd := G.nd
  room := G.room
  own := PassesOwn.never
  bk := by
    show (if scope.kind.isAnnotationScope then ScopeKind.function else scope.kind) = _
    rw [hk]; rfl
  sok := fun x k e => look_relabel e
  fnl := fun x h => by
    unfold isLoc at h
    cases e : scope.names.lookup x with
    | none => rw [e] at h; cases h
    | some k =>
      rw [e] at h
      cases k <;> first
        | (cases h; done)
        | skip
      · right
        rcases look_relabel (env := X.env) e with q | ⟨q, _⟩
        · exact q
        · cases q
      · left
        show (scope.names.lookup x == some .cell) = true
        rw [e]; rfl
  txt := G.txt
  calls := by
    obtain ⟨lev, r, _, f⟩ := G.calls
    have ng : gens Γ scope.names = true → False := fun q => by have q := (Bool.and_eq_true_iff.mp q).2; unfold gens0 at q; rw [h0] at q; cases q
    exact ⟨lev, r, fun q => (ng q).elim, fun Y h1 h2 h3 h4 h5 h6 => f Y h1 h2 h3 h4 h5 h6⟩
  callW := by
    obtain ⟨lev, r, _, f⟩ := G.calls
    exact f _ rfl rfl rfl rfl rfl r
  tab := fun q => by have q := (Bool.and_eq_true_iff.mp q).2; unfold gens0 at q; rw [h0] at q; cases q
  fr := fun q => by have q := (Bool.and_eq_true_iff.mp q).2; unfold gens0 at q; rw [h0] at q; cases q
theorem blk_ok (G : Good X Γ N sc C W) {scope : Scope} {own : List (Str × Nat)} (b : blkB N sc scope own = true) : BlkOk X.N X.env.scope scope own := by
  obtain ⟨b1, b2⟩ := and2 b
  obtain ⟨b2, b3⟩ := and2 b2
  obtain ⟨_, b3⟩ := and2 b3
  obtain ⟨b3, b4⟩ := and2 b3
  obtain ⟨b4, b5⟩ := and2 b4
  refine ⟨of_decide_eq_true b1, fun y hy => of_decide_eq_true (List.all_eq_true.mp b2 y hy), fun p hp => by rw [G.nN]; exact of_decide_eq_true (List.all_eq_true.mp b3 p hp), fun y hy e => ?_, fun y hy e => ?_⟩
  · have h := List.all_eq_true.mp b4 y hy
    rw [if_pos e] at h
    rcases Bool.or_eq_true_iff.mp h with h | h
    · rcases G.sok _ _ (of_decide_eq_true h) with q | ⟨q, _⟩
      · exact .inl q
      · cases q
    · rcases G.sok _ _ (of_decide_eq_true h) with q | ⟨_, q⟩
      · exact .inr q
      · exact .inl q
  · have h := List.all_eq_true.mp b5 y hy
    rw [if_pos e] at h
    rcases Bool.or_eq_true_iff.mp h with h | h
    · exact .inl (by simpa using h)
    · right
      rw [G.nN]
      simpa using h
theorem nope (h : false = true) : False := Bool.false_ne_true h
theorem asg_cons {e : Expr} {es : List Expr} {env : Env} (h : nostar e = true) : assignEach (e :: es) env = (false, assign e env) :: assignEach es env := by
  cases e <;> first
    | rfl
    | cases h
theorem asg_len {env : Env} : ∀ {es : List Expr}, es.all nostar = true → (assignEach es env).length = es.length ∧ (assignEach es env).findIdx? (·.1) = none
  | [], _ => ⟨rfl, rfl⟩
  | e :: es, h => by
    obtain ⟨h1, h2⟩ := and2 h
    obtain ⟨i1, i2⟩ := asg_len h2
    rw [asg_cons h1]
    refine ⟨by rw [List.length_cons, List.length_cons, i1], ?_⟩
    rw [List.findIdx?_cons, i2]; rfl
theorem chkWs_len {own : List Nat} : ∀ {t : Mi.T} {xs : List Expr}, chkWs N own t sc xs = true → tlen t = xs.length ∧ xs.all nostar = true := by
  intro t
  induction t with
  | nil => intro xs h; cases xs with | nil => exact ⟨rfl, rfl⟩ | cons _ _ => exact (nope h).elim
  | cons a b _ ih =>
    intro xs h
    cases xs with
    | nil => exact (nope h).elim
    | cons x r =>
      obtain ⟨h1, h2⟩ := and2 (show (nostar x && (chkW N own a sc x && chkWs N own b sc r)) = true from h)
      obtain ⟨i1, i2⟩ := ih (and2 h2).2
      refine ⟨?_, ?_⟩
      · show tlen b + 1 = r.length + 1
        rw [i1]
      · show (nostar x && r.all nostar) = true
        rw [h1, i2]; rfl
  | _ => intro xs h; exact (nope h).elim
theorem chk_Wboth (G : Good X Γ N sc C W) {own : List Nat} : ∀ t : Mi.T, (∀ e, chkW N own t sc e = true → PG X e (tGw X.K C W own t)) ∧ (∀ es, chkWs N own t sc es = true → PGs X es (tGsw X.K C W own t)) := by
  intro t
  induction t with
  | tname i =>
    refine ⟨fun e h => ?_, fun es h => (nope h).elim⟩
    cases e with
    | Name x p =>
      obtain ⟨h1, h2⟩ := and2 (show (decide (N[i]? = some x) && (isLoc sc x && own.contains i)) = true from h)
      obtain ⟨h2, h3⟩ := and2 h2
      have e1 : X.N[i]? = some x := by rw [G.nN]; exact of_decide_eq_true h1
      exact sgw_name (by rw [G.nN]; exact G.nd) e1 (G.loc x h2) (G.fnl x h2) (by simpa using h3)
    | _ => exact (nope h).elim
  | ttup ts ih =>
    refine ⟨fun e h => ?_, fun es h => (nope h).elim⟩
    cases e with
    | Tuple xs k p =>
      have h : chkWs N own ts sc xs = true := h
      obtain ⟨l1, l2⟩ := chkWs_len h
      obtain ⟨a1, a2⟩ := asg_len (env := X.env) l2
      exact sgw_tup G.calm (ih.2 xs h) (by rw [a1, l1]) a2
    | _ => exact (nope h).elim
  | nil =>
    refine ⟨fun e h => (nope h).elim, fun es h => ?_⟩
    cases es with
    | nil => exact sgsw_nil
    | cons _ _ => exact (nope h).elim
  | cons a b iha ihb =>
    refine ⟨fun e h => (nope h).elim, fun es h => ?_⟩
    cases es with
    | nil => exact (nope h).elim
    | cons x r =>
      obtain ⟨h1, h2⟩ := and2 (show (nostar x && (chkW N own a sc x && chkWs N own b sc r)) = true from h)
      obtain ⟨h2, h3⟩ := and2 h2
      exact sgsw_cons (iha.1 x h2) (ihb.2 r h3) (by rw [asg_cons h1]; rfl)
  | _ => exact ⟨fun e h => (nope h).elim, fun es h => (nope h).elim⟩
theorem chkEs_len : ∀ {t : Mi.T} {xs : List Expr}, chkEs Γ N t sc xs = true → tlen t = xs.length := by
  intro t
  induction t with
  | nil => intro xs h; cases xs with | nil => rfl | cons _ _ => exact (nope h).elim
  | cons a b _ ih =>
    intro xs h
    cases xs with
    | nil => exact (nope h).elim
    | cons x r =>
      obtain ⟨h1, h2⟩ := and2 (show (nostar x && (chkE Γ N a sc x && chkEs Γ N b sc r)) = true from h)
      show tlen b + 1 = r.length + 1
      rw [ih (and2 h2).2]
  | _ => intro xs h; exact (nope h).elim
theorem ite3 {a b c x y z : Bool} (h : (if a then x else if b then y else (c && z)) = true) : (a = true ∧ x = true) ∨ (b = true ∧ y = true) ∨ (c = true ∧ z = true) := by
  cases a with
  | true => exact .inl ⟨rfl, h⟩
  | false =>
    cases b with
    | true => exact .inr (.inl ⟨rfl, h⟩)
    | false => exact .inr (.inr (and2 h))
theorem argOf_some {nm : Str} {sc : Sc} {y a : Expr} (h : argOf nm sc y = some a) : ∃ zp p, y = .Call (.Name nm zp) [a] [] p ∧ isGl sc nm = true ∧ nostar a = true := by
  unfold argOf at h
  split at h
  · split at h
    · rename_i hb
      cases h
      obtain ⟨h1, h2⟩ := and2 hb
      obtain ⟨h2, h3⟩ := and2 h2
      obtain rfl := of_decide_eq_true h1
      exact ⟨_, _, rfl, h2, h3⟩
    · cases h
  · cases h
theorem argOf_chk {Γ : Gb} {N : List Str} {nm : Str} {sc : Sc} {y : Expr} {es : Mi.T} (h : (match argOf nm sc y with
      | some a => chkEs Γ N es sc [a]
      | none => false) = true) : ∃ a zp p, y = .Call (.Name nm zp) [a] [] p ∧ isGl sc nm = true ∧ nostar a = true ∧ chkEs Γ N es sc [a] = true := by
  cases e : argOf nm sc y with
  | none => rw [e] at h; cases h
  | some a =>
    rw [e] at h
    obtain ⟨zp, p, q1, q2, q3⟩ := argOf_some e
    exact ⟨a, zp, p, q1, q2, q3, h⟩
def SndE (Γ : Gb) (N : List Str) (C : Cn) (t : Mi.T) : Prop := ∀ {W : Wish} (X : Cx) (sc : Sc), Good X Γ N sc C W → ∀ e : Expr, chkE Γ N t sc e = true → PE X e (tE X.K C W t)
def SndEs (Γ : Gb) (N : List Str) (C : Cn) (t : Mi.T) : Prop := ∀ {W : Wish} (X : Cx) (sc : Sc), Good X Γ N sc C W → ∀ es : List Expr, chkEs Γ N t sc es = true → PA X es (tEs X.K C W t)
def SndT (Γ : Gb) (N : List Str) (C : Cn) (t : Mi.T) : Prop := ∀ {W : Wish} (X : Cx) (sc : Sc), Good X Γ N sc C W → ∀ e : Expr, chkT Γ N t sc e = true → PT X e (tB X.K C W t)
def SndO (Γ : Gb) (N : List Str) (C : Cn) (t : Mi.T) : Prop := ∀ {W : Wish} (X : Cx) (sc : Sc), Good X Γ N sc C W → ∀ e : Option Expr, chkO Γ N t sc e = true → PO X e (tO X.K C W t)
/-- the iterator's rule, from the term -/
def wiOf (K : PySem.W.Frag) (C : Cn) (W : Wish) : Mi.T → Mi.It → TI
  | .cons a .nil, .plain => iSeq K (tE K C W a)
  | .cons a .nil, .range => iRng1 (tCons (tE K C W a) tNil)
  | .cons a .nil, .enum => iEnumA K (tCons (tE K C W a) tNil)
  | .cons a (.cons b .nil), .range => iRng2 (tCons (tE K C W a) (tCons (tE K C W b) tNil))
  | .cons a (.cons b .nil), .zip => RZ.iZipA K (tCons (tE K C W a) (tCons (tE K C W b) tNil))
  | _, _ => fun _ _ _ => False
theorem ownOf_slots (N : List Str) : ∀ l : List Nat, (ownOf N l).map (·.2) = l
  | [] => rfl
  | a :: b => by show a :: (ownOf N b).map (·.2) = _; rw [ownOf_slots N b]
theorem g_set (G : Good X Γ N sc C W) {b : Bi} {a : Expr} {es : Mi.T} {p p2 q pos : Pos} (hb : setBi b = true) (h1 : isGl sc (biN b) = true) (h2 : isGl sc "set" = true) (ns : nostar a = true) (ha : PA X [a] (tEs X.K C W es)) :
    PE X (.Call (.Name (biN b) p) [.Call (.Name "set" p2) [a] [] q] [] pos) (tE X.K C W (.bi b es)) := by
  cases b with
  | lenset => exact se_lenset G.calm (G.gl _ h1) (G.txt.bi .lenset) (G.gl _ h2) G.txt.set_ ha (star_cons ns)
  | sortset => exact se_sortset G.calm G.room (G.gl _ h1) (G.txt.bi .sortset) (G.gl _ h2) G.txt.set_ ha (star_cons ns)
  | _ => exact (nope hb).elim
theorem sameDs_eq : ∀ {a b : List D}, sameDs a b = true → a = b
  | [], [], _ => rfl
  | x :: r, [], h => by cases x <;> exact (nope h).elim
  | [], _ :: _, h => (nope h).elim
  | x :: r, y :: t, h => by
    cases x <;> cases y <;> first
      | exact (nope h).elim
      | (obtain ⟨h1, h2⟩ := and2 h
         rw [of_decide_eq_true h1, sameDs_eq h2])
theorem co_inl {K : PySem.W.Frag} {neg : Bool} {ta : Mi.T} {ds : List D} {vs : List V} {p : Addr} (hp : ∀ H, SqT K H p vs) (hr : ∀ L H, RpL K L H vs ds) {σ : L2.St} {H : Hp} {Q : VK} (h : tE K C W (.inl neg ta ds) σ H Q) :
    tOp (rCm K (if neg then .nin else .in_)) (tE K C W ta) (tC (.ref p)) σ H Q := by
  obtain ⟨M, env, st, er, sr, h⟩ := h
  rw [ev] at h
  refine ⟨M, env, st, er, sr, (PR.bind h).imp fun x M1 st1 H1 p1 sr1 s1 h v1 r1 => ?_⟩
  cases x with
  | ref n => exact h.elim
  | val d =>
    cases hb : (atom d && atoms ds) with
    | false => simp only [hb] at h; exact h.elim
    | true =>
      simp only [hb, if_true] at h
      obtain ⟨a1, a2⟩ := and2 hb
      have w := (Wants.of h).bl sr1
      have key : rIn K neg v1 (.ref p) H1 Q := by
        refine ⟨p, vs, rfl, .inr (hp H1), atom_flat r1 a1, atoms_flat (hr (Lv M1 st1) H1) a2, ?_⟩
        rw [inV_has r1 a1 (hr (Lv M1 st1) H1) a2]
        exact w
      cases neg with
      | false => exact .inr (.inl key)
      | true => exact .inr (.inl key)
theorem tup_glob (G : Good X Γ N sc C W) {y : Str} {ds : List D} (h : tupOk Γ sc y ds = true) : ∃ (a : Addr) (vs : List V), Gl X y ∧ X.mg y = some (.ref a) ∧ (y == ("__debug__" : Str)) = false ∧ (∀ H, SqT X.K H a vs) ∧ ∀ L H, RpL X.K L H vs ds := by
  obtain ⟨h1, hx⟩ := and2 h
  obtain ⟨h2, h3⟩ := and2 hx
  clear hx
  cases e : Γ.tup.lookup y with
  | none => rw [e] at h3; cases h3
  | some es =>
    rw [e] at h3
    obtain rfl := sameDs_eq h3
    obtain ⟨a, vs, m, q1, q2⟩ := G.txt.tup y es e
    exact ⟨a, vs, G.gl _ h1, m, not_ h2, q1, q2⟩
theorem g_inl (G : Good X Γ N sc C W) {neg : Bool} {x : Expr} {y : Str} {q pos : Pos} {ta : Mi.T} {ds : List D} (ha : PE X x (tE X.K C W ta)) (ht : tupOk Γ sc y ds = true) (hm : behindInMarks (pyCm (if neg then .nin else .in_)) (.Name y q) = false) :
    PE X (.Compare x [pyCm (if neg then .nin else .in_)] [.Name y q] pos) (tE X.K C W (.inl neg ta ds)) := by
  obtain ⟨a, vs, g1, g2, g3, q1, q2⟩ := tup_glob G ht
  exact cvX (pe_cmpR (cm_ok G.room _) ha (pe_glob g1 g2 (v := .ref a) rfl g3) hm) (co_inl q1 q2)
theorem st_inl (G : Good X Γ N sc C W) {neg : Bool} {x : Expr} {y : Str} {q pos : Pos} {ta : Mi.T} {ds : List D} (ha : PE X x (tE X.K C W ta)) (ht : tupOk Γ sc y ds = true) (hm : behindInMarks (pyCm (if neg then .nin else .in_)) (.Name y q) = false) :
    PT X (.Compare x [pyCm (if neg then .nin else .in_)] [.Name y q] pos) (tB X.K C W (.trb (.inl neg ta ds))) := by
  obtain ⟨a, vs, g1, g2, g3, q1, q2⟩ := tup_glob G ht
  exact cvT (pt_cmpR (cm_ok G.room _) ha (pe_glob g1 g2 (v := .ref a) rfl g3) hm) fun _ _ _ h => co_inl q1 q2 (co_trb h)
theorem no_setE {i : Expr} (h : noSet i = true) (env : Env) : ∀ x, foldedSetIterable i env x = pure x := by
  intro x
  cases i <;> first
    | rfl
    | exact (nope h).elim
theorem wi_shape {X : Cx} {C : Cn} {W : Wish} {t : Mi.T} {w : Mi.It} {sc : Sc} {g i : Expr} (h : chkI Γ N t w sc g i = true) : Feed X C W w t (wiOf X.K C W t w) ∧ ∀ env x, foldedSetIterable i env x = pure x := by
  have key : (∃ a, t = .cons a .nil) ∨ (∃ a b, t = .cons a (.cons b .nil)) := by
    cases t with
    | cons a r =>
      cases r with
      | nil => exact .inl ⟨a, rfl⟩
      | cons b r2 =>
        cases r2 with
        | nil => exact .inr ⟨a, b, rfl⟩
        | _ => exact (nope h).elim
      | _ => exact (nope h).elim
    | _ => exact (nope h).elim
  rcases key with ⟨a, rfl⟩ | ⟨a, b, rfl⟩
  · cases w with
    | plain =>
      obtain ⟨h1, _⟩ := and2 (show (noSet i && chkE Γ N a sc i) = true from h)
      exact ⟨feed_plain, no_setE h1⟩
    | range =>
      rw [chkI.eq_def] at h
      simp only at h
      split at h
      · exact ⟨feed_range1, fun _ _ => rfl⟩
      · exact (nope h).elim
    | enum =>
      rw [chkI.eq_def] at h
      simp only at h
      split at h
      · exact ⟨feed_enum, fun _ _ => rfl⟩
      · exact (nope h).elim
    | _ => exact (nope h).elim
  · cases w with
    | range =>
      rw [chkI.eq_def] at h
      simp only at h
      split at h
      · exact ⟨feed_range2, fun _ _ => rfl⟩
      · exact (nope h).elim
    | zip =>
      rw [chkI.eq_def] at h
      simp only at h
      split at h
      · exact ⟨feed_zip, fun _ _ => rfl⟩
      · exact (nope h).elim
    | _ => exact (nope h).elim
def SndI (Γ : Gb) (N : List Str) (C : Cn) (t : Mi.T) : Prop := ∀ {W : Wish} (X : Cx) (sc : Sc), Good X Γ N sc C W → ∀ (w : Mi.It) (g i : Expr), chkI Γ N t w sc g i = true → ∃ wi, PI X g i wi ∧ Feeds X C W w t wi ∧ (∀ x, foldedSetIterable i X.env x = pure x) ∧ wi = wiOf X.K C W t w
theorem any_names {names : List (Str × NameKind)} (h : names.lookup (".0" : Str) = some .local) : (names.any fun p => decide (p.1 = (".0" : Str))) = true := by
  refine List.any_eq_true.mpr ⟨_, PySem.mem_of_lookup h, ?_⟩
  simp
theorem genB_ok (G : Good X Γ N sc C W) {scope : Scope} {own : List (Str × Nat)} (b : genB N sc scope own = true) : GenOk X.N X.env.scope scope own := by
  obtain ⟨b1, b⟩ := and2 b
  obtain ⟨b2, b⟩ := and2 b
  obtain ⟨b3, b⟩ := and2 b
  obtain ⟨b4, b⟩ := and2 b
  obtain ⟨b5, b⟩ := and2 b
  obtain ⟨b6, b7⟩ := and2 b
  refine ⟨of_decide_eq_true b1, not_ b2, fun y hy e => ?_, of_decide_eq_true b3, fun p hp => by rw [G.nN]; exact of_decide_eq_true (List.all_eq_true.mp b4 p hp), fun y hy e => ?_, fun y hy e => ?_⟩
  · have h := List.all_eq_true.mp b5 y hy
    rw [e] at h
    cases h
  · have h := List.all_eq_true.mp b6 y hy
    rw [if_pos e] at h
    rcases Bool.or_eq_true_iff.mp h with h | h
    · rcases G.sok _ _ (of_decide_eq_true h) with q | ⟨q, _⟩
      · exact .inl q
      · cases q
    · rcases G.sok _ _ (of_decide_eq_true h) with q | ⟨_, q⟩
      · exact .inr q
      · exact .inl q
  · have h := List.all_eq_true.mp b7 y hy
    rw [if_pos e] at h
    rcases Bool.or_eq_true_iff.mp h with h | h
    · exact .inl (List.contains_iff_mem.mp h)
    · right
      rw [G.nN]
      intro q
      have := not_ h
      rw [List.contains_iff_mem.mpr q] at this
      cases this
/-- within a generator expression -/
theorem Good.gen (G : Good X Γ N sc C W) {elt : Expr} {gs : List Comprehension} {scope : Scope} {pos : Pos} {own : List (Str × Nat)} (hg : gens Γ sc = true) (b : genB N sc scope own = true) (it : Addr) (s : Shared) (H : Hp) (code : Value) (fp : List Addr) :
    Good (gcx X (.GeneratorExp elt gs scope pos) scope it s H code fp) Γ N scope.names C Wno := by
  obtain ⟨lev, _, r1, f⟩ := G.calls
  have r := gA_room (elt := elt) (gs := gs) (scope := scope) (pos := pos) (it := it) (cenv := genEnv scope (cloFrom X.env.cells scope.names []) s.heap.objs.size code builtinsNs X.env) (r1 hg)
  have hk := (genB_ok G b).kind
  have hd := any_names (genB_ok G b).dot
  have ng : gens Γ scope.names = true → False := fun q => by have q := (Bool.and_eq_true_iff.mp q).2; unfold gens0 at q; rw [hd] at q; cases q
  exact { calm := rfl, nN := G.nN, nd := G.nd, room := Nat.lt_of_le_of_lt (Nat.add_le_add (Nat.le_add_right _ _) (by decide)) r.un
          own := PassesOwn.never, bk := by
            show (if scope.kind.isAnnotationScope then ScopeKind.function else scope.kind) = _
            rw [hk]; rfl
          sok := fun x k e => .inl e, fnl := fun x h => by
            unfold isLoc at h
            cases e : scope.names.lookup x with
            | none => rw [e] at h; cases h
            | some k =>
              rw [e] at h
              cases k <;> first
                | (cases h; done)
                | skip
              · exact .inr e
              · exact absurd rfl ((genB_ok G b).cell _ (PySem.mem_of_lookup e))
          txt := G.txt, calls := ⟨lev, r, fun q => (ng q).elim, fun Y h1 h2 h3 h4 h5 h6 => f Y h1 h2 h3 h4 h5 h6⟩, callW := f _ rfl rfl rfl rfl rfl r, tab := fun q => (ng q).elim, fr := fun q => (ng q).elim }
theorem no_lst {i : Expr} {env : Env} (h : noLst i = true) : ∀ x, genFold i env x = pure x := by
  intro x
  cases i <;> first
    | rfl
    | exact (nope h).elim
theorem no_lst' {i : Expr} (h : noLst i = true) : ∀ (env : Env) x, foldedSetIterable i env x = pure x := by
  intro env x
  cases i <;> first
    | rfl
    | exact (nope h).elim
theorem g_gen (G : Good X Γ N sc C W) {all : Bool} {x : Nat} {tit telt : Mi.T} {y i : Expr} {z : Str} {zp fp gp p : Pos} {scope : Scope} (g1 : gens Γ sc = true) (g3 : isGl sc (gname all) = true) (g4 : genB N sc scope [(z, x)] = true) (g5 : scope.names.lookup z = some .local) (g6 : noLst i = true) (hi : PE X i (tE X.K C W tit))
    (he : ∀ it s H code fp, PE (gcx X (.GeneratorExp y [⟨.Name z zp, i, [], 0⟩] scope gp) scope it s H code fp) y (tE X.K C Wno telt)) :
    PE X (.Call (.Name (gname all) fp) [.GeneratorExp y [⟨.Name z zp, i, [], 0⟩] scope gp] [] p) (tE X.K C W (.gen all x tit telt)) := by
  obtain ⟨c, P, TB, hcode, hP⟩ := G.tab g1
  obtain ⟨lev, r, _⟩ := G.calls
  have B := genB_ok G g4
  have pg : ∀ it s H code fp, PG (gcx X (.GeneratorExp y [⟨.Name z zp, i, [], 0⟩] scope gp) scope it s H code fp) (.Name z zp) (tGw X.K C Wno [x] (.tname x)) := fun it s H code fp =>
    sgw_name (X := gcx X (.GeneratorExp y [⟨.Name z zp, i, [], 0⟩] scope gp) scope it s H code fp) (by show X.N.Nodup; rw [G.nN]; exact G.nd) (B.ix (z, x) List.mem_cons_self) (.inl g5) (.inr g5) List.mem_cons_self
  cases all with
  | true => exact cvE (pe_all1 (by rw [G.nN]; exact G.nd) r (G.gl _ g3) G.txt.all_ TB hcode B (pi_seq hi) pg he (no_lst g6)) fun σ H Q h => co_gen hP h
  | false => exact cvE (pe_any1 (by rw [G.nN]; exact G.nd) r (G.gl _ g3) G.txt.any_ TB hcode B (pi_seq hi) pg he (no_lst g6)) fun σ H Q h => co_gen hP h
theorem g_gen2 (G : Good X Γ N sc C W) {x y : Nat} {tit tit2 telt : Mi.T} {w i i2 : Expr} {z z2 : Str} {zp zp2 fp gp p : Pos} {scope : Scope} (g1 : gens Γ sc = true) (g3 : isGl sc (gname true) = true) (g4 : genB N sc scope [(z, x), (z2, y)] = true) (g5 : scope.names.lookup z = some .local) (g5' : scope.names.lookup z2 = some .local) (g6 : noLst i = true) (g6' : noLst i2 = true) (hi : PE X i (tE X.K C W tit))
    (hi2 : ∀ it s H code fp, PE (gcx X (.GeneratorExp w [⟨.Name z zp, i, [], 0⟩, ⟨.Name z2 zp2, i2, [], 0⟩] scope gp) scope it s H code fp) i2 (tE X.K C Wno tit2))
    (he : ∀ it s H code fp, PE (gcx X (.GeneratorExp w [⟨.Name z zp, i, [], 0⟩, ⟨.Name z2 zp2, i2, [], 0⟩] scope gp) scope it s H code fp) w (tE X.K C Wno telt)) :
    PE X (.Call (.Name (gname true) fp) [.GeneratorExp w [⟨.Name z zp, i, [], 0⟩, ⟨.Name z2 zp2, i2, [], 0⟩] scope gp] [] p) (tE X.K C W (.gen2 true x tit y tit2 telt)) := by
  obtain ⟨c, P, TB, hcode, hP⟩ := G.tab g1
  obtain ⟨lev, r, _⟩ := G.calls
  have B := genB_ok G g4
  have pg : ∀ it s H code fp, PG (gcx X (.GeneratorExp w [⟨.Name z zp, i, [], 0⟩, ⟨.Name z2 zp2, i2, [], 0⟩] scope gp) scope it s H code fp) (.Name z zp) (tGw X.K C Wno [x, y] (.tname x)) := fun it s H code fp =>
    sgw_name (X := gcx X (.GeneratorExp w [⟨.Name z zp, i, [], 0⟩, ⟨.Name z2 zp2, i2, [], 0⟩] scope gp) scope it s H code fp) (by show X.N.Nodup; rw [G.nN]; exact G.nd) (B.ix (z, x) List.mem_cons_self) (.inl g5) (.inr g5) List.mem_cons_self
  have pg2 : ∀ it s H code fp, PG (gcx X (.GeneratorExp w [⟨.Name z zp, i, [], 0⟩, ⟨.Name z2 zp2, i2, [], 0⟩] scope gp) scope it s H code fp) (.Name z2 zp2) (tGw X.K C Wno [y] (.tname y)) := fun it s H code fp =>
    sgw_name (X := gcx X (.GeneratorExp w [⟨.Name z zp, i, [], 0⟩, ⟨.Name z2 zp2, i2, [], 0⟩] scope gp) scope it s H code fp) (by show X.N.Nodup; rw [G.nN]; exact G.nd) (B.ix (z2, y) (List.mem_cons_of_mem _ List.mem_cons_self)) (.inl g5') (.inr g5') List.mem_cons_self
  exact cvE (pe_all2 (by rw [G.nN]; exact G.nd) r (G.gl _ g3) G.txt.all_ TB hcode B (fun v hv => by
    have hv : v = y := List.mem_singleton.mp hv
    rw [hv]; exact List.mem_cons_of_mem _ List.mem_cons_self) (pi_seq hi) pg (fun it s H code fp => pi_seq (hi2 it s H code fp)) (no_lst' g6') pg2 he (no_lst g6)) fun σ H Q h => co_gen2 hP h
theorem no_set {i : Expr} {env : Env} (h : noSet i = true) : ∀ x, foldedSetIterable i env x = pure x := by
  intro x
  cases i <;> first
    | rfl
    | exact (nope h).elim
mutual
theorem chk_E : ∀ t : Mi.T, SndE Γ N C t
  | .var i => fun X sc G e h => by
    cases e with
    | Name x p => exact g_var G h
    | _ => exact (nope h).elim
  | .mv i => fun X sc G e h => by
    cases e with
    | Name x p => exact g_mv G h
    | _ => exact (nope h).elim
  | .lit d => fun X sc G e h => by
    cases e with
    | Name x p => exact g_con G h
    | Constant c j p =>
      cases c with
      | int i =>
        have h : isInt d i = true := h
        cases d <;> first | (cases h; done) | (cases of_decide_eq_true h; exact se_lit pe_int fun _ _ => .int i)
      | str x =>
        have h : isStr d x = true := h
        cases d <;> first | (cases h; done) | (cases of_decide_eq_true h; exact se_lit pe_str fun _ _ => .str x)
      | bool b =>
        have h : isBl d b = true := h
        cases d <;> first | (cases h; done) | (cases eq_of_beq h; exact se_lit pe_bl fun _ _ => .bl b)
      | none =>
        have h : isNo d = true := h
        cases d <;> first | (cases h; done) | exact se_lit pe_no fun _ _ => .non
      | _ => exact (nope h).elim
    | _ => exact (nope h).elim
  | .tup es => fun X sc G e h => by
    cases e with
    | Tuple xs k p => exact se_tup (chk_Es es X sc G xs h)
    | _ => exact (nope h).elim
  | .lst es => fun X sc G e h => by
    cases e with
    | List xs p => exact se_lst (chk_Es es X sc G xs h)
    | _ => exact (nope h).elim
  | .new (.lst es) => fun X sc G e h => by
    cases e with
    | List xs p => exact se_newLst (chk_Es es X sc G xs h)
    | _ => exact (nope h).elim
  | .op o a b => fun X sc G e h => by
    cases e with
    | BinOp x p y q =>
      obtain ⟨h1, h2⟩ := and2 (show (decide (p = pyOp o) && (chkE Γ N a sc x && chkE Γ N b sc y)) = true from h)
      obtain ⟨h2, h3⟩ := and2 h2
      cases of_decide_eq_true h1
      exact se_op (chk_E a X sc G x h2) (chk_E b X sc G y h3)
    | _ => exact (nope h).elim
  | .neg a => fun X sc G e h => by
    cases e with
    | UnaryOp op x p =>
      cases op with
      | USub => exact se_neg (chk_E a X sc G x h)
      | _ => exact (nope h).elim
    | _ => exact (nope h).elim
  | .not_ a => fun X sc G e h => by
    cases e with
    | UnaryOp op x p =>
      cases op with
      | Not => exact se_not (chk_E a X sc G x h)
      | _ => exact (nope h).elim
    | _ => exact (nope h).elim
  | .cmp c a b => fun X sc G e h => by
    cases e with
    | Compare x ps ys q =>
      match ps, ys, h with
      | [p], [y], h =>
        obtain ⟨h1, h2⟩ := and2 (show (decide (p = pyCm c) && (!behindInMarks p y && (chkE Γ N a sc x && chkE Γ N b sc y))) = true from h)
        obtain ⟨h2, h3⟩ := and2 h2
        obtain ⟨h3, h4⟩ := and2 h3
        cases of_decide_eq_true h1
        exact se_cmp G.room (chk_E a X sc G x h3) (chk_E b X sc G y h4) (not_ h2)
      | [], _, h => exact (nope h).elim
      | [_], [], h => exact (nope h).elim
      | [_], _ :: _ :: _, h => exact (nope h).elim
      | _ :: _ :: _, _, h => exact (nope h).elim
    | _ => exact (nope h).elim
  | .ite c a b => fun X sc G e h => by
    cases e with
    | IfExp x y z p =>
      obtain ⟨h1, h2⟩ := and2 (show (chkT Γ N c sc x && (chkE Γ N a sc y && chkE Γ N b sc z)) = true from h)
      obtain ⟨h2, h3⟩ := and2 h2
      exact se_ite (chk_T c X sc G x h1) (chk_E a X sc G y h2) (chk_E b X sc G z h3)
    | _ => exact (nope h).elim
  | .idx a i => fun X sc G e h => by
    cases e with
    | Subscript x y p =>
      have h0 : ixOk y = true ∧ (chkE Γ N a sc x && chkE Γ N i sc y) = true := and2 h
      obtain ⟨h2, h3⟩ := and2 h0.2
      exact se_idx G.room (chk_E a X sc G x h2) (chk_E i X sc G y h3) (ix_plain h0.1)
    | _ => exact (nope h).elim
  | .dic .nil => fun X sc G e h => by
    cases e with
    | Dict ks vs p =>
      match ks, vs, h with
      | [], [], h => exact se_dic0
      | [], _ :: _, h => exact (nope h).elim
      | _ :: _, _, h => exact (nope h).elim
    | _ => exact (nope h).elim
  | .dic (.cons k (.cons v .nil)) => fun X sc G e h => by
    cases e with
    | Dict ks vs p =>
      match ks, vs, h with
      | [some a], [b], h =>
        obtain ⟨h1, h2⟩ := and2 (show (chkE Γ N k sc a && chkE Γ N v sc b) = true from h)
        exact se_dic1 G.room (chk_E k X sc G a h1) (chk_E v X sc G b h2)
      | [], _, h => exact (nope h).elim
      | [none], _, h => exact (nope h).elim
      | [some _], [], h => exact (nope h).elim
      | [some _], _ :: _ :: _, h => exact (nope h).elim
      | k0 :: k1 :: kr, vs, h => exact (by cases k0 <;> rcases vs with _ | ⟨_, _ | _⟩ <;> exact (nope h).elim)
    | _ => exact (nope h).elim
  | .and_ a b => fun X sc G e h => by
    cases e with
    | BoolOp op xs p =>
      cases op with
      | And =>
        match xs, h with
        | [x, y], h =>
          obtain ⟨h1, h2⟩ := and2 (show (chkE Γ N a sc x && chkE Γ N b sc y) = true from h)
          exact se_and (chk_E a X sc G x h1) (pe_one (chk_E b X sc G y h2))
        | x :: y :: z :: r, h =>
          obtain ⟨h1, h2⟩ := and2 (show (chkE Γ N a sc x && chkE Γ N b sc (.BoolOp .And (y :: z :: r) p)) = true from h)
          exact se_and (chk_E a X sc G x h1) (chk_E b X sc G (.BoolOp .And (y :: z :: r) p) h2)
        | [], h => exact (nope h).elim
        | [_], h => exact (nope h).elim
      | _ => exact (nope h).elim
    | _ => exact (nope h).elim
  | .or_ a b => fun X sc G e h => by
    cases e with
    | BoolOp op xs p =>
      cases op with
      | Or =>
        match xs, h with
        | [x, y], h =>
          obtain ⟨h1, h2⟩ := and2 (show (chkE Γ N a sc x && chkE Γ N b sc y) = true from h)
          exact se_or (chk_E a X sc G x h1) (pe_one (chk_E b X sc G y h2))
        | x :: y :: z :: r, h =>
          obtain ⟨h1, h2⟩ := and2 (show (chkE Γ N a sc x && chkE Γ N b sc (.BoolOp .Or (y :: z :: r) p)) = true from h)
          exact se_or (chk_E a X sc G x h1) (chk_E b X sc G (.BoolOp .Or (y :: z :: r) p) h2)
        | [], h => exact (nope h).elim
        | [_], h => exact (nope h).elim
      | _ => exact (nope h).elim
    | _ => exact (nope h).elim
  | .chain c c' a b z => fun X sc G e h => by
    cases e with
    | Compare x ps ys q =>
      match ps, ys, h with
      | [p, p'], [y, w], h =>
        obtain ⟨g1, k1⟩ := and2 (show (decide (p = pyCm c) && (decide (p' = pyCm c') && (!lastMarks [p, p'] [y, w] && (chkE Γ N a sc x && (chkE Γ N b sc y && chkE Γ N z sc w))))) = true from h)
        obtain ⟨g2, k2⟩ := and2 k1
        obtain ⟨g3, k3⟩ := and2 k2
        obtain ⟨g4, k4⟩ := and2 k3
        obtain ⟨g5, g6⟩ := and2 k4
        obtain rfl := of_decide_eq_true g1
        obtain rfl := of_decide_eq_true g2
        exact se_chain G.room (chk_E a X sc G x g4) (chk_E b X sc G y g5) (chk_E z X sc G w g6) (not_ g3)
      | [], _, h => exact (nope h).elim
      | [_], _, h => exact (nope h).elim
      | [_, _], [], h => exact (nope h).elim
      | [_, _], [_], h => exact (nope h).elim
      | [_, _], _ :: _ :: _ :: _, h => exact (nope h).elim
      | _ :: _ :: _ :: _, _, h => exact (nope h).elim
    | _ => exact (nope h).elim
  | .slc a lo hi => fun X sc G e h => by
    cases e with
    | Subscript x y p =>
      cases y with
      | Slice l u st p2 =>
        cases st with
        | none =>
          obtain ⟨h1, h2⟩ := and2 (show (chkE Γ N a sc x && (chkO Γ N lo sc l && chkO Γ N hi sc u)) = true from h)
          obtain ⟨h2, h3⟩ := and2 h2
          exact se_slc (chk_E a X sc G x h1) (chk_O lo X sc G l h2) (chk_O hi X sc G u h3)
        | some _ => exact (nope h).elim
      | _ => exact (nope h).elim
    | _ => exact (nope h).elim
  | .isn a => fun X sc G e h => by
    rw [chkE.eq_def] at h
    simp only at h
    split at h
    · exact se_isn (chk_E a X sc G _ h)
    · exact (nope h).elim
  | .nisn a => fun X sc G e h => by
    rw [chkE.eq_def] at h
    simp only at h
    split at h
    · exact se_nisn (chk_E a X sc G _ h)
    · exact (nope h).elim
  | .isb b a => fun X sc G e h => by
    rw [chkE.eq_def] at h
    simp only at h
    split at h
    · obtain ⟨h1, h2⟩ := and2 h
      cases eq_of_beq h1
      exact se_isb (chk_E a X sc G _ h2)
    · exact (nope h).elim
  | .nisb b a => fun X sc G e h => by
    rw [chkE.eq_def] at h
    simp only at h
    split at h
    · obtain ⟨h1, h2⟩ := and2 h
      cases eq_of_beq h1
      exact se_nisb (chk_E a X sc G _ h2)
    · exact (nope h).elim
  | .bi b es => fun X sc G e h => by
    rw [chkE.eq_def] at h
    simp only at h
    split at h
    · rename_i x xp y ys p
      obtain ⟨g1, k1⟩ := and2 h
      obtain ⟨g3, k3⟩ := and2 k1
      obtain rfl := of_decide_eq_true g1
      cases ez : easyBi b with
      | true =>
        rw [ez, if_pos rfl] at k3
        obtain ⟨g4, g5⟩ := and2 k3
        exact se_bi G.calm G.room ez (G.gl _ g3) (G.txt.bi b) (chk_Es es X sc G _ g5) (star_cons (and2 g4).1) (stars_off (and2 g4).2)
      | false =>
        rw [ez, if_neg (by decide)] at k3
        obtain ⟨q2, k3⟩ := and2 k3
        cases ys with
        | cons _ _ => exact (nope q2).elim
        | nil =>
          have aux := ite3 k3
          rcases aux with ⟨q1, k9⟩ | ⟨q1, k9⟩ | ⟨q1, k9⟩
          · obtain ⟨a, zp, p2, rfl, m2, m3, m5⟩ := argOf_chk k9
            exact g_set G q1 g3 m2 m3 (chk_Es es X sc G _ m5)
          · have eb : b = .lrange := by cases b <;> first | rfl | exact (nope q1).elim
            subst eb
            obtain ⟨a, zp, p2, rfl, m2, m3, m5⟩ := argOf_chk k9
            exact se_lrange G.calm (G.gl _ g3) (G.txt.bi .lrange) (G.gl _ m2) G.txt.rng (chk_Es es X sc G _ m5) m3
          · have eb : b = .sorted := by cases b <;> first | rfl | exact (nope q1).elim
            subst eb
            obtain ⟨m3, m5⟩ := and2 k9
            exact se_sorted G.room (G.gl _ g3) (G.txt.bi .sorted) (chk_Es es X sc G _ m5) (star_cons m3)
    · exact (nope h).elim
  | .inl neg a ds => fun X sc G e h => by
    rw [chkE.eq_def] at h
    simp only at h
    split at h
    · rename_i x p y q pos
      obtain ⟨g1, k1⟩ := and2 h
      obtain ⟨g2, k2⟩ := and2 k1
      obtain ⟨g3, g4⟩ := and2 k2
      obtain rfl := of_decide_eq_true g1
      exact g_inl G (chk_E a X sc G x g4) g3 (not_ g2)
    · exact (nope h).elim
  | .nil => fun X sc G e h => (nope h).elim
  | .cons _ _ => fun X sc G e h => (nope h).elim
  | .dic (.var _) => fun X sc G e h => (nope h).elim
  | .dic (.mv _) => fun X sc G e h => (nope h).elim
  | .dic (.lit _) => fun X sc G e h => (nope h).elim
  | .dic (.tup _) => fun X sc G e h => (nope h).elim
  | .dic (.lst _) => fun X sc G e h => (nope h).elim
  | .dic (.dic _) => fun X sc G e h => (nope h).elim
  | .dic (.new _) => fun X sc G e h => (nope h).elim
  | .dic (.op _ _ _) => fun X sc G e h => (nope h).elim
  | .dic (.neg _) => fun X sc G e h => (nope h).elim
  | .dic (.not_ _) => fun X sc G e h => (nope h).elim
  | .dic (.tr _) => fun X sc G e h => (nope h).elim
  | .dic (.trb _) => fun X sc G e h => (nope h).elim
  | .dic (.and_ _ _) => fun X sc G e h => (nope h).elim
  | .dic (.or_ _ _) => fun X sc G e h => (nope h).elim
  | .dic (.cmp _ _ _) => fun X sc G e h => (nope h).elim
  | .dic (.chain _ _ _ _ _) => fun X sc G e h => (nope h).elim
  | .dic (.inl _ _ _) => fun X sc G e h => (nope h).elim
  | .dic (.isn _) => fun X sc G e h => (nope h).elim
  | .dic (.nisn _) => fun X sc G e h => (nope h).elim
  | .dic (.isb _ _) => fun X sc G e h => (nope h).elim
  | .dic (.nisb _ _) => fun X sc G e h => (nope h).elim
  | .dic (.ite _ _ _) => fun X sc G e h => (nope h).elim
  | .dic (.idx _ _) => fun X sc G e h => (nope h).elim
  | .dic (.slc _ _ _) => fun X sc G e h => (nope h).elim
  | .dic (.call _ _) => fun X sc G e h => (nope h).elim
  | .dic (.bi _ _) => fun X sc G e h => (nope h).elim
  | .dic (.mth _ _ _) => fun X sc G e h => (nope h).elim
  | .dic (.isi _ _) => fun X sc G e h => (nope h).elim
  | .dic (.comp _ _ _ _ _ _ _) => fun X sc G e h => (nope h).elim
  | .dic (.comp2 _ _ _ _ _ _ _ _ _) => fun X sc G e h => (nope h).elim
  | .dic (.dcomp _ _ _ _ _ _) => fun X sc G e h => (nope h).elim
  | .dic (.gen _ _ _ _) => fun X sc G e h => (nope h).elim
  | .dic (.gen2 _ _ _ _ _ _) => fun X sc G e h => (nope h).elim
  | .dic (.asg _ _) => fun X sc G e h => (nope h).elim
  | .dic (.par _ _) => fun X sc G e h => (nope h).elim
  | .dic (.frz _) => fun X sc G e h => (nope h).elim
  | .dic (.aug _ _ _) => fun X sc G e h => (nope h).elim
  | .dic (.augs _ _ _ _) => fun X sc G e h => (nope h).elim
  | .dic (.if_ _ _ _) => fun X sc G e h => (nope h).elim
  | .dic (.whl _ _) => fun X sc G e h => (nope h).elim
  | .dic (.for_ _ _ _ _) => fun X sc G e h => (nope h).elim
  | .dic (.ret _) => fun X sc G e h => (nope h).elim
  | .dic (.xpr _) => fun X sc G e h => (nope h).elim
  | .dic (.rais _ _) => fun X sc G e h => (nope h).elim
  | .dic (.try_ _ _ _) => fun X sc G e h => (nope h).elim
  | .dic (.pass) => fun X sc G e h => (nope h).elim
  | .dic (.brk) => fun X sc G e h => (nope h).elim
  | .dic (.cnt) => fun X sc G e h => (nope h).elim
  | .dic (.tname _) => fun X sc G e h => (nope h).elim
  | .dic (.ttup _) => fun X sc G e h => (nope h).elim
  | .dic (.tsub _ _) => fun X sc G e h => (nope h).elim
  | .new (.nil) => fun X sc G e h => (nope h).elim
  | .new (.cons _ _) => fun X sc G e h => (nope h).elim
  | .new (.var _) => fun X sc G e h => (nope h).elim
  | .new (.mv _) => fun X sc G e h => (nope h).elim
  | .new (.lit _) => fun X sc G e h => (nope h).elim
  | .new (.tup _) => fun X sc G e h => (nope h).elim
  | .new (.dic _) => fun X sc G e h => (nope h).elim
  | .new (.new _) => fun X sc G e h => (nope h).elim
  | .new (.op o a b) => fun X sc G e h => by
    cases e with
    | BinOp x p y q =>
      obtain ⟨h1, h2⟩ := and2 (show (decide (p = pyOp o) && (chkE Γ N a sc x && chkE Γ N b sc y)) = true from h)
      obtain ⟨h2, h3⟩ := and2 h2
      cases of_decide_eq_true h1
      exact se_newOp (chk_E a X sc G x h2) (chk_E b X sc G y h3)
    | _ => exact (nope h).elim
  | .new (.neg _) => fun X sc G e h => (nope h).elim
  | .new (.not_ _) => fun X sc G e h => (nope h).elim
  | .new (.tr _) => fun X sc G e h => (nope h).elim
  | .new (.trb _) => fun X sc G e h => (nope h).elim
  | .new (.and_ _ _) => fun X sc G e h => (nope h).elim
  | .new (.or_ _ _) => fun X sc G e h => (nope h).elim
  | .new (.cmp _ _ _) => fun X sc G e h => (nope h).elim
  | .new (.chain _ _ _ _ _) => fun X sc G e h => (nope h).elim
  | .new (.inl _ _ _) => fun X sc G e h => (nope h).elim
  | .new (.isn _) => fun X sc G e h => (nope h).elim
  | .new (.nisn _) => fun X sc G e h => (nope h).elim
  | .new (.isb _ _) => fun X sc G e h => (nope h).elim
  | .new (.nisb _ _) => fun X sc G e h => (nope h).elim
  | .new (.ite _ _ _) => fun X sc G e h => (nope h).elim
  | .new (.idx _ _) => fun X sc G e h => (nope h).elim
  | .new (.slc a lo hi) => fun X sc G e h => by
    cases e with
    | Subscript x y p =>
      cases y with
      | Slice l u st p2 =>
        cases st with
        | none =>
          obtain ⟨h1, h2⟩ := and2 (show (chkE Γ N a sc x && (chkO Γ N lo sc l && chkO Γ N hi sc u)) = true from h)
          obtain ⟨h2, h3⟩ := and2 h2
          exact se_newSlc (chk_E a X sc G x h1) (chk_O lo X sc G l h2) (chk_O hi X sc G u h3)
        | some _ => exact (nope h).elim
      | _ => exact (nope h).elim
    | _ => exact (nope h).elim
  | .new (.call _ _) => fun X sc G e h => (nope h).elim
  | .new (.bi b es) => fun X sc G e h => by
    cases b with
    | ltup =>
      rw [chkE.eq_def] at h
      simp only at h
      split at h
      · obtain ⟨g1, k1⟩ := and2 h
        obtain ⟨g2, k2⟩ := and2 k1
        obtain ⟨g3, g4⟩ := and2 k2
        obtain rfl := of_decide_eq_true g1
        exact cvX (pe_callTy call_tupF (G.gl _ g2) (G.txt.bi .tuple) (show bootBuiltins "tuple" = some (.type "tuple") by decide +kernel) (chk_Es es X sc G _ g4) (by decide) (by decide) (star_cons (and2 g3).1) (stars_off (and2 g3).2)) co_newT
      · exact (nope h).elim
    | list =>
      rw [chkE.eq_def] at h
      simp only at h
      split at h
      · obtain ⟨g1, k1⟩ := and2 h
        obtain ⟨g2, k2⟩ := and2 k1
        obtain ⟨g3, g4⟩ := and2 k2
        obtain rfl := of_decide_eq_true g1
        exact se_newList G.calm G.room (G.gl _ g2) (G.txt.bi .list) (chk_Es es X sc G _ g4) (star_cons (and2 g3).1) (stars_off (and2 g3).2)
      · exact (nope h).elim
    | lrange =>
      rw [chkE.eq_def] at h
      simp only at h
      split at h
      · obtain ⟨g1, k1⟩ := and2 h
        obtain ⟨g2, k2⟩ := and2 k1
        obtain ⟨g3, k3⟩ := and2 k2
        obtain ⟨g4, k4⟩ := and2 k3
        obtain ⟨g5, g6⟩ := and2 k4
        obtain rfl := of_decide_eq_true g1
        obtain rfl := of_decide_eq_true g3
        exact se_newLrange G.calm (G.gl _ g2) (G.txt.bi .lrange) (G.gl _ g4) G.txt.rng (chk_Es es X sc G _ g6) g5
      · exact (nope h).elim
    | _ => exact (nope h).elim
  | .new (.mth _ _ _) => fun X sc G e h => (nope h).elim
  | .new (.isi _ _) => fun X sc G e h => (nope h).elim
  | .new (.comp _ _ _ _ _ _ _) => fun X sc G e h => (nope h).elim
  | .new (.comp2 _ _ _ _ _ _ _ _ _) => fun X sc G e h => (nope h).elim
  | .new (.dcomp _ _ _ _ _ _) => fun X sc G e h => (nope h).elim
  | .new (.gen _ _ _ _) => fun X sc G e h => (nope h).elim
  | .new (.gen2 _ _ _ _ _ _) => fun X sc G e h => (nope h).elim
  | .new (.asg _ _) => fun X sc G e h => (nope h).elim
  | .new (.par _ _) => fun X sc G e h => (nope h).elim
  | .new (.frz _) => fun X sc G e h => (nope h).elim
  | .new (.aug _ _ _) => fun X sc G e h => (nope h).elim
  | .new (.augs _ _ _ _) => fun X sc G e h => (nope h).elim
  | .new (.if_ _ _ _) => fun X sc G e h => (nope h).elim
  | .new (.whl _ _) => fun X sc G e h => (nope h).elim
  | .new (.for_ _ _ _ _) => fun X sc G e h => (nope h).elim
  | .new (.ret _) => fun X sc G e h => (nope h).elim
  | .new (.xpr _) => fun X sc G e h => (nope h).elim
  | .new (.rais _ _) => fun X sc G e h => (nope h).elim
  | .new (.try_ _ _ _) => fun X sc G e h => (nope h).elim
  | .new (.pass) => fun X sc G e h => (nope h).elim
  | .new (.brk) => fun X sc G e h => (nope h).elim
  | .new (.cnt) => fun X sc G e h => (nope h).elim
  | .new (.tname _) => fun X sc G e h => (nope h).elim
  | .new (.ttup _) => fun X sc G e h => (nope h).elim
  | .new (.tsub _ _) => fun X sc G e h => (nope h).elim
  | .tr _ => fun X sc G e h => (nope h).elim
  | .trb _ => fun X sc G e h => (nope h).elim
  | .call f es => fun X sc G e h => by
    rw [chkE.eq_def] at h
    simp only at h
    split at h
    · obtain ⟨g1, k1⟩ := and2 h
      obtain ⟨g2, k2⟩ := and2 k1
      obtain ⟨g3, k3⟩ := and2 k2
      obtain ⟨g4, k4⟩ := and2 k3
      obtain ⟨g5, g6⟩ := and2 k4
      exact G.callW _ f _ _ es _ _ g1 (G.gl _ g2) (not_ g3) g4 (chkEs_len g6) g5 (chk_Es es X sc G _ g6)
    · exact (nope h).elim
  | .mth m o es => fun X sc G e h => by
    rw [chkE.eq_def] at h
    simp only at h
    split at h
    · obtain ⟨g1, k1⟩ := and2 h
      obtain ⟨g2, k2⟩ := and2 k1
      obtain ⟨g3, k3⟩ := and2 k2
      have ho := chk_E o X sc G _ g2
      have ha := chk_Es es X sc G _ g3
      split at k3
      · obtain rfl := of_decide_eq_true k3
        exact se_append ho ha g1
      · obtain rfl := of_decide_eq_true k3
        have hn : es = .nil := by
          cases es <;> first
            | rfl
            | exact (nope g3).elim
        subst hn
        exact se_pop ho g1
      · obtain rfl := of_decide_eq_true k3
        exact se_popAt ho ha g1
      · obtain rfl := of_decide_eq_true k3
        exact se_setd G.room ho ha g1
      · obtain rfl := of_decide_eq_true k3
        exact se_index G.room ho ha g1
      · obtain rfl := of_decide_eq_true k3
        exact se_tix ho ha g1
      · obtain rfl := of_decide_eq_true k3
        exact se_join ho ha g1
      · obtain rfl := of_decide_eq_true k3
        exact se_get G.room ho ha g1
      · obtain rfl := of_decide_eq_true k3
        exact se_six ho ha g1
      · exact (nope k3).elim
    · exact (nope h).elim
  | .isi a ts => fun X sc G e h => by
    rw [chkE.eq_def] at h
    simp only at h
    split at h
    · split at h
      · obtain ⟨g1, k1⟩ := and2 h
        obtain ⟨g2, k2⟩ := and2 k1
        obtain ⟨g3, k3⟩ := and2 k2
        obtain ⟨g4, k4⟩ := and2 k3
        obtain ⟨g5, g6⟩ := and2 k4
        obtain rfl := of_decide_eq_true g1
        obtain rfl := of_decide_eq_true g2
        exact se_isi (G.gl _ g3) G.txt.isi (G.gl _ g4) (G.txt.ty _) (chk_E a X sc G _ g6) g5
      · exact (nope h).elim
    · split at h
      · obtain ⟨g1, k1⟩ := and2 h
        obtain ⟨g2, k2⟩ := and2 k1
        obtain ⟨g3, k3⟩ := and2 k2
        obtain ⟨g4, k4⟩ := and2 k3
        obtain ⟨g5, k5⟩ := and2 k4
        obtain ⟨g6, k6⟩ := and2 k5
        obtain ⟨g7, g8⟩ := and2 k6
        obtain rfl := of_decide_eq_true g1
        obtain rfl := of_decide_eq_true g2
        obtain rfl := of_decide_eq_true g3
        exact se_isi2 (G.gl _ g4) G.txt.isi (G.gl _ g5) (G.txt.ty _) (G.gl _ g6) (G.txt.ty _) (chk_E a X sc G _ g8) g7
      · exact (nope h).elim
    · exact (nope h).elim
  | .comp k tg w it ifs elt own => fun X sc G e h => by
    rw [chkE.eq_def] at h
    simp only at h
    split at h
    · rename_i y g i fs scope p
      obtain ⟨g1, k1⟩ := and2 h
      obtain ⟨g2, k2⟩ := and2 k1
      obtain ⟨g3, k3⟩ := and2 k2
      obtain ⟨g4, g5⟩ := and2 k3
      obtain ⟨wi, hi, hf, hs, _⟩ := chk_I it X sc G w g i g3
      have eo : (ownOf N own).map (·.2) = own := by
        have : ∀ l : List Nat, (ownOf N l).map (·.2) = l := by
          intro l
          induction l with
          | nil => rfl
          | cons a b ih => show a :: (ownOf N b).map (·.2) = _; rw [ih]
        exact this own
      have pt : Parts X C g fs y scope (ownOf N own) tg ifs elt := by
        refine ⟨blk_ok G g1, fun s H A cl fp => ?_, fun s H A cl fp => ?_, fun s H A cl fp => ?_⟩
        · rw [eo]
          exact (chk_Wboth (G.blk (of_decide_eq_true (and2 g1).1) (and2 (and2 (and2 g1).2).2).1 s H A cl fp) tg).1 g g2
        · cases fs with
          | nil =>
            cases ifs <;> first
              | exact sts_nil
              | exact (nope g4).elim
          | cons f r =>
            cases r with
            | nil => exact sts_one (chk_T ifs _ _ (G.blk (of_decide_eq_true (and2 g1).1) (and2 (and2 (and2 g1).2).2).1 s H A cl fp) f g4)
            | cons _ _ => exact (nope g4).elim
        · exact chk_E elt _ _ (G.blk (of_decide_eq_true (and2 g1).1) (and2 (and2 (and2 g1).2).2).1 s H A cl fp) y g5
      have := se_comp (k := k) (pos := p) G.calm (by rw [G.nN]; exact G.nd) hi hf pt hs
      rw [eo] at this
      exact this
    · exact (nope h).elim
  | .comp2 k tg w it tg2 w2 it2 elt own => fun X sc G e h => by
    rename_i W
    rw [chkE.eq_def] at h
    simp only at h
    split at h
    · rename_i y g i g2 i2 scope p
      obtain ⟨g1, k1⟩ := and2 h
      obtain ⟨gs, k1⟩ := and2 k1
      obtain ⟨gt, k1⟩ := and2 k1
      obtain ⟨gt2, k1⟩ := and2 k1
      obtain ⟨gi, k1⟩ := and2 k1
      obtain ⟨gi2, ge⟩ := and2 k1
      obtain ⟨wi, hi, _, hs, ew⟩ := chk_I it X sc G w g i gi
      have hf : Feed X C W w it wi := by rw [ew]; exact (wi_shape gi).1
      have eo := ownOf_slots N own
      have blk := fun s H A cl fp => G.blk (of_decide_eq_true (and2 g1).1) (and2 (and2 (and2 g1).2).2).1 s H A cl fp
      have sh := wi_shape (X := X) (C := C) (W := Wno) gi2
      have pt : Parts2 X C g g2 i2 y scope (ownOf N own) tg tg2 it2 elt w2 (wiOf X.K C Wno it2 w2) := by
        refine ⟨blk_ok G g1, fun j hj => ?_, fun s H A cl fp => ?_, fun s H A cl fp => ?_, sh.1, fun s H A cl fp => ?_, fun s H A cl fp => ?_, sh.2⟩
        · rw [eo]
          have := List.all_eq_true.mp gs j hj
          simpa using this
        · rw [eo]
          exact (chk_Wboth (blk s H A cl fp) tg).1 g gt
        · obtain ⟨wi1, hi1, _, _, ew1⟩ := chk_I it2 _ _ (blk s H A cl fp) w2 g2 i2 gi2
          rw [ew1] at hi1
          exact hi1
        · exact (chk_Wboth (blk s H A cl fp) tg2).1 g2 gt2
        · exact chk_E elt _ _ (blk s H A cl fp) y ge
      have := se_comp2 (k := k) (pos := p) G.calm (by rw [G.nN]; exact G.nd) hi hf pt hs
      rw [eo] at this
      exact this
    · exact (nope h).elim
  | .dcomp tg w it k v own => fun X sc G e h => by
    rename_i W
    rw [chkE.eq_def] at h
    simp only at h
    split at h
    · rename_i kx vx g i scope p
      obtain ⟨g1, k1⟩ := and2 h
      obtain ⟨gt, k1⟩ := and2 k1
      obtain ⟨gi, k1⟩ := and2 k1
      obtain ⟨gk, gv⟩ := and2 k1
      obtain ⟨wi, hi, _, hs, ew⟩ := chk_I it X sc G w g i gi
      have hf : Feed X C W w it wi := by rw [ew]; exact (wi_shape gi).1
      have eo := ownOf_slots N own
      have blk := fun s H A cl fp => G.blk (of_decide_eq_true (and2 g1).1) (and2 (and2 (and2 g1).2).2).1 s H A cl fp
      have pt : PartsD X C g kx vx scope (ownOf N own) tg k v := by
        refine ⟨blk_ok G g1, fun s H A cl fp => ?_, fun s H A cl fp => ?_, fun s H A cl fp => ?_⟩
        · rw [eo]
          exact (chk_Wboth (blk s H A cl fp) tg).1 g gt
        · exact chk_E k _ _ (blk s H A cl fp) kx gk
        · exact chk_E v _ _ (blk s H A cl fp) vx gv
      have := se_dcomp (pos := p) G.room G.calm (by rw [G.nN]; exact G.nd) hi hf pt hs
      rw [eo] at this
      exact this
    · exact (nope h).elim
  | .gen all x it elt => fun X sc G e h => by
    rw [chkE.eq_def] at h
    simp only at h
    split at h
    · rename_i f fp y z zp i scope gp p
      obtain ⟨g1, k1⟩ := and2 h
      obtain ⟨g2, k2⟩ := and2 k1
      obtain ⟨g3, k3⟩ := and2 k2
      obtain ⟨g4, k4⟩ := and2 k3
      obtain ⟨g5, k5⟩ := and2 k4
      obtain ⟨g6, k6⟩ := and2 k5
      obtain ⟨g7, g8⟩ := and2 k6
      obtain rfl := of_decide_eq_true g2
      exact g_gen G g1 g3 g4 (of_decide_eq_true g5) g6 (chk_E it X sc G _ g7) fun it s H code fp => chk_E elt _ _ (G.gen g1 g4 it s H code fp) y g8
    · exact (nope h).elim
  | .gen2 all x it y it2 elt => fun X sc G e h => by
    rw [chkE.eq_def] at h
    simp only at h
    split at h
    · rename_i f fp w z zp i z2 zp2 i2 scope gp p
      obtain ⟨g0, h⟩ := and2 h
      obtain ⟨g1, k1⟩ := and2 h
      obtain ⟨g2, k2⟩ := and2 k1
      obtain ⟨g3, k3⟩ := and2 k2
      obtain ⟨g4, k4⟩ := and2 k3
      obtain ⟨g5, k5⟩ := and2 k4
      obtain ⟨g6, k6⟩ := and2 k5
      obtain ⟨g7, k7⟩ := and2 k6
      obtain ⟨g8, k8⟩ := and2 k7
      obtain ⟨g9, k9⟩ := and2 k8
      obtain ⟨g10, g11⟩ := and2 k9
      obtain rfl := of_decide_eq_true g2
      subst g0
      exact g_gen2 G g1 g3 g4 (of_decide_eq_true g5) (of_decide_eq_true g6) g7 g8 (chk_E it X sc G _ g9) (fun it s H code fp => chk_E it2 _ _ (G.gen g1 g4 it s H code fp) i2 g10) fun it s H code fp => chk_E elt _ _ (G.gen g1 g4 it s H code fp) w g11
    · exact (nope h).elim
  | .asg _ _ => fun X sc G e h => (nope h).elim
  | .par _ _ => fun X sc G e h => (nope h).elim
  | .frz _ => fun X sc G e h => (nope h).elim
  | .aug _ _ _ => fun X sc G e h => (nope h).elim
  | .augs _ _ _ _ => fun X sc G e h => (nope h).elim
  | .if_ _ _ _ => fun X sc G e h => (nope h).elim
  | .whl _ _ => fun X sc G e h => (nope h).elim
  | .for_ _ _ _ _ => fun X sc G e h => (nope h).elim
  | .ret _ => fun X sc G e h => (nope h).elim
  | .xpr _ => fun X sc G e h => (nope h).elim
  | .rais _ _ => fun X sc G e h => (nope h).elim
  | .try_ _ _ _ => fun X sc G e h => (nope h).elim
  | .pass => fun X sc G e h => (nope h).elim
  | .brk => fun X sc G e h => (nope h).elim
  | .cnt => fun X sc G e h => (nope h).elim
  | .tname _ => fun X sc G e h => (nope h).elim
  | .ttup _ => fun X sc G e h => (nope h).elim
  | .tsub _ _ => fun X sc G e h => (nope h).elim
  | .dic (.cons k .nil) => fun X sc G e h => (nope h).elim
  | .dic (.cons k (.cons v (.cons a b))) => fun X sc G e h => (nope h).elim
  | .dic (.cons k (.var _)) => fun X sc G e h => (nope h).elim
  | .dic (.cons k (.mv _)) => fun X sc G e h => (nope h).elim
  | .dic (.cons k (.lit _)) => fun X sc G e h => (nope h).elim
  | .dic (.cons k (.tup _)) => fun X sc G e h => (nope h).elim
  | .dic (.cons k (.lst _)) => fun X sc G e h => (nope h).elim
  | .dic (.cons k (.dic _)) => fun X sc G e h => (nope h).elim
  | .dic (.cons k (.new _)) => fun X sc G e h => (nope h).elim
  | .dic (.cons k (.op _ _ _)) => fun X sc G e h => (nope h).elim
  | .dic (.cons k (.neg _)) => fun X sc G e h => (nope h).elim
  | .dic (.cons k (.not_ _)) => fun X sc G e h => (nope h).elim
  | .dic (.cons k (.tr _)) => fun X sc G e h => (nope h).elim
  | .dic (.cons k (.trb _)) => fun X sc G e h => (nope h).elim
  | .dic (.cons k (.and_ _ _)) => fun X sc G e h => (nope h).elim
  | .dic (.cons k (.or_ _ _)) => fun X sc G e h => (nope h).elim
  | .dic (.cons k (.cmp _ _ _)) => fun X sc G e h => (nope h).elim
  | .dic (.cons k (.chain _ _ _ _ _)) => fun X sc G e h => (nope h).elim
  | .dic (.cons k (.inl _ _ _)) => fun X sc G e h => (nope h).elim
  | .dic (.cons k (.isn _)) => fun X sc G e h => (nope h).elim
  | .dic (.cons k (.nisn _)) => fun X sc G e h => (nope h).elim
  | .dic (.cons k (.isb _ _)) => fun X sc G e h => (nope h).elim
  | .dic (.cons k (.nisb _ _)) => fun X sc G e h => (nope h).elim
  | .dic (.cons k (.ite _ _ _)) => fun X sc G e h => (nope h).elim
  | .dic (.cons k (.idx _ _)) => fun X sc G e h => (nope h).elim
  | .dic (.cons k (.slc _ _ _)) => fun X sc G e h => (nope h).elim
  | .dic (.cons k (.call _ _)) => fun X sc G e h => (nope h).elim
  | .dic (.cons k (.bi _ _)) => fun X sc G e h => (nope h).elim
  | .dic (.cons k (.mth _ _ _)) => fun X sc G e h => (nope h).elim
  | .dic (.cons k (.isi _ _)) => fun X sc G e h => (nope h).elim
  | .dic (.cons k (.comp _ _ _ _ _ _ _)) => fun X sc G e h => (nope h).elim
  | .dic (.cons k (.comp2 _ _ _ _ _ _ _ _ _)) => fun X sc G e h => (nope h).elim
  | .dic (.cons k (.dcomp _ _ _ _ _ _)) => fun X sc G e h => (nope h).elim
  | .dic (.cons k (.gen _ _ _ _)) => fun X sc G e h => (nope h).elim
  | .dic (.cons k (.gen2 _ _ _ _ _ _)) => fun X sc G e h => (nope h).elim
  | .dic (.cons k (.asg _ _)) => fun X sc G e h => (nope h).elim
  | .dic (.cons k (.par _ _)) => fun X sc G e h => (nope h).elim
  | .dic (.cons k (.frz _)) => fun X sc G e h => (nope h).elim
  | .dic (.cons k (.aug _ _ _)) => fun X sc G e h => (nope h).elim
  | .dic (.cons k (.augs _ _ _ _)) => fun X sc G e h => (nope h).elim
  | .dic (.cons k (.if_ _ _ _)) => fun X sc G e h => (nope h).elim
  | .dic (.cons k (.whl _ _)) => fun X sc G e h => (nope h).elim
  | .dic (.cons k (.for_ _ _ _ _)) => fun X sc G e h => (nope h).elim
  | .dic (.cons k (.ret _)) => fun X sc G e h => (nope h).elim
  | .dic (.cons k (.xpr _)) => fun X sc G e h => (nope h).elim
  | .dic (.cons k (.rais _ _)) => fun X sc G e h => (nope h).elim
  | .dic (.cons k (.try_ _ _ _)) => fun X sc G e h => (nope h).elim
  | .dic (.cons k (.pass)) => fun X sc G e h => (nope h).elim
  | .dic (.cons k (.brk)) => fun X sc G e h => (nope h).elim
  | .dic (.cons k (.cnt)) => fun X sc G e h => (nope h).elim
  | .dic (.cons k (.tname _)) => fun X sc G e h => (nope h).elim
  | .dic (.cons k (.ttup _)) => fun X sc G e h => (nope h).elim
  | .dic (.cons k (.tsub _ _)) => fun X sc G e h => (nope h).elim
  | .dic (.cons k (.cons v (.var _))) => fun X sc G e h => (nope h).elim
  | .dic (.cons k (.cons v (.mv _))) => fun X sc G e h => (nope h).elim
  | .dic (.cons k (.cons v (.lit _))) => fun X sc G e h => (nope h).elim
  | .dic (.cons k (.cons v (.tup _))) => fun X sc G e h => (nope h).elim
  | .dic (.cons k (.cons v (.lst _))) => fun X sc G e h => (nope h).elim
  | .dic (.cons k (.cons v (.dic _))) => fun X sc G e h => (nope h).elim
  | .dic (.cons k (.cons v (.new _))) => fun X sc G e h => (nope h).elim
  | .dic (.cons k (.cons v (.op _ _ _))) => fun X sc G e h => (nope h).elim
  | .dic (.cons k (.cons v (.neg _))) => fun X sc G e h => (nope h).elim
  | .dic (.cons k (.cons v (.not_ _))) => fun X sc G e h => (nope h).elim
  | .dic (.cons k (.cons v (.tr _))) => fun X sc G e h => (nope h).elim
  | .dic (.cons k (.cons v (.trb _))) => fun X sc G e h => (nope h).elim
  | .dic (.cons k (.cons v (.and_ _ _))) => fun X sc G e h => (nope h).elim
  | .dic (.cons k (.cons v (.or_ _ _))) => fun X sc G e h => (nope h).elim
  | .dic (.cons k (.cons v (.cmp _ _ _))) => fun X sc G e h => (nope h).elim
  | .dic (.cons k (.cons v (.chain _ _ _ _ _))) => fun X sc G e h => (nope h).elim
  | .dic (.cons k (.cons v (.inl _ _ _))) => fun X sc G e h => (nope h).elim
  | .dic (.cons k (.cons v (.isn _))) => fun X sc G e h => (nope h).elim
  | .dic (.cons k (.cons v (.nisn _))) => fun X sc G e h => (nope h).elim
  | .dic (.cons k (.cons v (.isb _ _))) => fun X sc G e h => (nope h).elim
  | .dic (.cons k (.cons v (.nisb _ _))) => fun X sc G e h => (nope h).elim
  | .dic (.cons k (.cons v (.ite _ _ _))) => fun X sc G e h => (nope h).elim
  | .dic (.cons k (.cons v (.idx _ _))) => fun X sc G e h => (nope h).elim
  | .dic (.cons k (.cons v (.slc _ _ _))) => fun X sc G e h => (nope h).elim
  | .dic (.cons k (.cons v (.call _ _))) => fun X sc G e h => (nope h).elim
  | .dic (.cons k (.cons v (.bi _ _))) => fun X sc G e h => (nope h).elim
  | .dic (.cons k (.cons v (.mth _ _ _))) => fun X sc G e h => (nope h).elim
  | .dic (.cons k (.cons v (.isi _ _))) => fun X sc G e h => (nope h).elim
  | .dic (.cons k (.cons v (.comp _ _ _ _ _ _ _))) => fun X sc G e h => (nope h).elim
  | .dic (.cons k (.cons v (.comp2 _ _ _ _ _ _ _ _ _))) => fun X sc G e h => (nope h).elim
  | .dic (.cons k (.cons v (.dcomp _ _ _ _ _ _))) => fun X sc G e h => (nope h).elim
  | .dic (.cons k (.cons v (.gen _ _ _ _))) => fun X sc G e h => (nope h).elim
  | .dic (.cons k (.cons v (.gen2 _ _ _ _ _ _))) => fun X sc G e h => (nope h).elim
  | .dic (.cons k (.cons v (.asg _ _))) => fun X sc G e h => (nope h).elim
  | .dic (.cons k (.cons v (.par _ _))) => fun X sc G e h => (nope h).elim
  | .dic (.cons k (.cons v (.frz _))) => fun X sc G e h => (nope h).elim
  | .dic (.cons k (.cons v (.aug _ _ _))) => fun X sc G e h => (nope h).elim
  | .dic (.cons k (.cons v (.augs _ _ _ _))) => fun X sc G e h => (nope h).elim
  | .dic (.cons k (.cons v (.if_ _ _ _))) => fun X sc G e h => (nope h).elim
  | .dic (.cons k (.cons v (.whl _ _))) => fun X sc G e h => (nope h).elim
  | .dic (.cons k (.cons v (.for_ _ _ _ _))) => fun X sc G e h => (nope h).elim
  | .dic (.cons k (.cons v (.ret _))) => fun X sc G e h => (nope h).elim
  | .dic (.cons k (.cons v (.xpr _))) => fun X sc G e h => (nope h).elim
  | .dic (.cons k (.cons v (.rais _ _))) => fun X sc G e h => (nope h).elim
  | .dic (.cons k (.cons v (.try_ _ _ _))) => fun X sc G e h => (nope h).elim
  | .dic (.cons k (.cons v (.pass))) => fun X sc G e h => (nope h).elim
  | .dic (.cons k (.cons v (.brk))) => fun X sc G e h => (nope h).elim
  | .dic (.cons k (.cons v (.cnt))) => fun X sc G e h => (nope h).elim
  | .dic (.cons k (.cons v (.tname _))) => fun X sc G e h => (nope h).elim
  | .dic (.cons k (.cons v (.ttup _))) => fun X sc G e h => (nope h).elim
  | .dic (.cons k (.cons v (.tsub _ _))) => fun X sc G e h => (nope h).elim
theorem chk_I : ∀ t : Mi.T, SndI Γ N C t
  | .cons a .nil => fun X sc G w g i h => by
    cases w with
    | plain =>
      obtain ⟨h1, h2⟩ := and2 (show (noSet i && chkE Γ N a sc i) = true from h)
      exact ⟨_, pi_seq (chk_E a X sc G i h2), feeds_plain, no_set h1, rfl⟩
    | range =>
      rw [chkI.eq_def] at h
      simp only at h
      split at h
      · obtain ⟨g1, k1⟩ := and2 h
        obtain ⟨g2, k2⟩ := and2 k1
        obtain ⟨g3, g4⟩ := and2 k2
        obtain rfl := of_decide_eq_true g1
        exact ⟨_, pi_range1 (G.gl _ g2) G.txt.rng (pa_cons (chk_E a X sc G _ g4) pa_nil (star_cons g3)) (star_cons g3), feeds_range1, fun _ => rfl, rfl⟩
      · exact (nope h).elim
    | enum =>
      rw [chkI.eq_def] at h
      simp only at h
      split at h
      · obtain ⟨g1, k1⟩ := and2 h
        obtain ⟨g2, k2⟩ := and2 k1
        obtain ⟨g3, k3⟩ := and2 k2
        obtain ⟨g4, g5⟩ := and2 k3
        obtain rfl := of_decide_eq_true g1
        cases g with
        | Tuple es kk tp => exact ⟨_, pi_enumA (G.gl _ g3) G.txt.enu (pa_cons (chk_E a X sc G _ g5) pa_nil (star_cons g4)) (star_cons g4), feeds_enum, fun _ => rfl, rfl⟩
        | _ => exact (nope g2).elim
      · exact (nope h).elim
    | _ => exact (nope h).elim
  | .cons a (.cons b .nil) => fun X sc G w g i h => by
    cases w with
    | range =>
      rw [chkI.eq_def] at h
      simp only at h
      split at h
      · obtain ⟨g1, k1⟩ := and2 h
        obtain ⟨g2, k2⟩ := and2 k1
        obtain ⟨g3, k3⟩ := and2 k2
        obtain ⟨g4, k4⟩ := and2 k3
        obtain ⟨g5, g6⟩ := and2 k4
        obtain rfl := of_decide_eq_true g1
        exact ⟨_, pi_range2 (G.gl _ g2) G.txt.rng (pa_cons (chk_E a X sc G _ g5) (pa_cons (chk_E b X sc G _ g6) pa_nil (star_cons g4)) (star_cons g3)) (by rw [star_cons g3, star_cons g4]; rfl) (star_cons g4), feeds_range2, fun _ => rfl, rfl⟩
      · exact (nope h).elim
    | zip =>
      rw [chkI.eq_def] at h
      simp only at h
      split at h
      · obtain ⟨g1, k1⟩ := and2 h
        obtain ⟨g2, k2⟩ := and2 k1
        obtain ⟨g3, k3⟩ := and2 k2
        obtain ⟨g4, k4⟩ := and2 k3
        obtain ⟨g5, k5⟩ := and2 k4
        obtain ⟨g6, g7⟩ := and2 k5
        obtain rfl := of_decide_eq_true g1
        cases g with
        | Tuple es kk tp => exact ⟨_, RZ.pi_zipA (G.gl _ g3) G.txt.zip (pa_cons (chk_E a X sc G _ g6) (pa_cons (chk_E b X sc G _ g7) pa_nil (star_cons g5)) (star_cons g4)) (star_cons g4) (by rw [star_cons g5]; rfl), feeds_zip, fun _ => rfl, rfl⟩
        | _ => exact (nope g2).elim
      · exact (nope h).elim
    | _ => exact (nope h).elim
  | .nil => fun X sc G w g i h => (nope h).elim
  | .var _ => fun X sc G w g i h => (nope h).elim
  | .mv _ => fun X sc G w g i h => (nope h).elim
  | .lit _ => fun X sc G w g i h => (nope h).elim
  | .tup _ => fun X sc G w g i h => (nope h).elim
  | .lst _ => fun X sc G w g i h => (nope h).elim
  | .dic _ => fun X sc G w g i h => (nope h).elim
  | .new _ => fun X sc G w g i h => (nope h).elim
  | .op _ _ _ => fun X sc G w g i h => (nope h).elim
  | .neg _ => fun X sc G w g i h => (nope h).elim
  | .not_ _ => fun X sc G w g i h => (nope h).elim
  | .tr _ => fun X sc G w g i h => (nope h).elim
  | .trb _ => fun X sc G w g i h => (nope h).elim
  | .and_ _ _ => fun X sc G w g i h => (nope h).elim
  | .or_ _ _ => fun X sc G w g i h => (nope h).elim
  | .cmp _ _ _ => fun X sc G w g i h => (nope h).elim
  | .chain _ _ _ _ _ => fun X sc G w g i h => (nope h).elim
  | .inl _ _ _ => fun X sc G w g i h => (nope h).elim
  | .isn _ => fun X sc G w g i h => (nope h).elim
  | .nisn _ => fun X sc G w g i h => (nope h).elim
  | .isb _ _ => fun X sc G w g i h => (nope h).elim
  | .nisb _ _ => fun X sc G w g i h => (nope h).elim
  | .ite _ _ _ => fun X sc G w g i h => (nope h).elim
  | .idx _ _ => fun X sc G w g i h => (nope h).elim
  | .slc _ _ _ => fun X sc G w g i h => (nope h).elim
  | .call _ _ => fun X sc G w g i h => (nope h).elim
  | .bi _ _ => fun X sc G w g i h => (nope h).elim
  | .mth _ _ _ => fun X sc G w g i h => (nope h).elim
  | .isi _ _ => fun X sc G w g i h => (nope h).elim
  | .comp _ _ _ _ _ _ _ => fun X sc G w g i h => (nope h).elim
  | .comp2 _ _ _ _ _ _ _ _ _ => fun X sc G w g i h => (nope h).elim
  | .dcomp _ _ _ _ _ _ => fun X sc G w g i h => (nope h).elim
  | .gen _ _ _ _ => fun X sc G w g i h => (nope h).elim
  | .gen2 _ _ _ _ _ _ => fun X sc G w g i h => (nope h).elim
  | .asg _ _ => fun X sc G w g i h => (nope h).elim
  | .par _ _ => fun X sc G w g i h => (nope h).elim
  | .frz _ => fun X sc G w g i h => (nope h).elim
  | .aug _ _ _ => fun X sc G w g i h => (nope h).elim
  | .augs _ _ _ _ => fun X sc G w g i h => (nope h).elim
  | .if_ _ _ _ => fun X sc G w g i h => (nope h).elim
  | .whl _ _ => fun X sc G w g i h => (nope h).elim
  | .for_ _ _ _ _ => fun X sc G w g i h => (nope h).elim
  | .ret _ => fun X sc G w g i h => (nope h).elim
  | .xpr _ => fun X sc G w g i h => (nope h).elim
  | .rais _ _ => fun X sc G w g i h => (nope h).elim
  | .try_ _ _ _ => fun X sc G w g i h => (nope h).elim
  | .pass => fun X sc G w g i h => (nope h).elim
  | .brk => fun X sc G w g i h => (nope h).elim
  | .cnt => fun X sc G w g i h => (nope h).elim
  | .tname _ => fun X sc G w g i h => (nope h).elim
  | .ttup _ => fun X sc G w g i h => (nope h).elim
  | .tsub _ _ => fun X sc G w g i h => (nope h).elim
  | .cons _ (.var _) => fun X sc G w g i h => (nope h).elim
  | .cons _ (.mv _) => fun X sc G w g i h => (nope h).elim
  | .cons _ (.lit _) => fun X sc G w g i h => (nope h).elim
  | .cons _ (.tup _) => fun X sc G w g i h => (nope h).elim
  | .cons _ (.lst _) => fun X sc G w g i h => (nope h).elim
  | .cons _ (.dic _) => fun X sc G w g i h => (nope h).elim
  | .cons _ (.new _) => fun X sc G w g i h => (nope h).elim
  | .cons _ (.op _ _ _) => fun X sc G w g i h => (nope h).elim
  | .cons _ (.neg _) => fun X sc G w g i h => (nope h).elim
  | .cons _ (.not_ _) => fun X sc G w g i h => (nope h).elim
  | .cons _ (.tr _) => fun X sc G w g i h => (nope h).elim
  | .cons _ (.trb _) => fun X sc G w g i h => (nope h).elim
  | .cons _ (.and_ _ _) => fun X sc G w g i h => (nope h).elim
  | .cons _ (.or_ _ _) => fun X sc G w g i h => (nope h).elim
  | .cons _ (.cmp _ _ _) => fun X sc G w g i h => (nope h).elim
  | .cons _ (.chain _ _ _ _ _) => fun X sc G w g i h => (nope h).elim
  | .cons _ (.inl _ _ _) => fun X sc G w g i h => (nope h).elim
  | .cons _ (.isn _) => fun X sc G w g i h => (nope h).elim
  | .cons _ (.nisn _) => fun X sc G w g i h => (nope h).elim
  | .cons _ (.isb _ _) => fun X sc G w g i h => (nope h).elim
  | .cons _ (.nisb _ _) => fun X sc G w g i h => (nope h).elim
  | .cons _ (.ite _ _ _) => fun X sc G w g i h => (nope h).elim
  | .cons _ (.idx _ _) => fun X sc G w g i h => (nope h).elim
  | .cons _ (.slc _ _ _) => fun X sc G w g i h => (nope h).elim
  | .cons _ (.call _ _) => fun X sc G w g i h => (nope h).elim
  | .cons _ (.bi _ _) => fun X sc G w g i h => (nope h).elim
  | .cons _ (.mth _ _ _) => fun X sc G w g i h => (nope h).elim
  | .cons _ (.isi _ _) => fun X sc G w g i h => (nope h).elim
  | .cons _ (.comp _ _ _ _ _ _ _) => fun X sc G w g i h => (nope h).elim
  | .cons _ (.comp2 _ _ _ _ _ _ _ _ _) => fun X sc G w g i h => (nope h).elim
  | .cons _ (.dcomp _ _ _ _ _ _) => fun X sc G w g i h => (nope h).elim
  | .cons _ (.gen _ _ _ _) => fun X sc G w g i h => (nope h).elim
  | .cons _ (.gen2 _ _ _ _ _ _) => fun X sc G w g i h => (nope h).elim
  | .cons _ (.asg _ _) => fun X sc G w g i h => (nope h).elim
  | .cons _ (.par _ _) => fun X sc G w g i h => (nope h).elim
  | .cons _ (.frz _) => fun X sc G w g i h => (nope h).elim
  | .cons _ (.aug _ _ _) => fun X sc G w g i h => (nope h).elim
  | .cons _ (.augs _ _ _ _) => fun X sc G w g i h => (nope h).elim
  | .cons _ (.if_ _ _ _) => fun X sc G w g i h => (nope h).elim
  | .cons _ (.whl _ _) => fun X sc G w g i h => (nope h).elim
  | .cons _ (.for_ _ _ _ _) => fun X sc G w g i h => (nope h).elim
  | .cons _ (.ret _) => fun X sc G w g i h => (nope h).elim
  | .cons _ (.xpr _) => fun X sc G w g i h => (nope h).elim
  | .cons _ (.rais _ _) => fun X sc G w g i h => (nope h).elim
  | .cons _ (.try_ _ _ _) => fun X sc G w g i h => (nope h).elim
  | .cons _ (.pass) => fun X sc G w g i h => (nope h).elim
  | .cons _ (.brk) => fun X sc G w g i h => (nope h).elim
  | .cons _ (.cnt) => fun X sc G w g i h => (nope h).elim
  | .cons _ (.tname _) => fun X sc G w g i h => (nope h).elim
  | .cons _ (.ttup _) => fun X sc G w g i h => (nope h).elim
  | .cons _ (.tsub _ _) => fun X sc G w g i h => (nope h).elim
  | .cons _ (.cons _ (.cons _ _)) => fun X sc G w g i h => (nope h).elim
  | .cons _ (.cons _ (.var _)) => fun X sc G w g i h => (nope h).elim
  | .cons _ (.cons _ (.mv _)) => fun X sc G w g i h => (nope h).elim
  | .cons _ (.cons _ (.lit _)) => fun X sc G w g i h => (nope h).elim
  | .cons _ (.cons _ (.tup _)) => fun X sc G w g i h => (nope h).elim
  | .cons _ (.cons _ (.lst _)) => fun X sc G w g i h => (nope h).elim
  | .cons _ (.cons _ (.dic _)) => fun X sc G w g i h => (nope h).elim
  | .cons _ (.cons _ (.new _)) => fun X sc G w g i h => (nope h).elim
  | .cons _ (.cons _ (.op _ _ _)) => fun X sc G w g i h => (nope h).elim
  | .cons _ (.cons _ (.neg _)) => fun X sc G w g i h => (nope h).elim
  | .cons _ (.cons _ (.not_ _)) => fun X sc G w g i h => (nope h).elim
  | .cons _ (.cons _ (.tr _)) => fun X sc G w g i h => (nope h).elim
  | .cons _ (.cons _ (.trb _)) => fun X sc G w g i h => (nope h).elim
  | .cons _ (.cons _ (.and_ _ _)) => fun X sc G w g i h => (nope h).elim
  | .cons _ (.cons _ (.or_ _ _)) => fun X sc G w g i h => (nope h).elim
  | .cons _ (.cons _ (.cmp _ _ _)) => fun X sc G w g i h => (nope h).elim
  | .cons _ (.cons _ (.chain _ _ _ _ _)) => fun X sc G w g i h => (nope h).elim
  | .cons _ (.cons _ (.inl _ _ _)) => fun X sc G w g i h => (nope h).elim
  | .cons _ (.cons _ (.isn _)) => fun X sc G w g i h => (nope h).elim
  | .cons _ (.cons _ (.nisn _)) => fun X sc G w g i h => (nope h).elim
  | .cons _ (.cons _ (.isb _ _)) => fun X sc G w g i h => (nope h).elim
  | .cons _ (.cons _ (.nisb _ _)) => fun X sc G w g i h => (nope h).elim
  | .cons _ (.cons _ (.ite _ _ _)) => fun X sc G w g i h => (nope h).elim
  | .cons _ (.cons _ (.idx _ _)) => fun X sc G w g i h => (nope h).elim
  | .cons _ (.cons _ (.slc _ _ _)) => fun X sc G w g i h => (nope h).elim
  | .cons _ (.cons _ (.call _ _)) => fun X sc G w g i h => (nope h).elim
  | .cons _ (.cons _ (.bi _ _)) => fun X sc G w g i h => (nope h).elim
  | .cons _ (.cons _ (.mth _ _ _)) => fun X sc G w g i h => (nope h).elim
  | .cons _ (.cons _ (.isi _ _)) => fun X sc G w g i h => (nope h).elim
  | .cons _ (.cons _ (.comp _ _ _ _ _ _ _)) => fun X sc G w g i h => (nope h).elim
  | .cons _ (.cons _ (.comp2 _ _ _ _ _ _ _ _ _)) => fun X sc G w g i h => (nope h).elim
  | .cons _ (.cons _ (.dcomp _ _ _ _ _ _)) => fun X sc G w g i h => (nope h).elim
  | .cons _ (.cons _ (.gen _ _ _ _)) => fun X sc G w g i h => (nope h).elim
  | .cons _ (.cons _ (.gen2 _ _ _ _ _ _)) => fun X sc G w g i h => (nope h).elim
  | .cons _ (.cons _ (.asg _ _)) => fun X sc G w g i h => (nope h).elim
  | .cons _ (.cons _ (.par _ _)) => fun X sc G w g i h => (nope h).elim
  | .cons _ (.cons _ (.frz _)) => fun X sc G w g i h => (nope h).elim
  | .cons _ (.cons _ (.aug _ _ _)) => fun X sc G w g i h => (nope h).elim
  | .cons _ (.cons _ (.augs _ _ _ _)) => fun X sc G w g i h => (nope h).elim
  | .cons _ (.cons _ (.if_ _ _ _)) => fun X sc G w g i h => (nope h).elim
  | .cons _ (.cons _ (.whl _ _)) => fun X sc G w g i h => (nope h).elim
  | .cons _ (.cons _ (.for_ _ _ _ _)) => fun X sc G w g i h => (nope h).elim
  | .cons _ (.cons _ (.ret _)) => fun X sc G w g i h => (nope h).elim
  | .cons _ (.cons _ (.xpr _)) => fun X sc G w g i h => (nope h).elim
  | .cons _ (.cons _ (.rais _ _)) => fun X sc G w g i h => (nope h).elim
  | .cons _ (.cons _ (.try_ _ _ _)) => fun X sc G w g i h => (nope h).elim
  | .cons _ (.cons _ (.pass)) => fun X sc G w g i h => (nope h).elim
  | .cons _ (.cons _ (.brk)) => fun X sc G w g i h => (nope h).elim
  | .cons _ (.cons _ (.cnt)) => fun X sc G w g i h => (nope h).elim
  | .cons _ (.cons _ (.tname _)) => fun X sc G w g i h => (nope h).elim
  | .cons _ (.cons _ (.ttup _)) => fun X sc G w g i h => (nope h).elim
  | .cons _ (.cons _ (.tsub _ _)) => fun X sc G w g i h => (nope h).elim
theorem chk_O : ∀ t : Mi.T, SndO Γ N C t
  | .nil => fun X sc G e h => by
    cases e with
    | none => exact so_none
    | some _ => exact (nope h).elim
  | .cons a .nil => fun X sc G e h => by
    cases e with
    | none => exact (nope h).elim
    | some x => exact so_some (chk_E a X sc G x h)
  | .var _ => fun X sc G e h => (nope h).elim
  | .mv _ => fun X sc G e h => (nope h).elim
  | .lit _ => fun X sc G e h => (nope h).elim
  | .tup _ => fun X sc G e h => (nope h).elim
  | .lst _ => fun X sc G e h => (nope h).elim
  | .dic _ => fun X sc G e h => (nope h).elim
  | .new _ => fun X sc G e h => (nope h).elim
  | .op _ _ _ => fun X sc G e h => (nope h).elim
  | .neg _ => fun X sc G e h => (nope h).elim
  | .not_ _ => fun X sc G e h => (nope h).elim
  | .tr _ => fun X sc G e h => (nope h).elim
  | .trb _ => fun X sc G e h => (nope h).elim
  | .and_ _ _ => fun X sc G e h => (nope h).elim
  | .or_ _ _ => fun X sc G e h => (nope h).elim
  | .cmp _ _ _ => fun X sc G e h => (nope h).elim
  | .chain _ _ _ _ _ => fun X sc G e h => (nope h).elim
  | .inl _ _ _ => fun X sc G e h => (nope h).elim
  | .isn _ => fun X sc G e h => (nope h).elim
  | .nisn _ => fun X sc G e h => (nope h).elim
  | .isb _ _ => fun X sc G e h => (nope h).elim
  | .nisb _ _ => fun X sc G e h => (nope h).elim
  | .ite _ _ _ => fun X sc G e h => (nope h).elim
  | .idx _ _ => fun X sc G e h => (nope h).elim
  | .slc _ _ _ => fun X sc G e h => (nope h).elim
  | .call _ _ => fun X sc G e h => (nope h).elim
  | .bi _ _ => fun X sc G e h => (nope h).elim
  | .mth _ _ _ => fun X sc G e h => (nope h).elim
  | .isi _ _ => fun X sc G e h => (nope h).elim
  | .comp _ _ _ _ _ _ _ => fun X sc G e h => (nope h).elim
  | .comp2 _ _ _ _ _ _ _ _ _ => fun X sc G e h => (nope h).elim
  | .dcomp _ _ _ _ _ _ => fun X sc G e h => (nope h).elim
  | .gen _ _ _ _ => fun X sc G e h => (nope h).elim
  | .gen2 _ _ _ _ _ _ => fun X sc G e h => (nope h).elim
  | .asg _ _ => fun X sc G e h => (nope h).elim
  | .par _ _ => fun X sc G e h => (nope h).elim
  | .frz _ => fun X sc G e h => (nope h).elim
  | .aug _ _ _ => fun X sc G e h => (nope h).elim
  | .augs _ _ _ _ => fun X sc G e h => (nope h).elim
  | .if_ _ _ _ => fun X sc G e h => (nope h).elim
  | .whl _ _ => fun X sc G e h => (nope h).elim
  | .for_ _ _ _ _ => fun X sc G e h => (nope h).elim
  | .ret _ => fun X sc G e h => (nope h).elim
  | .xpr _ => fun X sc G e h => (nope h).elim
  | .rais _ _ => fun X sc G e h => (nope h).elim
  | .try_ _ _ _ => fun X sc G e h => (nope h).elim
  | .pass => fun X sc G e h => (nope h).elim
  | .brk => fun X sc G e h => (nope h).elim
  | .cnt => fun X sc G e h => (nope h).elim
  | .tname _ => fun X sc G e h => (nope h).elim
  | .ttup _ => fun X sc G e h => (nope h).elim
  | .tsub _ _ => fun X sc G e h => (nope h).elim
  | .cons a (.cons _ _) => fun X sc G e h => (nope h).elim
  | .cons a (.var _) => fun X sc G e h => (nope h).elim
  | .cons a (.mv _) => fun X sc G e h => (nope h).elim
  | .cons a (.lit _) => fun X sc G e h => (nope h).elim
  | .cons a (.tup _) => fun X sc G e h => (nope h).elim
  | .cons a (.lst _) => fun X sc G e h => (nope h).elim
  | .cons a (.dic _) => fun X sc G e h => (nope h).elim
  | .cons a (.new _) => fun X sc G e h => (nope h).elim
  | .cons a (.op _ _ _) => fun X sc G e h => (nope h).elim
  | .cons a (.neg _) => fun X sc G e h => (nope h).elim
  | .cons a (.not_ _) => fun X sc G e h => (nope h).elim
  | .cons a (.tr _) => fun X sc G e h => (nope h).elim
  | .cons a (.trb _) => fun X sc G e h => (nope h).elim
  | .cons a (.and_ _ _) => fun X sc G e h => (nope h).elim
  | .cons a (.or_ _ _) => fun X sc G e h => (nope h).elim
  | .cons a (.cmp _ _ _) => fun X sc G e h => (nope h).elim
  | .cons a (.chain _ _ _ _ _) => fun X sc G e h => (nope h).elim
  | .cons a (.inl _ _ _) => fun X sc G e h => (nope h).elim
  | .cons a (.isn _) => fun X sc G e h => (nope h).elim
  | .cons a (.nisn _) => fun X sc G e h => (nope h).elim
  | .cons a (.isb _ _) => fun X sc G e h => (nope h).elim
  | .cons a (.nisb _ _) => fun X sc G e h => (nope h).elim
  | .cons a (.ite _ _ _) => fun X sc G e h => (nope h).elim
  | .cons a (.idx _ _) => fun X sc G e h => (nope h).elim
  | .cons a (.slc _ _ _) => fun X sc G e h => (nope h).elim
  | .cons a (.call _ _) => fun X sc G e h => (nope h).elim
  | .cons a (.bi _ _) => fun X sc G e h => (nope h).elim
  | .cons a (.mth _ _ _) => fun X sc G e h => (nope h).elim
  | .cons a (.isi _ _) => fun X sc G e h => (nope h).elim
  | .cons a (.comp _ _ _ _ _ _ _) => fun X sc G e h => (nope h).elim
  | .cons a (.comp2 _ _ _ _ _ _ _ _ _) => fun X sc G e h => (nope h).elim
  | .cons a (.dcomp _ _ _ _ _ _) => fun X sc G e h => (nope h).elim
  | .cons a (.gen _ _ _ _) => fun X sc G e h => (nope h).elim
  | .cons a (.gen2 _ _ _ _ _ _) => fun X sc G e h => (nope h).elim
  | .cons a (.asg _ _) => fun X sc G e h => (nope h).elim
  | .cons a (.par _ _) => fun X sc G e h => (nope h).elim
  | .cons a (.frz _) => fun X sc G e h => (nope h).elim
  | .cons a (.aug _ _ _) => fun X sc G e h => (nope h).elim
  | .cons a (.augs _ _ _ _) => fun X sc G e h => (nope h).elim
  | .cons a (.if_ _ _ _) => fun X sc G e h => (nope h).elim
  | .cons a (.whl _ _) => fun X sc G e h => (nope h).elim
  | .cons a (.for_ _ _ _ _) => fun X sc G e h => (nope h).elim
  | .cons a (.ret _) => fun X sc G e h => (nope h).elim
  | .cons a (.xpr _) => fun X sc G e h => (nope h).elim
  | .cons a (.rais _ _) => fun X sc G e h => (nope h).elim
  | .cons a (.try_ _ _ _) => fun X sc G e h => (nope h).elim
  | .cons a (.pass) => fun X sc G e h => (nope h).elim
  | .cons a (.brk) => fun X sc G e h => (nope h).elim
  | .cons a (.cnt) => fun X sc G e h => (nope h).elim
  | .cons a (.tname _) => fun X sc G e h => (nope h).elim
  | .cons a (.ttup _) => fun X sc G e h => (nope h).elim
  | .cons a (.tsub _ _) => fun X sc G e h => (nope h).elim
theorem chk_Es : ∀ t : Mi.T, SndEs Γ N C t
  | .nil => fun X sc G es h => by
    cases es with
    | nil => exact sa_nil
    | cons _ _ => exact (nope h).elim
  | .cons a b => fun X sc G es h => by
    cases es with
    | nil => exact (nope h).elim
    | cons x r =>
      obtain ⟨h1, h2⟩ := and2 (show (nostar x && (chkE Γ N a sc x && chkEs Γ N b sc r)) = true from h)
      obtain ⟨h2, h3⟩ := and2 h2
      exact sa_cons (chk_E a X sc G x h2) (chk_Es b X sc G r h3) (star_cons h1)
  | .var _ => fun X sc G e h => (nope h).elim
  | .mv _ => fun X sc G e h => (nope h).elim
  | .lit _ => fun X sc G e h => (nope h).elim
  | .tup _ => fun X sc G e h => (nope h).elim
  | .lst _ => fun X sc G e h => (nope h).elim
  | .dic _ => fun X sc G e h => (nope h).elim
  | .new _ => fun X sc G e h => (nope h).elim
  | .op _ _ _ => fun X sc G e h => (nope h).elim
  | .neg _ => fun X sc G e h => (nope h).elim
  | .not_ _ => fun X sc G e h => (nope h).elim
  | .tr _ => fun X sc G e h => (nope h).elim
  | .trb _ => fun X sc G e h => (nope h).elim
  | .and_ _ _ => fun X sc G e h => (nope h).elim
  | .or_ _ _ => fun X sc G e h => (nope h).elim
  | .cmp _ _ _ => fun X sc G e h => (nope h).elim
  | .chain _ _ _ _ _ => fun X sc G e h => (nope h).elim
  | .inl _ _ _ => fun X sc G e h => (nope h).elim
  | .isn _ => fun X sc G e h => (nope h).elim
  | .nisn _ => fun X sc G e h => (nope h).elim
  | .isb _ _ => fun X sc G e h => (nope h).elim
  | .nisb _ _ => fun X sc G e h => (nope h).elim
  | .ite _ _ _ => fun X sc G e h => (nope h).elim
  | .idx _ _ => fun X sc G e h => (nope h).elim
  | .slc _ _ _ => fun X sc G e h => (nope h).elim
  | .call _ _ => fun X sc G e h => (nope h).elim
  | .bi _ _ => fun X sc G e h => (nope h).elim
  | .mth _ _ _ => fun X sc G e h => (nope h).elim
  | .isi _ _ => fun X sc G e h => (nope h).elim
  | .comp _ _ _ _ _ _ _ => fun X sc G e h => (nope h).elim
  | .comp2 _ _ _ _ _ _ _ _ _ => fun X sc G e h => (nope h).elim
  | .dcomp _ _ _ _ _ _ => fun X sc G e h => (nope h).elim
  | .gen _ _ _ _ => fun X sc G e h => (nope h).elim
  | .gen2 _ _ _ _ _ _ => fun X sc G e h => (nope h).elim
  | .asg _ _ => fun X sc G e h => (nope h).elim
  | .par _ _ => fun X sc G e h => (nope h).elim
  | .frz _ => fun X sc G e h => (nope h).elim
  | .aug _ _ _ => fun X sc G e h => (nope h).elim
  | .augs _ _ _ _ => fun X sc G e h => (nope h).elim
  | .if_ _ _ _ => fun X sc G e h => (nope h).elim
  | .whl _ _ => fun X sc G e h => (nope h).elim
  | .for_ _ _ _ _ => fun X sc G e h => (nope h).elim
  | .ret _ => fun X sc G e h => (nope h).elim
  | .xpr _ => fun X sc G e h => (nope h).elim
  | .rais _ _ => fun X sc G e h => (nope h).elim
  | .try_ _ _ _ => fun X sc G e h => (nope h).elim
  | .pass => fun X sc G e h => (nope h).elim
  | .brk => fun X sc G e h => (nope h).elim
  | .cnt => fun X sc G e h => (nope h).elim
  | .tname _ => fun X sc G e h => (nope h).elim
  | .ttup _ => fun X sc G e h => (nope h).elim
  | .tsub _ _ => fun X sc G e h => (nope h).elim
theorem chk_T : ∀ t : Mi.T, SndT Γ N C t
  | .tr a => fun X sc G e h => by
    obtain ⟨h1, h2⟩ := and2 (show (plainT e && chkE Γ N a sc e) = true from h)
    exact st_tr (chk_E a X sc G e h2) (tr_plain h1)
  | .not_ a => fun X sc G e h => by
    cases e with
    | UnaryOp op x p =>
      cases op with
      | Not => exact st_not (chk_T a X sc G x h)
      | _ => exact (nope h).elim
    | _ => exact (nope h).elim
  | .and_ a b => fun X sc G e h => by
    cases e with
    | BoolOp op xs p =>
      cases op with
      | And =>
        match xs, h with
        | [x, y], h =>
          obtain ⟨h1, h2⟩ := and2 (show (chkT Γ N a sc x && chkT Γ N b sc y) = true from h)
          exact pt_pw (sw_and (chk_T a X sc G x h1) (pw_and1 (chk_T b X sc G y h2)))
        | x :: y :: z :: r, h =>
          obtain ⟨h1, h2⟩ := and2 (show (chkT Γ N a sc x && chkT Γ N b sc (.BoolOp .And (y :: z :: r) p)) = true from h)
          exact pt_pw (sw_and (chk_T a X sc G x h1) (pw_bool (chk_T b X sc G (.BoolOp .And (y :: z :: r) p) h2)))
        | [], h => exact (nope h).elim
        | [_], h => exact (nope h).elim
      | _ => exact (nope h).elim
    | _ => exact (nope h).elim
  | .or_ a b => fun X sc G e h => by
    cases e with
    | BoolOp op xs p =>
      cases op with
      | Or =>
        match xs, h with
        | [x, y], h =>
          obtain ⟨h1, h2⟩ := and2 (show (chkT Γ N a sc x && chkT Γ N b sc y) = true from h)
          exact pt_pw (sw_or (chk_T a X sc G x h1) (pw_or1 (chk_T b X sc G y h2)))
        | x :: y :: z :: r, h =>
          obtain ⟨h1, h2⟩ := and2 (show (chkT Γ N a sc x && chkT Γ N b sc (.BoolOp .Or (y :: z :: r) p)) = true from h)
          exact pt_pw (sw_or (chk_T a X sc G x h1) (pw_bool (chk_T b X sc G (.BoolOp .Or (y :: z :: r) p) h2)))
        | [], h => exact (nope h).elim
        | [_], h => exact (nope h).elim
      | _ => exact (nope h).elim
    | _ => exact (nope h).elim
  | .trb (.cmp c a b) => fun X sc G e h => by
    cases e with
    | Compare x ps ys q =>
      match ps, ys, h with
      | [p], [y], h =>
        obtain ⟨h1, h2⟩ := and2 (show (decide (p = pyCm c) && (!behindInMarks p y && (chkE Γ N a sc x && chkE Γ N b sc y))) = true from h)
        obtain ⟨h2, h3⟩ := and2 h2
        obtain ⟨h3, h4⟩ := and2 h3
        cases of_decide_eq_true h1
        exact st_cmp G.room (chk_E a X sc G x h3) (chk_E b X sc G y h4) (not_ h2)
      | [], _, h => exact (nope h).elim
      | [_], [], h => exact (nope h).elim
      | [_], _ :: _ :: _, h => exact (nope h).elim
      | _ :: _ :: _, _, h => exact (nope h).elim
    | _ => exact (nope h).elim
  | .trb (.isn a) => fun X sc G e h => by
    rw [chkT.eq_def] at h
    simp only at h
    split at h
    · exact st_isn (chk_E a X sc G _ h)
    · exact (nope h).elim
  | .trb (.nisn a) => fun X sc G e h => by
    rw [chkT.eq_def] at h
    simp only at h
    split at h
    · exact st_nisn (chk_E a X sc G _ h)
    · exact (nope h).elim
  | .trb (.inl neg a ds) => fun X sc G e h => by
    rw [chkT.eq_def] at h
    simp only at h
    split at h
    · rename_i x p y q pos
      obtain ⟨g1, k1⟩ := and2 h
      obtain ⟨g2, k2⟩ := and2 k1
      obtain ⟨g3, g4⟩ := and2 k2
      obtain rfl := of_decide_eq_true g1
      exact st_inl G (chk_E a X sc G x g4) g3 (not_ g2)
    · exact (nope h).elim
  | .trb (.isb b a) => fun X sc G e h => by
    rw [chkT.eq_def] at h
    simp only at h
    split at h
    · obtain ⟨h1, h2⟩ := and2 h
      cases eq_of_beq h1
      exact st_isb (chk_E a X sc G _ h2)
    · exact (nope h).elim
  | .trb (.nisb b a) => fun X sc G e h => by
    rw [chkT.eq_def] at h
    simp only at h
    split at h
    · obtain ⟨h1, h2⟩ := and2 h
      cases eq_of_beq h1
      exact st_nisb (chk_E a X sc G _ h2)
    · exact (nope h).elim
  | .trb (.chain c c' a b z) => fun X sc G e h => by
    rw [chkT.eq_def] at h
    simp only at h
    split at h
    · obtain ⟨g1, k1⟩ := and2 h
      obtain ⟨g2, k2⟩ := and2 k1
      obtain ⟨g3, k3⟩ := and2 k2
      obtain ⟨g4, k4⟩ := and2 k3
      obtain ⟨g5, g6⟩ := and2 k4
      obtain rfl := of_decide_eq_true g1
      obtain rfl := of_decide_eq_true g2
      exact st_chain G.room (chk_E a X sc G _ g4) (chk_E b X sc G _ g5) (chk_E z X sc G _ g6) (not_ g3)
    · exact (nope h).elim
  | .nil => fun X sc G e h => (nope h).elim
  | .cons _ _ => fun X sc G e h => (nope h).elim
  | .var _ => fun X sc G e h => (nope h).elim
  | .mv _ => fun X sc G e h => (nope h).elim
  | .lit _ => fun X sc G e h => (nope h).elim
  | .tup _ => fun X sc G e h => (nope h).elim
  | .lst _ => fun X sc G e h => (nope h).elim
  | .dic _ => fun X sc G e h => (nope h).elim
  | .new _ => fun X sc G e h => (nope h).elim
  | .op _ _ _ => fun X sc G e h => (nope h).elim
  | .neg _ => fun X sc G e h => (nope h).elim
  | .trb (.nil) => fun X sc G e h => (nope h).elim
  | .trb (.cons _ _) => fun X sc G e h => (nope h).elim
  | .trb (.var _) => fun X sc G e h => (nope h).elim
  | .trb (.mv _) => fun X sc G e h => (nope h).elim
  | .trb (.lit _) => fun X sc G e h => (nope h).elim
  | .trb (.tup _) => fun X sc G e h => (nope h).elim
  | .trb (.lst _) => fun X sc G e h => (nope h).elim
  | .trb (.dic _) => fun X sc G e h => (nope h).elim
  | .trb (.new _) => fun X sc G e h => (nope h).elim
  | .trb (.op _ _ _) => fun X sc G e h => (nope h).elim
  | .trb (.neg _) => fun X sc G e h => (nope h).elim
  | .trb (.not_ _) => fun X sc G e h => (nope h).elim
  | .trb (.tr _) => fun X sc G e h => (nope h).elim
  | .trb (.trb _) => fun X sc G e h => (nope h).elim
  | .trb (.and_ _ _) => fun X sc G e h => (nope h).elim
  | .trb (.or_ _ _) => fun X sc G e h => (nope h).elim
  | .trb (.ite _ _ _) => fun X sc G e h => (nope h).elim
  | .trb (.idx _ _) => fun X sc G e h => (nope h).elim
  | .trb (.slc _ _ _) => fun X sc G e h => (nope h).elim
  | .trb (.call _ _) => fun X sc G e h => (nope h).elim
  | .trb (.bi _ _) => fun X sc G e h => (nope h).elim
  | .trb (.mth _ _ _) => fun X sc G e h => (nope h).elim
  | .trb (.isi _ _) => fun X sc G e h => (nope h).elim
  | .trb (.comp _ _ _ _ _ _ _) => fun X sc G e h => (nope h).elim
  | .trb (.comp2 _ _ _ _ _ _ _ _ _) => fun X sc G e h => (nope h).elim
  | .trb (.dcomp _ _ _ _ _ _) => fun X sc G e h => (nope h).elim
  | .trb (.gen _ _ _ _) => fun X sc G e h => (nope h).elim
  | .trb (.gen2 _ _ _ _ _ _) => fun X sc G e h => (nope h).elim
  | .trb (.asg _ _) => fun X sc G e h => (nope h).elim
  | .trb (.par _ _) => fun X sc G e h => (nope h).elim
  | .trb (.frz _) => fun X sc G e h => (nope h).elim
  | .trb (.aug _ _ _) => fun X sc G e h => (nope h).elim
  | .trb (.augs _ _ _ _) => fun X sc G e h => (nope h).elim
  | .trb (.if_ _ _ _) => fun X sc G e h => (nope h).elim
  | .trb (.whl _ _) => fun X sc G e h => (nope h).elim
  | .trb (.for_ _ _ _ _) => fun X sc G e h => (nope h).elim
  | .trb (.ret _) => fun X sc G e h => (nope h).elim
  | .trb (.xpr _) => fun X sc G e h => (nope h).elim
  | .trb (.rais _ _) => fun X sc G e h => (nope h).elim
  | .trb (.try_ _ _ _) => fun X sc G e h => (nope h).elim
  | .trb (.pass) => fun X sc G e h => (nope h).elim
  | .trb (.brk) => fun X sc G e h => (nope h).elim
  | .trb (.cnt) => fun X sc G e h => (nope h).elim
  | .trb (.tname _) => fun X sc G e h => (nope h).elim
  | .trb (.ttup _) => fun X sc G e h => (nope h).elim
  | .trb (.tsub _ _) => fun X sc G e h => (nope h).elim
  | .cmp _ _ _ => fun X sc G e h => (nope h).elim
  | .chain _ _ _ _ _ => fun X sc G e h => (nope h).elim
  | .inl _ _ _ => fun X sc G e h => (nope h).elim
  | .isn _ => fun X sc G e h => (nope h).elim
  | .nisn _ => fun X sc G e h => (nope h).elim
  | .isb _ _ => fun X sc G e h => (nope h).elim
  | .nisb _ _ => fun X sc G e h => (nope h).elim
  | .ite _ _ _ => fun X sc G e h => (nope h).elim
  | .idx _ _ => fun X sc G e h => (nope h).elim
  | .slc _ _ _ => fun X sc G e h => (nope h).elim
  | .call _ _ => fun X sc G e h => (nope h).elim
  | .bi _ _ => fun X sc G e h => (nope h).elim
  | .mth _ _ _ => fun X sc G e h => (nope h).elim
  | .isi _ _ => fun X sc G e h => (nope h).elim
  | .comp _ _ _ _ _ _ _ => fun X sc G e h => (nope h).elim
  | .comp2 _ _ _ _ _ _ _ _ _ => fun X sc G e h => (nope h).elim
  | .dcomp _ _ _ _ _ _ => fun X sc G e h => (nope h).elim
  | .gen _ _ _ _ => fun X sc G e h => (nope h).elim
  | .gen2 _ _ _ _ _ _ => fun X sc G e h => (nope h).elim
  | .asg _ _ => fun X sc G e h => (nope h).elim
  | .par _ _ => fun X sc G e h => (nope h).elim
  | .frz _ => fun X sc G e h => (nope h).elim
  | .aug _ _ _ => fun X sc G e h => (nope h).elim
  | .augs _ _ _ _ => fun X sc G e h => (nope h).elim
  | .if_ _ _ _ => fun X sc G e h => (nope h).elim
  | .whl _ _ => fun X sc G e h => (nope h).elim
  | .for_ _ _ _ _ => fun X sc G e h => (nope h).elim
  | .ret _ => fun X sc G e h => (nope h).elim
  | .xpr _ => fun X sc G e h => (nope h).elim
  | .rais _ _ => fun X sc G e h => (nope h).elim
  | .try_ _ _ _ => fun X sc G e h => (nope h).elim
  | .pass => fun X sc G e h => (nope h).elim
  | .brk => fun X sc G e h => (nope h).elim
  | .cnt => fun X sc G e h => (nope h).elim
  | .tname _ => fun X sc G e h => (nope h).elim
  | .ttup _ => fun X sc G e h => (nope h).elim
  | .tsub _ _ => fun X sc G e h => (nope h).elim
end
end
end MiS

namespace MiS
open PySem PySem.Spec PyProof.Rows L2 Mi MiG
variable [Tb]
/-! ### the checker of targets and statements -/
def isComp : Expr → Bool
  | .ListComp .. => true
  | .SetComp .. => true
  | .DictComp .. => true
  | _ => false
def isLo (sc : Sc) (x : Str) : Bool := match sc.lookup x with
  | some .local => true
  | _ => false
mutual
def chkG (Γ : Gb) (N : List Str) : T → Sc → Expr → Bool
  | .tname i, sc, e => (match e with | .Name x _ => decide (N[i]? = some x) && isLoc sc x | _ => false)
  | .ttup ts, sc, e => (match e with | .Tuple xs _ _ => chkGs Γ N ts sc xs | _ => false)
  | .tsub o i, sc, e => (match e with | .Subscript x y _ => ixOk y && (chkE Γ N o sc x && chkE Γ N i sc y) | _ => false)
  | _, _, _ => false
termination_by structural t => t
def chkGs (Γ : Gb) (N : List Str) : T → Sc → List Expr → Bool
  | .nil, _, xs => xs.isEmpty
  | .cons a b, sc, xs => (match xs with | x :: r => nostar x && (chkG Γ N a sc x && chkGs Γ N b sc r) | [] => false)
  | _, _, _ => false
termination_by structural t => t
end
section
variable {X : Cx} {C : Cn} {W : Wish} {Γ : Gb} {N : List Str} {sc : Sc}
theorem chkGs_len : ∀ {t : Mi.T} {xs : List Expr}, chkGs Γ N t sc xs = true → tlen t = xs.length ∧ xs.all nostar = true := by
  intro t
  induction t with
  | nil => intro xs h; cases xs with | nil => exact ⟨rfl, rfl⟩ | cons _ _ => exact (nope h).elim
  | cons a b _ ih =>
    intro xs h
    cases xs with
    | nil => exact (nope h).elim
    | cons x r =>
      obtain ⟨h1, h2⟩ := and2 (show (nostar x && (chkG Γ N a sc x && chkGs Γ N b sc r)) = true from h)
      obtain ⟨i1, i2⟩ := ih (and2 h2).2
      refine ⟨?_, ?_⟩
      · show tlen b + 1 = r.length + 1
        rw [i1]
      · show (nostar x && r.all nostar) = true
        rw [h1, i2]; rfl
  | _ => intro xs h; exact (nope h).elim
theorem chk_G (G : Good X Γ N sc C W) : ∀ t : Mi.T, (∀ e, chkG Γ N t sc e = true → PG X e (tG X.K C W t)) ∧ (∀ es, chkGs Γ N t sc es = true → PGs X es (tGs X.K C W t)) := by
  intro t
  induction t with
  | tname i =>
    refine ⟨fun e h => ?_, fun es h => (nope h).elim⟩
    cases e with
    | Name x p =>
      obtain ⟨h1, h2⟩ := and2 (show (decide (N[i]? = some x) && isLoc sc x) = true from h)
      exact sg_name (by rw [G.nN]; exact G.nd) (by rw [G.nN]; exact of_decide_eq_true h1) (G.loc x h2) (G.fnl x h2)
    | _ => exact (nope h).elim
  | ttup ts ih =>
    refine ⟨fun e h => ?_, fun es h => (nope h).elim⟩
    cases e with
    | Tuple xs k p =>
      have h : chkGs Γ N ts sc xs = true := h
      obtain ⟨l1, l2⟩ := chkGs_len h
      obtain ⟨a1, a2⟩ := asg_len (env := X.env) l2
      exact sg_tup G.calm (ih.2 xs h) (by rw [a1, l1]) a2
    | _ => exact (nope h).elim
  | tsub o i _ _ =>
    refine ⟨fun e h => ?_, fun es h => (nope h).elim⟩
    cases e with
    | Subscript x y p =>
      obtain ⟨h0, h1⟩ := and2 (show (ixOk y && (chkE Γ N o sc x && chkE Γ N i sc y)) = true from h)
      obtain ⟨h1, h2⟩ := and2 h1
      refine sg_sub G.room (chk_E o X sc G x h1) (chk_E i X sc G y h2) ?_
      cases y <;> first
        | exact fun _ => rfl
        | exact (nope h0).elim
    | _ => exact (nope h).elim
  | nil =>
    refine ⟨fun e h => (nope h).elim, fun es h => ?_⟩
    cases es with
    | nil => exact sgs_nil
    | cons _ _ => exact (nope h).elim
  | cons a b iha ihb =>
    refine ⟨fun e h => (nope h).elim, fun es h => ?_⟩
    cases es with
    | nil => exact (nope h).elim
    | cons x r =>
      obtain ⟨h1, h2⟩ := and2 (show (nostar x && (chkG Γ N a sc x && chkGs Γ N b sc r)) = true from h)
      obtain ⟨h2, h3⟩ := and2 h2
      exact sgs_cons (iha.1 x h2) (ihb.2 r h3) (by rw [asg_cons h1]; rfl)
  | _ => exact ⟨fun e h => (nope h).elim, fun es h => (nope h).elim⟩
end
end MiS

namespace MiS
open PySem PySem.Spec PyProof.Rows L2 Mi MiG
variable [Tb]
/-- a, b = x, y stored from the right: local names on one line -/
def swapB (sc : Sc) (ts vs : List Expr) : Bool := match ts, vs with
  | [.Name x px, .Name y py], [a, b] => isLo sc x && (isLo sc y && (decide (x ≠ y) && (px.line == py.line && (nostar a && (nostar b && (!([a, b].all (foldedForSure 8)) && !([a, b].all (constantsAlone 8))))))))
  | [.Name x px, .Name y py, .Name z pz], [a, b, c] => isLo sc x && (isLo sc y && (isLo sc z && (decide (x ≠ y) && (decide (x ≠ z) && (decide (y ≠ z) && (px.line == py.line && (px.line == pz.line && (nostar a && (nostar b && (nostar c && (!([a, b, c].all (foldedForSure 8)) && !([a, b, c].all (constantsAlone 8)))))))))))))
  | _, _ => false
end MiS

namespace MiS
open PySem PySem.Spec PyProof.Rows L2 Mi MiG
variable [Tb]
theorem swap_no {v : Expr} {t : Option Expr} {l : Nat} {env : Env} (h : isComp v = false) : swapsWith v t l env = pure false := by
  cases v <;> first
    | rfl
    | cases h
theorem stores_no {t v : Expr} {env : Env} (h : (isTup t && isTup v) = false) (ht : ∀ es p, t ≠ .List es p) : swappedStores [t] v env = pure none := by
  cases t <;> first
    | rfl
    | (exact absurd rfl (ht _ _))
    | skip
  cases v <;> first
    | rfl
    | cases h
theorem notList {Γ : Gb} {N : List Str} {sc : Sc} {tg : Mi.T} {t : Expr} (h : chkG Γ N tg sc t = true) : ∀ es p, t ≠ .List es p := by
  rintro es p rfl
  cases tg <;> exact nope h
end MiS

namespace MiS
open PySem PySem.Spec PyProof.Rows L2 Mi MiG
variable [Tb]
theorem notStar {a : Expr} (h : nostar a = true) : ¬ (match (generalizing := false) a with | .Starred _ _ => true | _ => false) = true := by cases a <;> first | exact Bool.false_ne_true | exact (nope h).elim
theorem swap2 {x y : Str} {px py pt pt2 : Pos} {kt k2 : Nat} {a b : Expr} {env : Env} (hb : env.blockKind = .function) (hx : env.kindOf x = some .local) (hy : env.kindOf y = some .local) (hxy : x ≠ y) (hl : (px.line == py.line) = true) (ha : nostar a = true) (hb2 : nostar b = true)
    (h1 : ([a, b].all (foldedForSure 8)) = false) (h2 : ([a, b].all (constantsAlone 8)) = false) : swappedStores [.Tuple [.Name x px, .Name y py] kt pt] (.Tuple [a, b] k2 pt2) env = pure (some [x, y]) := by
  unfold swappedStores
  have e1 : (px.line == px.line) = true := by simp
  have e2 : (py.line == px.line) = true := by rw [eq_of_beq hl]; simp
  have hd : [x, y].eraseDups = [x, y] := by
    have : (y == x) = false := by simpa using fun e : y = x => hxy e.symm
    simp [List.eraseDups_cons, this]
  have f1 : ¬ (foldedForSure 8 a = true ∧ foldedForSure 8 b = true) := by simpa using h1
  have f2 : ¬ (constantsAlone 8 a = true ∧ constantsAlone 8 b = true) := by simpa using h2
  simp [hb, hx, hy, e1, e2, List.filterMap, Expr.pos]
  rw [if_neg (fun q => q.elim (notStar ha) (notStar hb2)), hd, if_pos (show [x, y].length = 2 from rfl), if_neg f1, if_neg f2]
theorem swap3 {x y z : Str} {px py pz pt pt2 : Pos} {kt k2 : Nat} {a b c : Expr} {env : Env} (hb : env.blockKind = .function) (hx : env.kindOf x = some .local) (hy : env.kindOf y = some .local) (hz : env.kindOf z = some .local) (hxy : x ≠ y) (hxz : x ≠ z) (hyz : y ≠ z) (hl : (px.line == py.line) = true) (hl2 : (px.line == pz.line) = true) (ha : nostar a = true) (hb2 : nostar b = true) (hc2 : nostar c = true)
    (h1 : ([a, b, c].all (foldedForSure 8)) = false) (h2 : ([a, b, c].all (constantsAlone 8)) = false) : swappedStores [.Tuple [.Name x px, .Name y py, .Name z pz] kt pt] (.Tuple [a, b, c] k2 pt2) env = pure (some [x, y, z]) := by
  unfold swappedStores
  have e2 : (py.line == px.line) = true := by rw [eq_of_beq hl]; simp
  have e3 : (pz.line == px.line) = true := by rw [eq_of_beq hl2]; simp
  have hd : [x, y, z].eraseDups = [x, y, z] := by
    have q1 : (y == x) = false := by simpa using fun e : y = x => hxy e.symm
    have q2 : (z == x) = false := by simpa using fun e : z = x => hxz e.symm
    have q3 : (z == y) = false := by simpa using fun e : z = y => hyz e.symm
    simp [List.eraseDups_cons, q1, q2, q3]
  have f1 : ¬ (foldedForSure 8 a = true ∧ foldedForSure 8 b = true ∧ foldedForSure 8 c = true) := by simpa using h1
  have f2 : ¬ (constantsAlone 8 a = true ∧ constantsAlone 8 b = true ∧ constantsAlone 8 c = true) := by simpa using h2
  simp [hb, hx, hy, hz, e2, e3, List.filterMap, Expr.pos]
  rw [if_neg (fun q => q.elim (notStar ha) (fun q => q.elim (notStar hb2) (notStar hc2))), hd, if_pos (show [x, y, z].length = 3 from rfl), if_neg f1, if_neg f2]
/-- the names that a pair's targets would be swapped as -/
def swapNames (sc : Sc) (line : Nat) (ts : List Expr) : List Str := ts.filterMap fun
    | .Name id pos => if isLo sc id && pos.line == line then some id else none
    | _ => none
def swapNone (sc : Sc) (ts vs : List Expr) : Bool := decide ((swapNames sc ((ts.head?.map (·.pos.line)).getD 0) ts).length ≠ ts.length) || vs.all (foldedForSure 8)
theorem fm_congr {α β : Type} {f g : α → Option β} : ∀ {l : List α}, (∀ x ∈ l, f x = g x) → l.filterMap f = l.filterMap g
  | [], _ => rfl
  | x :: r, h => by
    rw [List.filterMap_cons, List.filterMap_cons, h x List.mem_cons_self, fm_congr fun y hy => h y (List.mem_cons_of_mem _ hy)]
theorem swapN {sc : Sc} {ts vs : List Expr} {kt k2 : Nat} {pt pt2 : Pos} {env : Env} (hk : ∀ id pos, Expr.Name id pos ∈ ts → (env.kindOf id == some .local) = isLo sc id) (h : swapNone sc ts vs = true) : swappedStores [.Tuple ts kt pt] (.Tuple vs k2 pt2) env = pure none := by
  unfold swappedStores
  simp only [pure_bind, bind_pure_comp]
  split
  · rfl
  · split
    · rfl
    · generalize hg : List.filterMap _ ts = ns
      have hn : ns = swapNames sc ((ts.head?.map (·.pos.line)).getD 0) ts := by
        rw [← hg]
        unfold swapNames
        refine fm_congr fun x hx => ?_
        cases x <;> first
          | rfl
          | skip
        rename_i id pos
        show (if env.kindOf id == some .local && _ then some id else none) = _
        rw [hk id pos hx]
      rw [hn]
      split
      · rfl
      · rename_i hne
        split
        · rfl
        · exfalso
          rename_i hf
          rcases Bool.or_eq_true_iff.mp h with h | h
          · have := of_decide_eq_true h
            apply hne
            simp [this]
          · exact hf h
end MiS

namespace MiS
open PySem PySem.Spec PyProof.Rows L2 Mi MiG
variable [Tb]
section
variable {X : Cx} {C : Cn} {W : Wish} {K : PySem.W.Frag} {Γ : Gb} {N : List Str} {sc : Sc}
/-! ### a, b = x, y by way of a tuple -/
def tGsR (K : PySem.W.Frag) (C : Cn) (W : Wish) (t : Mi.T) : TGs := fun vs σ H Q => ∃ M env st rs, ER K M (Lv M st) H env σ ∧ SR K M H st ∧ RVs K M (Lv M st) H vs rs ∧ PR K M H st (asgR C t rs env st) W (QE K Q)
theorem sgsr_nil : PGs X [] (tGsR X.K C W .nil) := by
  refine cvGs pgs_nil fun vs σ H Q ⟨M, env, st, rs, er, sr, rl, h⟩ => ?_
  cases rs with
  | nil => cases rl; rw [asgR] at h; exact ⟨rfl, PR.here sr h _ er⟩
  | cons d ds => exact h.elim
theorem sgsr_cons {e : Expr} {es : List Expr} {t ts : Mi.T} (h1 : PG X e (tG X.K C W t)) (h2 : PGs X es (tGsR X.K C W ts)) (hs : (assignEach (e :: es) X.env).map (·.2) = assign e X.env :: (assignEach es X.env).map (·.2)) : PGs X (e :: es) (tGsR X.K C W (.cons t ts)) := by
  refine cvGs (pgs_cons h1 h2 hs) fun vs σ H Q ⟨M, env, st, rs, er, sr, rl, h⟩ => ?_
  cases rs with
  | nil => exact h.elim
  | cons d ds =>
    cases rl with
    | cons r1 r2 =>
      rw [asgR] at h
      refine ⟨_, _, rfl, M, env, st, d, er, sr, r1, (PR.bind h).imp fun env1 M1 st1 H1 p1 sr1 s1 h σ1 er1 => ?_⟩
      exact ⟨M1, env1, st1, ds, er1, sr1, r2.mono p1 s1, h⟩
theorem ss_parT {ts vs : List Expr} {kt k2 : Nat} {pt pt2 pos : Pos} {tts tes : Mi.T} (hc : X.calm = true) (ha : PA X vs (tEs X.K C W tes)) (hg : PGs X ts (tGsR X.K C W tts)) (hl : tlen tes = ts.length) (hsm : tlen tes ≤ 1000) (hst : ts.all nostar = true)
    (hw : swappedStores [.Tuple ts kt pt] (.Tuple vs k2 pt2) X.env = pure none) : PS X (.Assign [.Tuple ts kt pt] (.Tuple vs k2 pt2) pos) (tS X.K C W (.par tts tes)) := by
  obtain ⟨a1, a2⟩ := asg_len (env := X.env) hst
  refine cvS (ps_asg (pe_tup ha) (pg_tup hc hg rfl a2) (by rfl) hw (by rfl)) fun D σ H ⟨M, env, st, er, sr, h⟩ => ?_
  rw [ex] at h
  refine ⟨M, env, st, er, sr, (PR.len (PR.bind h)).imp fun rs M1 st1 H1 p1 sr1 s1 ⟨hn, h⟩ vs rv => ?_⟩
  have hv := rv.len
  refine ⟨by rw [hv, hn, sizeLine_eq]; omega, fun p hp => ⟨p, vs, rfl, .inl (.inl upd_same), by rw [hv, hn, hl, a1], M1, env, st1, rs, (er.mono p1 s1).mono (List.prefix_refl _) (Step.fresh hp), sr1.fresh hp, rv.mono (List.prefix_refl _) (Step.fresh hp), ?_⟩⟩
  refine (PR.bind (h.pre (List.prefix_refl _) (Step.fresh hp))).imp fun env2 M2 st2 H2 p2 sr2 s2 h σ2 er2 => ?_
  exact PR.here (a := Fl.nx env2) sr2 h σ2 er2
/-! ### for over what chkI takes -/
theorem ss_for {w : Mi.It} {tg it : Expr} {body : List Stmt} {tt tit tb : Mi.T} {pos : Pos} (G : Good X Γ N sc C W) (hi : chkI Γ N tit w sc tg it = true) (hg : PG X tg (tG X.K C W tt)) (hb : PSs X body (tSs X.K C W tb)) : PS X (.For tg it body [] pos) (tS X.K C W (.for_ tt w tit tb)) := by
  cases tit with
  | cons a b =>
    cases b with
    | nil =>
      cases w with
      | plain =>
        obtain ⟨h1, h2⟩ := and2 (show (noSet it && chkE Γ N a sc it) = true from hi)
        exact ss_forP G.own G.calm (chk_E a X sc G it h2) hg hb (no_set h1)
      | range =>
        rw [chkI.eq_def] at hi
        simp only at hi
        split at hi
        · obtain ⟨g1, k1⟩ := and2 hi
          obtain ⟨g2, k2⟩ := and2 k1
          obtain ⟨g3, g4⟩ := and2 k2
          obtain rfl := of_decide_eq_true g1
          exact ss_forR1 G.own G.calm (G.gl _ g2) G.txt.rng (chk_E a X sc G _ g4) hg hb g3
        · exact (nope hi).elim
      | enum =>
        rw [chkI.eq_def] at hi
        simp only at hi
        split at hi
        · obtain ⟨g1, k1⟩ := and2 hi
          obtain ⟨g2, k2⟩ := and2 k1
          obtain ⟨g3, k3⟩ := and2 k2
          obtain ⟨g4, g5⟩ := and2 k3
          obtain rfl := of_decide_eq_true g1
          cases tg with
          | Tuple es kk tp => exact ss_forE G.own G.calm (G.gl _ g3) G.txt.enu (chk_E a X sc G _ g5) hg hb g4
          | _ => exact (nope g2).elim
        · exact (nope hi).elim
      | _ => exact (nope hi).elim
    | cons b c =>
      cases c with
      | nil =>
        cases w with
        | range =>
          rw [chkI.eq_def] at hi
          simp only at hi
          split at hi
          · obtain ⟨g1, k1⟩ := and2 hi
            obtain ⟨g2, k2⟩ := and2 k1
            obtain ⟨g3, k3⟩ := and2 k2
            obtain ⟨g4, k4⟩ := and2 k3
            obtain ⟨g5, g6⟩ := and2 k4
            obtain rfl := of_decide_eq_true g1
            exact ss_forR2 G.own G.calm (G.gl _ g2) G.txt.rng (chk_E a X sc G _ g5) (chk_E b X sc G _ g6) hg hb g3 g4
          · exact (nope hi).elim
        | zip =>
          rw [chkI.eq_def] at hi
          simp only at hi
          split at hi
          · obtain ⟨g1, k1⟩ := and2 hi
            obtain ⟨g2, k2⟩ := and2 k1
            obtain ⟨g3, k3⟩ := and2 k2
            obtain ⟨g4, k4⟩ := and2 k3
            obtain ⟨g5, k5⟩ := and2 k4
            obtain ⟨g6, g7⟩ := and2 k5
            obtain rfl := of_decide_eq_true g1
            cases tg with
            | Tuple es kk tp => exact ss_forZ G.own G.calm (G.gl _ g3) G.txt.zip (chk_E a X sc G _ g6) (chk_E b X sc G _ g7) hg hb g4 g5
            | _ => exact (nope g2).elim
          · exact (nope hi).elim
        | _ => exact (nope hi).elim
      | _ => exact (nope hi).elim
    | _ => exact (nope hi).elim
  | _ => exact (nope hi).elim
/-! ### a comprehension in a name -/
def swB (sc : Sc) (y : Str) (py p : Pos) (scope : Scope) : Bool := isLo sc y && (py.line == p.line && !(scope.names.any fun q => q.1 == y && (q.2 == .local || q.2 == .cell)))
theorem isLo_of (G : Good X Γ N sc C W) {y : Str} (h : isLo sc y = true) : X.env.scope.names.lookup y = some .local := by
  unfold isLo at h
  cases e : sc.lookup y with
  | none => rw [e] at h; cases h
  | some k =>
    rw [e] at h
    cases k <;> first
      | (cases h; done)
      | skip
    rcases G.sok y _ e with q | ⟨q, _⟩
    · exact q
    · cases q
theorem isLo_no (G : Good X Γ N sc C W) {y : Str} (hl : isLoc sc y = true) : (X.env.kindOf y == some .local) = isLo sc y := by
  unfold isLoc at hl
  unfold isLo
  cases e : sc.lookup y with
  | none => rw [e] at hl; cases hl
  | some k =>
    rw [e] at hl
    rcases G.sok y _ e with q | ⟨rfl, _⟩
    · cases k <;> first
        | (cases hl; done)
        | (show (X.env.scope.names.lookup y == some .local) = _; rw [q]; rfl)
    · cases hl
theorem sw_true (G : Good X Γ N sc C W) {y : Str} {py p sp : Pos} {scope : Scope} {e : Expr} {gs : List Comprehension} (h : swB sc y py p scope = true) : swapsWith (.ListComp e gs scope p) (some (.Name y py)) sp.line X.env = pure true := by
  obtain ⟨h1, h2⟩ := and2 h
  obtain ⟨h2, h3⟩ := and2 h2
  have hl := isLo_of G h1
  have hk : X.env.kindOf y = some .local := hl
  unfold swapsWith
  have h3' := not_ h3
  simp only [pure_bind, G.bk, hk, Expr.pos]
  have e1 : (ScopeKind.function == ScopeKind.function) = true := by decide
  have e2 : ((some NameKind.local : Option NameKind) == some NameKind.local) = true := by decide
  rw [e1, e2, h2, h3']
  rfl
theorem sw_trueD (G : Good X Γ N sc C W) {y : Str} {py p sp : Pos} {scope : Scope} {e e2 : Expr} {gs : List Comprehension} (h : swB sc y py p scope = true) : swapsWith (.DictComp e e2 gs scope p) (some (.Name y py)) sp.line X.env = pure true := by
  obtain ⟨h1, h2⟩ := and2 h
  obtain ⟨h2, h3⟩ := and2 h2
  have hl := isLo_of G h1
  have hk : X.env.kindOf y = some .local := hl
  unfold swapsWith
  have h3' := not_ h3
  simp only [pure_bind, G.bk, hk, Expr.pos]
  have e1 : (ScopeKind.function == ScopeKind.function) = true := by decide
  have e2 : ((some NameKind.local : Option NameKind) == some NameKind.local) = true := by decide
  rw [e1, e2, h2, h3']
  rfl
end
end MiS

namespace MiS
open PySem PySem.Spec PyProof.Rows L2 Mi MiG
variable [Tb]
/-! ### the checker of statements -/
/-- a comprehension is stored the plain way -/
def plainSt (sc : Sc) (t : Expr) : Bool := match t with
  | .Name x _ => isLoc sc x && !isLo sc x
  | _ => true
def compTo (N : List Str) (sc : Sc) (tg : T) (t v : Expr) : Bool := match tg, t, v with
  | .tname i, .Name y py, .ListComp _ _ scope p => decide (N[i]? = some y) && swB sc y py p scope
  | .tname i, .Name y py, .DictComp _ _ _ scope p => decide (N[i]? = some y) && swB sc y py p scope
  | _, _, _ => false
def isCompT : T → Bool
  | .comp .. => true
  | .comp2 .. => true
  | .dcomp .. => true
  | _ => false
def tnamesOk (N : List Str) : T → List Expr → Bool
  | .nil, xs => xs.isEmpty
  | .cons (.tname i) b, xs => (match xs with | .Name x _ :: r => decide (N[i]? = some x) && tnamesOk N b r | _ => false)
  | _, _ => false
/-- a dict is walked -/
def chkD (Γ : Gb) (N : List Str) (it : T) (w : Mi.It) (sc : Sc) (t i : Expr) : Bool := match it with
  | .cons a .nil => (match w with
    | .litems => (match i with
      | .Call (.Name x _) [.Call (.Attribute e nm ap) [] [] cp] [] _ => decide (x = ("list" : Str)) && (isGl sc x && (decide (nm = ("items" : Str)) && ((ap.endLine == cp.line) && (notCall0 e && chkE Γ N a sc e))))
      | _ => false)
    | .items => (match i with
      | .Call (.Attribute e nm ap) [] [] cp => isTup t && (decide (nm = ("items" : Str)) && ((ap.endLine == cp.line) && (notCall0 e && chkE Γ N a sc e)))
      | _ => false)
    | .keys => noSet i && chkE Γ N a sc i
    | _ => false)
  | _ => false
mutual
def chkS (Γ : Gb) (N : List Str) : T → Sc → Stmt → Bool
  | .nil, _, _ => true
  | .asg tg e, sc, s => (match s with
    | .Assign [t] v _ => chkE Γ N e sc v && (if isComp v then (if plainSt sc t then nostar t && (!isTup t && chkG Γ N tg sc t) else isCompT e && compTo N sc tg t v) else !(isTup t && isTup v) && (nostar t && chkG Γ N tg sc t))
    | _ => false)
  | .par ts es, sc, s => (match s with
    | .Assign [.Tuple xs _ _] (.Tuple ys _ _) _ => chkEs Γ N es sc ys && (if swapB sc xs ys then tnamesOk N ts xs else swapNone sc xs ys && (decide (tlen es ≤ 1000) && (decide (xs.length = ys.length) && chkGs Γ N ts sc xs)))
    | _ => false)
  | .if_ c a b, sc, s => (match s with | .If x y z _ => chkT Γ N c sc x && (chkSs Γ N a sc y && chkSs Γ N b sc z) | _ => false)
  | .whl c b, sc, s => (match s with | .While x y [] _ => chkT Γ N c sc x && chkSs Γ N b sc y | _ => false)
  | .for_ tg w it b, sc, s => (match s with | .For t i y [] _ => chkG Γ N tg sc t && ((chkI Γ N it w sc t i || chkD Γ N it w sc t i) && chkSs Γ N b sc y) | _ => false)
  | .ret .nil, _, s => (match s with | .Return none _ => true | _ => false)
  | .ret (.cons e .nil), sc, s => (match s with | .Return (some x) _ => chkE Γ N e sc x | _ => false)
  | .xpr e, sc, s => (match s with | .Expr x _ => !isComp x && chkE Γ N e sc x | _ => false)
  | .aug i o e, sc, s => (match s with | .AugAssign (.Name x _) p v _ => decide (N[i]? = some x) && (isLoc sc x && (decide (p = pyOp o) && chkE Γ N e sc v)) | _ => false)
  | .augs o i p e, sc, s => (match s with | .AugAssign (.Subscript x y _) q v _ => ixOk y && (decide (q = pyOp p) && (chkE Γ N o sc x && (chkE Γ N i sc y && chkE Γ N e sc v))) | _ => false)
  | .try_ b _ _, sc, s => (match s with
    | .Try y [.ExceptHandler (some (.Name x _)) none (_ :: _) _] [] [] _ => gens Γ sc && (isGl sc x && (!(x == ("__debug__" : Str)) && (Γ.exc.contains x && chkSs Γ N b sc y)))
    | _ => false)
  | .pass, _, s => (match s with | .Pass _ => true | _ => false)
  | .brk, _, s => (match s with | .Break _ => true | _ => false)
  | .cnt, _, s => (match s with | .Continue _ => true | _ => false)
  | _, _, _ => false
termination_by structural t => t
def chkSs (Γ : Gb) (N : List Str) : T → Sc → List Stmt → Bool
  | .nil, _, xs => xs.isEmpty
  | .cons (.frz _) b, sc, xs => chkSs Γ N b sc xs
  | .cons a b, sc, xs => (match xs with | x :: r => chkS Γ N a sc x && chkSs Γ N b sc r | [] => false)
  | _, _, _ => false
termination_by structural t => t
end
end MiS

namespace MiS
open PySem PySem.Spec PyProof.Rows L2 Mi MiG
variable [Tb]
section
variable {X : Cx} {C : Cn} {W : Wish} {Γ : Gb} {N : List Str} {sc : Sc}
theorem ownOf_map (N : List Str) : ∀ l : List Nat, (ownOf N l).map (·.2) = l
  | [] => rfl
  | a :: b => by show a :: (ownOf N b).map (·.2) = _; rw [ownOf_map N b]
theorem comp_parts (G : Good X Γ N sc C W) {k : Ck} {tg it ifs elt : Mi.T} {w : Mi.It} {own : List Nat} {e : Expr} (h : chkE Γ N (.comp k tg w it ifs elt own) sc e = true) :
    ∃ y g i fs scope p wi, e = .ListComp y [⟨g, i, fs, 0⟩] scope p ∧ PI X g i wi ∧ Feeds X C W w it wi ∧ Parts X C g fs y scope (ownOf N own) tg ifs elt ∧ ∀ x, foldedSetIterable i X.env x = pure x := by
  rw [chkE.eq_def] at h
  simp only at h
  split at h
  · rename_i y g i fs scope p
    obtain ⟨g1, k1⟩ := and2 h
    obtain ⟨g2, k2⟩ := and2 k1
    obtain ⟨g3, k3⟩ := and2 k2
    obtain ⟨g4, g5⟩ := and2 k3
    obtain ⟨wi, hi, hf, hs, _⟩ := chk_I it X sc G w g i g3
    refine ⟨y, g, i, fs, scope, p, wi, rfl, hi, hf, ?_, hs⟩
    refine ⟨blk_ok G g1, fun s H A cl fp => ?_, fun s H A cl fp => ?_, fun s H A cl fp => ?_⟩
    · rw [ownOf_map]
      exact (chk_Wboth (G.blk (of_decide_eq_true (and2 g1).1) (and2 (and2 (and2 g1).2).2).1 s H A cl fp) tg).1 g g2
    · cases fs with
      | nil =>
        cases ifs <;> first
          | exact sts_nil
          | exact (nope g4).elim
      | cons f r =>
        cases r with
        | nil => exact sts_one (chk_T ifs _ _ (G.blk (of_decide_eq_true (and2 g1).1) (and2 (and2 (and2 g1).2).2).1 s H A cl fp) f g4)
        | cons _ _ => exact (nope g4).elim
    · exact chk_E elt _ _ (G.blk (of_decide_eq_true (and2 g1).1) (and2 (and2 (and2 g1).2).2).1 s H A cl fp) y g5
  · exact (nope h).elim
theorem isCompT_of {e : Mi.T} (h : isCompT e = true) : (∃ k tg w it ifs elt own, e = .comp k tg w it ifs elt own) ∨ (∃ k tg w it tg2 w2 it2 elt own, e = .comp2 k tg w it tg2 w2 it2 elt own) ∨ ∃ tg w it k v own, e = .dcomp tg w it k v own := by
  cases e <;> first
    | exact .inl ⟨_, _, _, _, _, _, _, rfl⟩
    | exact .inr (.inl ⟨_, _, _, _, _, _, _, _, _, rfl⟩)
    | exact .inr (.inr ⟨_, _, _, _, _, _, rfl⟩)
    | exact (nope h).elim
theorem comp2_parts (G : Good X Γ N sc C W) {k : Ck} {tg it tg2 it2 elt : Mi.T} {w w2 : Mi.It} {own : List Nat} {e : Expr} (h : chkE Γ N (.comp2 k tg w it tg2 w2 it2 elt own) sc e = true) :
    ∃ y g i g2 i2 scope p wi wi1, e = .ListComp y [⟨g, i, [], 0⟩, ⟨g2, i2, [], 0⟩] scope p ∧ PI X g i wi ∧ Feed X C W w it wi ∧ Parts2 X C g g2 i2 y scope (ownOf N own) tg tg2 it2 elt w2 wi1 ∧ ∀ x, foldedSetIterable i X.env x = pure x := by
  rw [chkE.eq_def] at h
  simp only at h
  split at h
  · rename_i y g i g2 i2 scope p
    obtain ⟨g1, k1⟩ := and2 h
    obtain ⟨gs, k1⟩ := and2 k1
    obtain ⟨gt, k1⟩ := and2 k1
    obtain ⟨gt2, k1⟩ := and2 k1
    obtain ⟨gi, k1⟩ := and2 k1
    obtain ⟨gi2, ge⟩ := and2 k1
    obtain ⟨wi, hi, _, hs, ew⟩ := chk_I it X sc G w g i gi
    have hf : Feed X C W w it wi := by rw [ew]; exact (wi_shape gi).1
    have eo := ownOf_slots N own
    have blk := fun s H A cl fp => G.blk (of_decide_eq_true (and2 g1).1) (and2 (and2 (and2 g1).2).2).1 s H A cl fp
    have sh := wi_shape (X := X) (C := C) (W := Wno) gi2
    refine ⟨y, g, i, g2, i2, scope, p, wi, wiOf X.K C Wno it2 w2, rfl, hi, hf, ?_, hs⟩
    refine ⟨blk_ok G g1, fun j hj => ?_, fun s H A cl fp => ?_, fun s H A cl fp => ?_, sh.1, fun s H A cl fp => ?_, fun s H A cl fp => ?_, sh.2⟩
    · rw [eo]
      have := List.all_eq_true.mp gs j hj
      simpa using this
    · rw [eo]
      exact (chk_Wboth (blk s H A cl fp) tg).1 g gt
    · obtain ⟨wi1, hi1, _, _, ew1⟩ := chk_I it2 _ _ (blk s H A cl fp) w2 g2 i2 gi2
      rw [ew1] at hi1
      exact hi1
    · exact (chk_Wboth (blk s H A cl fp) tg2).1 g2 gt2
    · exact chk_E elt _ _ (blk s H A cl fp) y ge
  · exact (nope h).elim
theorem dcomp_parts (G : Good X Γ N sc C W) {tg it k v : Mi.T} {w : Mi.It} {own : List Nat} {e : Expr} (h : chkE Γ N (.dcomp tg w it k v own) sc e = true) :
    ∃ kx vx g i scope p wi, e = .DictComp kx vx [⟨g, i, [], 0⟩] scope p ∧ PI X g i wi ∧ Feed X C W w it wi ∧ PartsD X C g kx vx scope (ownOf N own) tg k v ∧ ∀ x, foldedSetIterable i X.env x = pure x := by
  rw [chkE.eq_def] at h
  simp only at h
  split at h
  · rename_i kx vx g i scope p
    obtain ⟨g1, k1⟩ := and2 h
    obtain ⟨gt, k1⟩ := and2 k1
    obtain ⟨gi, k1⟩ := and2 k1
    obtain ⟨gk, gv⟩ := and2 k1
    obtain ⟨wi, hi, _, hs, ew⟩ := chk_I it X sc G w g i gi
    have hf : Feed X C W w it wi := by rw [ew]; exact (wi_shape gi).1
    have eo := ownOf_slots N own
    have blk := fun s H A cl fp => G.blk (of_decide_eq_true (and2 g1).1) (and2 (and2 (and2 g1).2).2).1 s H A cl fp
    refine ⟨kx, vx, g, i, scope, p, wi, rfl, hi, hf, ?_, hs⟩
    refine ⟨blk_ok G g1, fun s H A cl fp => ?_, fun s H A cl fp => ?_, fun s H A cl fp => ?_⟩
    · rw [eo]
      exact (chk_Wboth (blk s H A cl fp) tg).1 g gt
    · exact chk_E k _ _ (blk s H A cl fp) kx gk
    · exact chk_E v _ _ (blk s H A cl fp) vx gv
  · exact (nope h).elim
theorem ss_forD (G : Good X Γ N sc C W) {w : Mi.It} {tg i : Expr} {body : List Stmt} {tt tit tb : Mi.T} {pos : Pos} (h : chkD Γ N tit w sc tg i = true) (hg : PG X tg (tG X.K C W tt)) (hb : PSs X body (tSs X.K C W tb)) : PS X (.For tg i body [] pos) (tS X.K C W (.for_ tt w tit tb)) := by
  have key : ∃ a, tit = .cons a .nil := by
    cases tit with
    | cons a r =>
      cases r with
      | nil => exact ⟨a, rfl⟩
      | _ => exact (nope h).elim
    | _ => exact (nope h).elim
  obtain ⟨a, rfl⟩ := key
  cases w with
  | litems =>
    rw [chkD.eq_def] at h
    simp only at h
    split at h
    · obtain ⟨g1, k1⟩ := and2 h
      obtain ⟨g2, k1⟩ := and2 k1
      obtain ⟨g3, k1⟩ := and2 k1
      obtain ⟨g4, k1⟩ := and2 k1
      obtain ⟨g5, g6⟩ := and2 k1
      obtain rfl := of_decide_eq_true g1
      obtain rfl := of_decide_eq_true g3
      exact ss_forLI G.own G.calm (G.gl _ g2) (G.txt.bi .list) (chk_E a X sc G _ g6) hg hb (base_of g5) g4 fun _ => rfl
    · exact (nope h).elim
  | items =>
    rw [chkD.eq_def] at h
    simp only at h
    split at h
    · obtain ⟨g1, k1⟩ := and2 h
      obtain ⟨g3, k1⟩ := and2 k1
      obtain ⟨g4, k1⟩ := and2 k1
      obtain ⟨g5, g6⟩ := and2 k1
      obtain rfl := of_decide_eq_true g3
      cases tg with
      | Tuple es kk tp => exact ss_forDI G.own G.calm (chk_E a X sc G _ g6) hg hb (base_of g5) g4 fun _ => rfl
      | _ => exact (nope g1).elim
    · exact (nope h).elim
  | keys =>
    obtain ⟨h1, h2⟩ := and2 (show (noSet i && chkE Γ N a sc i) = true from h)
    exact ss_forDK G.own G.calm (chk_E a X sc G i h2) hg hb (no_set h1)
  | _ => exact (nope h).elim
theorem takesNo {X : Cx} : L2.Takes X (fun _ _ _ _ => False) := fun _ _ x => by
  obtain ⟨_, _, _, _, _, _, _, _, _, _, _, _, _, _, _, _, z⟩ := x
  exact z.elim
/-- a try whose body lets nothing out -/
theorem Good.tr (G : Good X Γ N sc C W) (pn : List (Addr × Obj)) (xe : Value → Shared → Prop) (hp : PassesOwn (model X.prog X.w) X.A X.env xe) : Good (X.tr pn xe) Γ N sc C Wno :=
  ⟨G.calm, G.nN, G.nd, G.room, hp, G.bk, G.sok, G.fnl, G.txt, G.calls, by obtain ⟨lev, r, _, f⟩ := G.calls; exact f _ rfl rfl rfl rfl rfl r, G.tab, G.fr⟩
theorem ss_try (G : Good X Γ N sc C W) {x : Str} {body suite : List Stmt} {b0 : Stmt} {np pos pos' : Pos} {tb : Mi.T} {c : Nat} {th : Mi.T} (hg : gens Γ sc = true) (h1 : isGl sc x = true) (h2 : (x == ("__debug__" : Str)) = false) (h3 : Γ.exc.contains x = true)
    (hb : ∀ Y : Cx, Good Y Γ N sc C Wno → PSs Y body (tSs Y.K C Wno tb)) : PS X (.Try body [.ExceptHandler (some (.Name x np)) none (b0 :: suite) pos'] [] [] pos) (tS X.K C W (.try_ tb c th)) := by
  obtain ⟨f1, f2⟩ := G.fr hg
  obtain ⟨c, hc⟩ := G.txt.exc x h3
  refine cvS (ps_try_only (tb := fun _ => tSs X.K C Wno tb) (ts := fun _ _ _ _ _ _ => False) (Wout := fun _ _ _ _ => False) f1 f2 ⟨G.gl _ h1, h2, .inl hc⟩ takesNo (fun W pn xe _ hp => hb _ (G.tr pn xe hp)) fun a oe cls d pn _ _ => ⟨fun pins s σ H D I h => h.elim⟩) fun D σ H ⟨M, env, st, er, sr, h⟩ => ?_
  rw [ex] at h
  exact ⟨M, env, st, er, sr, PR.calm h⟩
theorem swap_plain (G : Good X Γ N sc C W) {t v : Expr} {l : Nat} (h : plainSt sc t = true) : swapsWith v (some t) l X.env = pure false := by
  cases hv : isComp v with
  | false => exact swap_no hv
  | true =>
    have key : (∃ x p, t = .Name x p) ∨ ∀ x p, t ≠ .Name x p := by
      cases t <;> first
        | exact .inl ⟨_, _, rfl⟩
        | exact .inr fun _ _ q => by cases q
    rcases key with ⟨x, p, rfl⟩ | key
    · obtain ⟨h1, h2⟩ := and2 (show (isLoc sc x && !isLo sc x) = true from h)
      have hk : (X.env.kindOf x == some .local) = false := by rw [isLo_no G h1]; exact not_ h2
      cases v <;> first
        | exact (nope hv).elim
        | (unfold swapsWith; simp only [pure_bind, hk, Bool.and_false, Bool.false_and]; done)
        | (unfold swapsWith; simp only [pure_bind, hk, Bool.and_false, Bool.false_and]; rfl)
    · cases v <;> first
        | exact (nope hv).elim
        | (cases t <;> first | rfl | exact absurd rfl (key _ _))
theorem stores_nt {t v : Expr} {env : Env} (h : isTup t = false) (ht : ∀ es p, t ≠ .List es p) : swappedStores [t] v env = pure none := stores_no (by rw [h]; rfl) ht
/-! the names of a pair that is stored swapped -/
theorem tnames_cons {ts : Mi.T} {x : Str} {px : Pos} {r : List Expr} (h : tnamesOk N ts (.Name x px :: r) = true) : ∃ i b, ts = .cons (.tname i) b ∧ N[i]? = some x ∧ tnamesOk N b r = true := by
  cases ts with
  | cons a b =>
    cases a with
    | tname i =>
      obtain ⟨h1, h2⟩ := and2 (show (decide (N[i]? = some x) && tnamesOk N b r) = true from h)
      exact ⟨i, b, rfl, of_decide_eq_true h1, h2⟩
    | _ => exact (nope h).elim
  | _ => exact (nope h).elim
theorem tnames_nil {ts : Mi.T} (h : tnamesOk N ts [] = true) : ts = .nil := by
  cases ts with
  | nil => rfl
  | cons a b =>
    cases a with
    | tname i => exact (nope h).elim
    | _ => exact (nope h).elim
  | _ => exact (nope h).elim
theorem tnames2 {ts : Mi.T} {x y : Str} {px py : Pos} (h : tnamesOk N ts [.Name x px, .Name y py] = true) : ∃ i j, ts = .cons (.tname i) (.cons (.tname j) .nil) ∧ N[i]? = some x ∧ N[j]? = some y := by
  obtain ⟨i, b, rfl, h1, h2⟩ := tnames_cons h
  obtain ⟨j, c, rfl, h3, h4⟩ := tnames_cons h2
  obtain rfl := tnames_nil h4
  exact ⟨i, j, rfl, h1, h3⟩
theorem tnames3 {ts : Mi.T} {x y z : Str} {px py pz : Pos} (h : tnamesOk N ts [.Name x px, .Name y py, .Name z pz] = true) : ∃ i j l, ts = .cons (.tname i) (.cons (.tname j) (.cons (.tname l) .nil)) ∧ N[i]? = some x ∧ N[j]? = some y ∧ N[l]? = some z := by
  obtain ⟨i, b, rfl, h1, h2⟩ := tnames_cons h
  obtain ⟨j, l, rfl, h3, h4⟩ := tnames2 h2
  exact ⟨i, j, l, rfl, h1, h3, h4⟩
theorem compTo_of {tg : Mi.T} {t y : Expr} {gs : List Comprehension} {scope : Scope} {p : Pos} (h : compTo N sc tg t (.ListComp y gs scope p) = true) : ∃ i z pz, tg = .tname i ∧ t = .Name z pz ∧ N[i]? = some z ∧ swB sc z pz p scope = true := by
  cases tg with
  | tname i =>
    cases t with
    | Name z pz => exact ⟨i, z, pz, rfl, rfl, of_decide_eq_true (and2 h).1, (and2 h).2⟩
    | _ => exact (nope h).elim
  | _ => exact (nope h).elim
theorem compTo_ofD {tg : Mi.T} {t kx vx : Expr} {gs : List Comprehension} {scope : Scope} {p : Pos} (h : compTo N sc tg t (.DictComp kx vx gs scope p) = true) : ∃ i z pz, tg = .tname i ∧ t = .Name z pz ∧ N[i]? = some z ∧ swB sc z pz p scope = true := by
  cases tg with
  | tname i =>
    cases t with
    | Name z pz => exact ⟨i, z, pz, rfl, rfl, of_decide_eq_true (and2 h).1, (and2 h).2⟩
    | _ => exact (nope h).elim
  | _ => exact (nope h).elim
theorem ne_ix {i j : Nat} {x y : Str} (h1 : N[i]? = some x) (h2 : N[j]? = some y) (h : x ≠ y) : i ≠ j := by
  rintro rfl
  rw [h1] at h2
  exact h (Option.some.inj h2)
theorem chkGs_names (G : Good X Γ N sc C W) : ∀ {t : Mi.T} {xs : List Expr}, chkGs Γ N t sc xs = true → ∀ id pos, Expr.Name id pos ∈ xs → (X.env.kindOf id == some .local) = isLo sc id := by
  intro t
  induction t with
  | nil => intro xs h; cases xs with | nil => intro id pos q; cases q | cons _ _ => exact (nope h).elim
  | cons a b _ ih =>
    intro xs h
    cases xs with
    | nil => exact (nope h).elim
    | cons x r =>
      obtain ⟨h1, h2⟩ := and2 (show (nostar x && (chkG Γ N a sc x && chkGs Γ N b sc r)) = true from h)
      obtain ⟨h2, h3⟩ := and2 h2
      intro id pos q
      rcases List.mem_cons.mp q with q | q
      · subst q
        cases a <;> first
          | exact (nope h2).elim
          | skip
        obtain ⟨k1, k2⟩ := and2 (show (decide (N[_]? = some id) && isLoc sc id) = true from h2)
        exact isLo_no G k2
      · exact ih h3 id pos q
  | _ => intro xs h; exact (nope h).elim
theorem chk_gsr (G : Good X Γ N sc C W) : ∀ {t : Mi.T} {xs : List Expr}, chkGs Γ N t sc xs = true → PGs X xs (tGsR X.K C W t) := by
  intro t
  induction t with
  | nil => intro xs h; cases xs with | nil => exact sgsr_nil | cons _ _ => exact (nope h).elim
  | cons a b _ ih =>
    intro xs h
    cases xs with
    | nil => exact (nope h).elim
    | cons x r =>
      obtain ⟨h1, h2⟩ := and2 (show (nostar x && (chkG Γ N a sc x && chkGs Γ N b sc r)) = true from h)
      obtain ⟨h2, h3⟩ := and2 h2
      exact sgsr_cons ((chk_G G a).1 x h2) (ih h3) (by rw [asg_cons h1]; rfl)
  | _ => intro xs h; exact (nope h).elim
theorem chk_par (G : Good X Γ N sc C W) {ts es : Mi.T} {xs ys : List Expr} {k1 k2 : Nat} {p1 p2 p3 : Pos} (h : chkEs Γ N es sc ys = true) (h2 : (if swapB sc xs ys then tnamesOk N ts xs else swapNone sc xs ys && (decide (tlen es ≤ 1000) && (decide (xs.length = ys.length) && chkGs Γ N ts sc xs))) = true) :
    PS X (.Assign [.Tuple xs k1 p1] (.Tuple ys k2 p2) p3) (tS X.K C W (.par ts es)) := by
  have hA := chk_Es es X sc G ys h
  split at h2
  · rename_i hs
    rw [swapB.eq_def] at hs
    split at hs
    · rename_i x px y py a b
      obtain ⟨s1, hs⟩ := and2 hs
      obtain ⟨s2, hs⟩ := and2 hs
      obtain ⟨s3, hs⟩ := and2 hs
      obtain ⟨s4, hs⟩ := and2 hs
      obtain ⟨s5, hs⟩ := and2 hs
      obtain ⟨s6, hs⟩ := and2 hs
      obtain ⟨s7, s8⟩ := and2 hs
      obtain ⟨i, j, rfl, n1, n2⟩ := tnames2 h2
      have hx := isLo_of G s1
      have hy := isLo_of G s2
      have hxy := of_decide_eq_true s3
      exact ss_par2 G.calm (by rw [G.nN]; exact G.nd) (by rw [G.nN]; exact n1) (by rw [G.nN]; exact n2) (ne_ix n1 n2 hxy) hx hy hA (swap2 G.bk hx hy hxy s4 s5 s6 (not_ s7) (not_ s8)) (by rfl)
    · rename_i x px y py z pz a b c
      obtain ⟨s1, hs⟩ := and2 hs
      obtain ⟨s2, hs⟩ := and2 hs
      obtain ⟨s2', hs⟩ := and2 hs
      obtain ⟨s3, hs⟩ := and2 hs
      obtain ⟨s3', hs⟩ := and2 hs
      obtain ⟨s3'', hs⟩ := and2 hs
      obtain ⟨s4, hs⟩ := and2 hs
      obtain ⟨s4', hs⟩ := and2 hs
      obtain ⟨s5, hs⟩ := and2 hs
      obtain ⟨s6, hs⟩ := and2 hs
      obtain ⟨s6', hs⟩ := and2 hs
      obtain ⟨s7, s8⟩ := and2 hs
      obtain ⟨i, j, l, rfl, n1, n2, n3⟩ := tnames3 h2
      have hx := isLo_of G s1
      have hy := isLo_of G s2
      have hz := isLo_of G s2'
      have hxy := of_decide_eq_true s3
      have hxz := of_decide_eq_true s3'
      have hyz := of_decide_eq_true s3''
      exact ss_par3 G.calm (by rw [G.nN]; exact G.nd) (by rw [G.nN]; exact n1) (by rw [G.nN]; exact n2) (by rw [G.nN]; exact n3) (ne_ix n1 n2 hxy) (ne_ix n1 n3 hxz) (ne_ix n2 n3 hyz) hx hy hz hA (swap3 G.bk hx hy hz hxy hxz hyz s4 s4' s5 s6 s6' (not_ s7) (not_ s8)) (by rfl)
    · exact (nope hs).elim
  · obtain ⟨g1, k1⟩ := and2 h2
    obtain ⟨g2, k2⟩ := and2 k1
    obtain ⟨g3, g4⟩ := and2 k2
    exact ss_parT G.calm hA (chk_gsr G g4) (by rw [chkEs_len h]; exact (of_decide_eq_true g3).symm) (of_decide_eq_true g2) (chkGs_len g4).2 (swapN (chkGs_names G g4) g1)
end
section
variable {C : Cn} {W : Wish} {Γ : Gb} {N : List Str}
def SndS (Γ : Gb) (N : List Str) (C : Cn) (t : Mi.T) : Prop := ∀ {W : Wish} (X : Cx) (sc : Sc), Good X Γ N sc C W → ∀ s : Stmt, chkS Γ N t sc s = true → PS X s (tS X.K C W t)
def SndSs (Γ : Gb) (N : List Str) (C : Cn) (t : Mi.T) : Prop := ∀ {W : Wish} (X : Cx) (sc : Sc), Good X Γ N sc C W → ∀ ss : List Stmt, chkSs Γ N t sc ss = true → PSs X ss (tSs X.K C W t)
theorem chkSs_cons {a b : Mi.T} (Γ : Gb) (N : List Str) (sc : Sc) (ss : List Stmt) : (∃ i, a = .frz i) ∨ (∃ x r, ss = x :: r ∧ chkSs Γ N (.cons a b) sc ss = (chkS Γ N a sc x && chkSs Γ N b sc r)) ∨ chkSs Γ N (.cons a b) sc ss = false := by
  cases ss with
  | nil =>
    cases a <;> first
      | exact .inl ⟨_, rfl⟩
      | exact .inr (.inr rfl)
  | cons x r =>
    cases a <;> first
      | exact .inl ⟨_, rfl⟩
      | exact .inr (.inl ⟨x, r, rfl, rfl⟩)
theorem chkS_ret (Γ : Gb) (N : List Str) (sc : Sc) (e : Mi.T) (s : Stmt) : (e = .nil ∧ ∃ p, s = .Return none p) ∨ (∃ x y p, e = .cons x .nil ∧ s = .Return (some y) p ∧ chkS Γ N (.ret e) sc s = chkE Γ N x sc y) ∨ chkS Γ N (.ret e) sc s = false := by
  cases e with
  | nil =>
    cases s with
    | Return v p => cases v with
      | none => exact .inl ⟨rfl, _, rfl⟩
      | some y => exact .inr (.inr rfl)
    | _ => exact .inr (.inr rfl)
  | cons x r =>
    cases r with
    | nil =>
      cases s with
      | Return v p => cases v with
        | none => exact .inr (.inr rfl)
        | some y => exact .inr (.inl ⟨_, _, _, rfl, rfl, rfl⟩)
      | _ => exact .inr (.inr rfl)
    | _ => exact .inr (.inr rfl)
  | _ => exact .inr (.inr rfl)
theorem chk_SS : ∀ t : Mi.T, SndS Γ N C t ∧ SndSs Γ N C t := by
  intro t
  induction t with
  | nil =>
    refine ⟨fun X sc G s h => ⟨fun pins s0 σ H D I ⟨M, env, st, er, sr, h⟩ => ?_⟩, fun X sc G ss h => ?_⟩
    · rw [ex] at h
      · exact h.elim
      all_goals simp
    · cases ss with
      | nil => exact ss_nil
      | cons _ _ => exact (nope h).elim
  | cons a b iha ihb =>
    refine ⟨fun X sc G s h => (nope h).elim, fun X sc G ss h => ?_⟩
    rcases chkSs_cons (a := a) (b := b) Γ N sc ss with ⟨i, rfl⟩ | ⟨x, r, rfl, key⟩ | key
    · exact ss_frz (ihb.2 X sc G ss h)
    · rw [key] at h
      obtain ⟨h1, h2⟩ := and2 h
      exact ss_cons (iha.1 X sc G x h1) (ihb.2 X sc G r h2)
    · rw [key] at h; exact (nope h).elim
  | asg tg e =>
    refine ⟨fun X sc G s h => ?_, fun X sc G ss h => (nope h).elim⟩
    rw [chkS.eq_def] at h
    simp only at h
    split at h
    · rename_i t v p
      obtain ⟨g1, g2⟩ := and2 h
      split at g2
      · split at g2
        · rename_i _ hp
          obtain ⟨k1, k2⟩ := and2 g2
          obtain ⟨k2, k3⟩ := and2 k2
          exact ss_asg (chk_E e X sc G _ g1) ((chk_G G tg).1 _ k3) (swap_plain G hp) (stores_nt (not_ k2) (notList k3)) (by rw [asg_cons k1]; rfl)
        · obtain ⟨k1, k2⟩ := and2 g2
          rcases isCompT_of k1 with ⟨k, tg', w, it, ifs, elt, own, rfl⟩ | ⟨k, tg', w, it, tg2, w2, it2, elt, own, rfl⟩ | ⟨tg', w, it, kk, vv, own, rfl⟩
          · obtain ⟨y, g, i, fs, scope, p2, wi, rfl, hi, hf, hp, hs⟩ := comp_parts G g1
            obtain ⟨i0, y0, py0, rfl, rfl, q1, q2⟩ := compTo_of k2
            have := ss_comp (k := k) (spos := p) G.calm (by rw [G.nN]; exact G.nd) (by rw [G.nN]; exact q1) (isLo_of G (and2 q2).1) (sw_true G q2) hi hf hp hs
            rw [ownOf_map] at this
            exact this
          · obtain ⟨y, g, i, g2, i2, scope, p2, wi, wi1, rfl, hi, hf, hp, hs⟩ := comp2_parts G g1
            obtain ⟨i0, y0, py0, rfl, rfl, q1, q2⟩ := compTo_of k2
            have := ss_comp2 (k := k) (spos := p) G.calm (by rw [G.nN]; exact G.nd) (by rw [G.nN]; exact q1) (isLo_of G (and2 q2).1) (sw_true G q2) hi hf hp hs
            rw [ownOf_map] at this
            exact this
          · obtain ⟨kx, vx, g, i, scope, p2, wi, rfl, hi, hf, hp, hs⟩ := dcomp_parts G g1
            obtain ⟨i0, y0, py0, rfl, rfl, q1, q2⟩ := compTo_ofD k2
            have := ss_dcomp (spos := p) G.room G.calm (by rw [G.nN]; exact G.nd) (by rw [G.nN]; exact q1) (isLo_of G (and2 q2).1) (sw_trueD G q2) hi hf hp hs
            rw [ownOf_map] at this
            exact this
      · rename_i hc
        obtain ⟨k1, k2⟩ := and2 g2
        obtain ⟨k2, k3⟩ := and2 k2
        have hc' : isComp v = false := by cases q : isComp v with | false => rfl | true => exact absurd q hc
        exact ss_asg (chk_E e X sc G _ g1) ((chk_G G tg).1 _ k3) (swap_no hc') (stores_no (not_ k1) (notList k3)) (by rw [asg_cons k2]; rfl)
    · exact (nope h).elim
  | par ts es =>
    refine ⟨fun X sc G s h => ?_, fun X sc G ss h => (nope h).elim⟩
    rw [chkS.eq_def] at h
    simp only at h
    split at h
    · obtain ⟨g1, g2⟩ := and2 h
      exact chk_par G g1 g2
    · exact (nope h).elim
  | if_ c a b _ iha ihb =>
    refine ⟨fun X sc G s h => ?_, fun X sc G ss h => (nope h).elim⟩
    rw [chkS.eq_def] at h
    simp only at h
    split at h
    · obtain ⟨g1, k1⟩ := and2 h
      obtain ⟨g2, g3⟩ := and2 k1
      exact ss_if (chk_T c X sc G _ g1) (iha.2 X sc G _ g2) (ihb.2 X sc G _ g3)
    · exact (nope h).elim
  | whl c b _ ihb =>
    refine ⟨fun X sc G s h => ?_, fun X sc G ss h => (nope h).elim⟩
    rw [chkS.eq_def] at h
    simp only at h
    split at h
    · obtain ⟨g1, g2⟩ := and2 h
      exact ss_while G.own (chk_T c X sc G _ g1) (ihb.2 X sc G _ g2)
    · exact (nope h).elim
  | for_ tg w it b _ _ ihb =>
    refine ⟨fun X sc G s h => ?_, fun X sc G ss h => (nope h).elim⟩
    rw [chkS.eq_def] at h
    simp only at h
    split at h
    · obtain ⟨g1, k1⟩ := and2 h
      obtain ⟨g2, g3⟩ := and2 k1
      rcases Bool.or_eq_true_iff.mp g2 with g2 | g2
      · exact ss_for G g2 ((chk_G G tg).1 _ g1) (ihb.2 X sc G _ g3)
      · exact ss_forD G g2 ((chk_G G tg).1 _ g1) (ihb.2 X sc G _ g3)
    · exact (nope h).elim
  | ret e =>
    refine ⟨fun X sc G s h => ?_, fun X sc G ss h => (nope h).elim⟩
    rcases chkS_ret Γ N sc e s with ⟨rfl, p, rfl⟩ | ⟨x, y, p, rfl, rfl, key⟩ | key
    · exact ss_retN
    · rw [key] at h; exact ss_ret (chk_E _ X sc G _ h)
    · rw [key] at h; exact (nope h).elim
  | xpr e =>
    refine ⟨fun X sc G s h => ?_, fun X sc G ss h => (nope h).elim⟩
    rw [chkS.eq_def] at h
    simp only at h
    split at h
    · obtain ⟨g1, g2⟩ := and2 h
      exact ss_expr (chk_E e X sc G _ g2) (swap_no (not_ g1))
    · exact (nope h).elim
  | aug i o e =>
    refine ⟨fun X sc G s h => ?_, fun X sc G ss h => (nope h).elim⟩
    rw [chkS.eq_def] at h
    simp only at h
    split at h
    · obtain ⟨g1, k1⟩ := and2 h
      obtain ⟨g2, k2⟩ := and2 k1
      obtain ⟨g3, g4⟩ := and2 k2
      obtain rfl := of_decide_eq_true g3
      exact ss_aug (by rw [G.nN]; exact G.nd) (by rw [G.nN]; exact of_decide_eq_true g1) (G.loc _ g2) (G.fnl _ g2) (chk_E e X sc G _ g4)
    · exact (nope h).elim
  | augs o i p e =>
    refine ⟨fun X sc G s h => ?_, fun X sc G ss h => (nope h).elim⟩
    rw [chkS.eq_def] at h
    simp only at h
    split at h
    · rename_i x y tp q v pos
      obtain ⟨g0, k1⟩ := and2 h
      obtain ⟨g1, k1⟩ := and2 k1
      obtain ⟨g2, k2⟩ := and2 k1
      obtain ⟨g3, g4⟩ := and2 k2
      obtain rfl := of_decide_eq_true g1
      refine ss_augs G.room (chk_E o X sc G _ g2) (chk_E i X sc G _ g3) (chk_E e X sc G _ g4) ?_
      cases y <;> first
        | exact fun _ _ _ => rfl
        | exact (nope g0).elim
    · exact (nope h).elim
  | try_ b c th ihb _ =>
    refine ⟨fun X sc G s h => ?_, fun X sc G ss h => (nope h).elim⟩
    rw [chkS.eq_def] at h
    simp only at h
    split at h
    · obtain ⟨g1, k1⟩ := and2 h
      obtain ⟨g2, k1⟩ := and2 k1
      obtain ⟨g3, k1⟩ := and2 k1
      obtain ⟨g4, g5⟩ := and2 k1
      exact ss_try G g1 g2 (not_ g3) g4 fun Y GY => ihb.2 Y sc GY _ g5
    · exact (nope h).elim
  | pass =>
    refine ⟨fun X sc G s h => ?_, fun X sc G ss h => (nope h).elim⟩
    cases s with
    | Pass p => exact ss_pass
    | _ => exact (nope h).elim
  | brk =>
    refine ⟨fun X sc G s h => ?_, fun X sc G ss h => (nope h).elim⟩
    cases s with
    | Break p => exact ss_brk
    | _ => exact (nope h).elim
  | cnt =>
    refine ⟨fun X sc G s h => ?_, fun X sc G ss h => (nope h).elim⟩
    cases s with
    | Continue p => exact ss_cnt
    | _ => exact (nope h).elim
  | _ => exact ⟨fun X sc G s h => (nope h).elim, fun X sc G ss h => (nope h).elim⟩
end
end MiS

namespace MiS
open PySem PySem.Spec PyProof.Rows L2 Mi MiG
variable [Tb]
theorem se_callK {X : Cx} {PL : List FD} {wf n f k : Nat} {d : FD} {fa : Addr} {fd : FuncData} {ps : List Str} {dvs : List V} {dv : List D} {ds : List Value} {x : Str} {e : Expr} {es : List Expr} {tes : Mi.T} {p pos : Pos}
    (F : FnOk X.prog X.w X.K X.mg X.base CX0 k fa fd ps (spF PL wf X.K n f)) (hr : Room k X.A) (hg : Gl X x) (hm : X.mg x = some (.ref fa)) (hk : PySem.W.keepIn X.K (.ref fa) = true) (hb : Binds X.K fd ps ds) (hd : Vals dvs ds)
    (hf : PL[f]? = some d) (hdv : ∀ L H, RpL X.K L H dvs dv) (hlen : (tlen tes = d.npar ∧ dv = []) ∨ (tlen tes + d.dfl.length = d.npar ∧ dv = d.dfl))
    (ha : PA X (e :: es) (tEs X.K ⟨callN PL wf n, wf⟩ Wno tes)) (hdb : (x == ("__debug__" : Str)) = false) (hst : (e :: es).all nostar = true) : PE X (.Call (.Name x p) (e :: es) [] pos) (tE X.K ⟨callN PL wf n, wf⟩ Wno (.call f tes)) := by
  have h4 := Bool.and_eq_true_iff.mp hst
  exact cvX (pe_call (E := fun _ _ _ => False) F hr hg hm hk hb hd (fun _ _ _ _ _ _ _ h => h.elim) ha hdb (star_cons h4.1) (stars_off h4.2)) (co_call (CX := CX0) hf hdv hlen)
/-- the text at a heap: its defs, its names -/
structure TextAt (K : PySem.W.Frag) (mg : Str → Option Value) (base : Heap) (PL : List FD) (Γ : Gb) (FT : Nat → FnD) : Prop where
  at_ : ∀ f d, PL[f]? = some d → FnAt K (FT f) d
  chk : ∀ f d, PL[f]? = some d → chkSs Γ (FT f).N d.body (FT f).scope.names (FT f).body = true
  txt : TextOk K mg Γ
  fns : ∀ x f, fnIn Γ x f = true → ∃ d, PL[f]? = some d ∧ mg x = some (.ref (FT f).addr) ∧ PySem.W.keepIn K (.ref (FT f).addr) = true ∧ Γ.arity f = (d.npar, d.dfl.length) ∧
    ∀ k, (k = d.npar ∨ k + d.dfl.length = d.npar) → ∃ (dvs : List V) (ds : List Value) (dv : List D), Binds K (FT f).fd (FT f).ps ds ∧ Vals dvs ds ∧ (∀ L H, RpL K L H dvs dv) ∧ ((k = d.npar ∧ dv = []) ∨ (k + d.dfl.length = d.npar ∧ dv = d.dfl))
  tab : ∀ f d, PL[f]? = some d → gens Γ (FT f).scope.names = true → ∃ c P, GxR.TabB base mg c P ∧ (FT f).cdv = .ref c ∧ Tb.T P
theorem rule_of {K : PySem.W.Frag} {mg : Str → Option Value} {base : Heap} {PL : List FD} {wf n k : Nat} {Γ : Gb} {FT : Nat → FnD} {P : Program} {w : World} (T : TextAt K mg base PL Γ FT)
    (F : ∀ g e, PL[g]? = some e → FnOk P w K mg base CX0 k (FT g).addr (FT g).fd (FT g).ps (spF PL wf K n g)) {Y : Cx} (h1 : Y.prog = P) (h2 : Y.w = w) (h3 : Y.K = K) (h4 : Y.mg = mg) (h5 : Y.base = base) (hr : Room k Y.A) : CallRule Y ⟨callN PL wf n, wf⟩ Wno Γ := by
  subst h1; subst h2; subst h3; subst h4; subst h5
  intro x f e es tes p pos hx hg hdb har hlen hst ha
  obtain ⟨d, q1, q2, q3, q4, q5⟩ := T.fns x f hx
  have hk : es.length + 1 = d.npar ∨ es.length + 1 + d.dfl.length = d.npar := by
    have := Bool.or_eq_true_iff.mp har
    rw [q4] at this
    exact this.imp of_decide_eq_true of_decide_eq_true
  obtain ⟨dvs, ds, dv, b1, b2, b3, b4⟩ := q5 (es.length + 1) hk
  exact se_callK (F f d q1) hr hg q2 q3 b1 b2 q1 b3 (by rw [hlen]; exact b4) ha hdb hst
theorem all_ok {K : PySem.W.Frag} {mg : Str → Option Value} {base : Heap} {PL : List FD} {wf : Nat} {Γ : Gb} {FT : Nat → FnD} {P : Program} {w : World} (T : TextAt K mg base PL Γ FT) :
    ∀ n f d, PL[f]? = some d → FnOk P w K mg base CX0 (2 * n) (FT f).addr (FT f).fd (FT f).ps (spF PL wf K n f)
  | 0, f, d, hf => ⟨fun vs H Q E ⟨M, st, rs, d', h1, h2, sr, rl, h⟩ => h.elim, fun A outer s H args us vs Q E _ _ _ _ ⟨M, st, rs, d', h1, h2, sr, rl, h⟩ => h.elim⟩
  | n + 1, f, d, hf => by
    have F := T.at_ f d hf
    show FnOk P w K mg base CX0 ((2 * n + 1) + 1) _ _ _ _
    refine fn_of F.lk F.cd F.sc (fun vs H Q E ⟨M, st, rs, d', h1, h2, sr, rl, h⟩ => ?_) fun A outer s H vs Q E room ⟨M, st, rs, d', h1, h2, sr, rl, h⟩ => ?_
    · rw [hf] at h1
      cases h1
      rw [rl.len, h2, F.len]
    · rw [hf] at h1
      cases h1
      have ih := fun g e hg => all_ok (P := P) (w := w) (wf := wf) T n g e hg
      have hX : (cxOf CX0 P w K mg base (FT f).N (FT f).qual (FT f).scope (FT f).addr (FT f).cdv A outer s H E).nox.A = A.deeper (envOfC (FT f).qual (FT f).scope s.heap.objs.size (FT f).addr (FT f).cdv) := rfl
      have G : Good (cxOf CX0 P w K mg base (FT f).N (FT f).qual (FT f).scope (FT f).addr (FT f).cdv A outer s H E).nox Γ (FT f).N (FT f).scope.names ⟨callN PL wf n, wf⟩ Wno :=
        { calm := rfl, nN := rfl, nd := F.sc.nd, room := by rw [hX]; have := room.un; omega
          own := PassesOwn.never
          bk := by
            show (if (FT f).scope.kind.isAnnotationScope then ScopeKind.function else (FT f).scope.kind) = _
            rw [F.sc.kind]; rfl
          sok := fun x k e => .inl e
          fnl := fun x h => .inl rfl
          txt := T.txt
          calls := ⟨2 * n, by rw [hX]; exact room.mono (by omega), fun _ => by rw [hX]; exact room, fun Y h1 h2 h3 h4 h5 hr => rule_of T ih h1 h2 h3 h4 h5 hr⟩
          callW := rule_of T ih rfl rfl rfl rfl rfl (by rw [hX]; exact room.mono (by omega))
          tab := fun hg => T.tab f d hf hg
          fr := fun _ => ⟨rfl, rfl⟩ }
      have B := (chk_SS (Γ := Γ) (N := (FT f).N) (C := ⟨callN PL wf n, wf⟩) d.body).2 (W := Wno) _ _ G _ (T.chk f d hf)
      refine ⟨_, PSs.nox B, M, startE d rs, st, ?_⟩
      have efill : fillD d rs = rs := by
        unfold fillD
        split
        · rename_i e
          have : d.dfl = [] := by
            cases hd : d.dfl with
            | nil => rfl
            | cons a b => rw [hd, List.length_cons] at e; omega
          rw [this]; simp
        · rfl
      have h' : PR K M H st (leave st.length (exs ⟨callN PL wf n, wf⟩ d.body (startE d rs) st)) Wno (QV K Q) := by
        have e : callN PL wf (n + 1) f rs st = leave st.length (exs ⟨callN PL wf n, wf⟩ d.body (startE d rs) st) := by
          rw [callN, hf]
          simp only [efill, h2, if_true]
        rw [← e]; exact h
      refine ⟨start_er rl h2 F.nsl, sr, ?_⟩
      exact leave_end sr.len h'
end MiS

namespace MiS
open PySem PySem.Spec PyProof.Rows L2 Mi MiG
/-- the tables of the defs tf -/
abbrev tbOf (K : PySem.W.Frag) (tf : List He.Defn) : Tb := ⟨fun P => ∃ p ∈ tf, P = (He.cT K p).2⟩
/-- how the def's arguments are bound -/
def BindP (K : PySem.W.Frag) (Df : He.DefD) (d : FD) (ps : List Str) : Prop := ∀ fd, FunD K Df.name Df.qual Df.params Df.body Df.scope (Df.dvs K) (Df.kws K) (He.fAd K Df.at_) fd → ∀ k, (k = d.npar ∨ k + d.dfl.length = d.npar) →
  ∃ (dvs : List V) (ds : List Value) (dv : List D), Binds K fd ps ds ∧ Vals dvs ds ∧ (∀ L H, RpL K L H dvs dv) ∧ ((k = d.npar ∧ dv = []) ∨ (k + d.dfl.length = d.npar ∧ dv = d.dfl))
theorem bind0 {K : PySem.W.Frag} {Df : He.DefD} {d : FD} {ps : List Str} (h0 : Df.dfl = []) (h1 : d.dfl = []) (h : ∀ (kV doc pm : Value) (an : Option Addr) (cdv ct : Value) (us : List Value), us.length = ps.length → bindArgs (PySem.W.fnOf Df.name Df.qual Df.params Df.body Df.scope .none kV doc pm an cdv ct) ⟨us, []⟩ = pure (ps.zip us)) : BindP K Df d ps := by
  intro fd F k hk
  have e : Df.dvs K = [] := by unfold He.DefD.dvs; rw [h0]; rfl
  rw [e] at F
  rw [h1] at hk
  exact ⟨[], [], [], FunD.bindsN F h, .nil, fun _ _ => .nil, .inl ⟨by simpa using hk, rfl⟩⟩
theorem bind1 {K : PySem.W.Frag} {Df : He.DefD} {d : FD} {ps : List Str} {n : Nat} {v : He.Dv} {dv : D} (h0 : Df.dfl = [v]) (h1 : d.dfl = [dv]) (hv : ∀ L H, Rp K L H (v.v K) dv) (hn : ps.length = n + 1) (hd : d.npar = n + 1)
    (hA : ∀ (T : Addr) (kV doc pm : Value) (an : Option Addr) (cdv ct : Value) (us : List Value) (it : Value), us.length = n → ∃ k, bindArgs (PySem.W.fnOf Df.name Df.qual Df.params Df.body Df.scope (.ref T) kV doc pm an cdv ct) ⟨us, []⟩ = seqItems? (.ref T) >>= k ∧ k (some [it].toArray) = pure (ps.zip (us ++ [it])))
    (hB : ∀ (T : Addr) (kV doc pm : Value) (an : Option Addr) (cdv ct : Value) (us : List Value) (it : Value), us.length = n + 1 → ∃ k, bindArgs (PySem.W.fnOf Df.name Df.qual Df.params Df.body Df.scope (.ref T) kV doc pm an cdv ct) ⟨us, []⟩ = seqItems? (.ref T) >>= k ∧ k (some [it].toArray) = pure (ps.zip (us ++ []))) : BindP K Df d ps := by
  intro fd F k hk
  have e : Df.dvs K = [v.v K] := by unfold He.DefD.dvs; rw [h0]; rfl
  rw [e] at F
  rw [h1, hd] at hk
  rcases hk with hk | hk
  · obtain ⟨ds, q1, q2⟩ := FunD.binds1 F (n + 1) 1 (by simp) (by rw [hn]; rfl) fun T kV doc pm an cdv ct us its hu hi => by
      match its, hi with
      | [it], _ => exact hB T kV doc pm an cdv ct us it hu
    exact ⟨_, ds, [], q2, q1, fun _ _ => .nil, .inl ⟨by rw [hk, hd], rfl⟩⟩
  · obtain ⟨ds, q1, q2⟩ := FunD.binds1 F n 0 (by simp) (by rw [hn]; rfl) fun T kV doc pm an cdv ct us its hu hi => by
      match its, hi with
      | [it], _ => exact hA T kV doc pm an cdv ct us it hu
    exact ⟨_, ds, [dv], q2, q1, fun L H => .cons (hv L H) .nil, .inr ⟨by rw [h1, hd]; exact hk, h1.symm⟩⟩
def plainD : D → Bool
  | .int _ => true
  | .str _ => true
  | _ => false
theorem rp_dvs {K : PySem.W.Frag} {L : Addr → Prop} {H : Hp} : ∀ {ds : List D}, ds.all plainD = true → RpL K L H ((ds.map toDv).map (He.Dv.v K)) ds
  | [], _ => .nil
  | d :: ds, h => by
    have h := Bool.and_eq_true_iff.mp (show (plainD d && ds.all plainD) = true from h)
    refine .cons ?_ (rp_dvs h.2)
    cases d with
    | int i => exact .int i
    | str x => exact .str x
    | _ => cases h.1
def tupsB (Γ : Gb) (K : PySem.W.Frag) : Bool := Γ.tup.all fun p => He.tupB K p.1 (p.2.map toDv)
/-- .. and no list among what stands -/
abbrev exB (Γ : Gb) : PySem.W.Frag → Bool := exT Γ.tup
theorem lookup_in {a : Addr} {o : Obj} {K : PySem.W.Frag} (h : K.lookup a = some o) : (a, o) ∈ K := He.lookup_mem h
theorem ex_tup {Γ : Gb} {K : PySem.W.Frag} (h : exB Γ K = true) : tupsB Γ K = true := (Bool.and_eq_true_iff.mp h).1
theorem ex_lst {Γ : Gb} {K : PySem.W.Frag} (h : exB Γ K = true) {H : Hp} {a : Addr} {xs : List V} (q : SqL K H a xs) : Rd H a (.lst xs) := by
  rcases q with q | ⟨o, its, n, hk, hc, _⟩
  · exact q
  · have := List.all_eq_true.mp (Bool.and_eq_true_iff.mp h).2 _ (lookup_in hk)
    rw [hc] at this
    cases this
/-- facts among facts -/
def gloIn (fa : List He.Fa) (x : Str) : Bool := fa.any fun f => match f with | .glo y => decide (y = x) | _ => false
def freeIn (fa : List He.Fa) (x : Str) : Bool := fa.any fun f => match f with | .free y => decide (y = x) | _ => false
def intIn (fa : List He.Fa) (x : Str) (i : Int) : Bool := fa.any fun f => match f with | .int y j => decide (y = x) && decide (j = i) | _ => false
def strIn (fa : List He.Fa) (x z : Str) : Bool := fa.any fun f => match f with | .str y t => decide (y = x) && decide (t = z) | _ => false
theorem glo_in {fa : List He.Fa} {x : Str} (h : gloIn fa x = true) : He.Fa.glo x ∈ fa := by
  obtain ⟨f, hf, e⟩ := List.any_eq_true.mp h
  cases f with
  | glo y => rw [← of_decide_eq_true e]; exact hf
  | _ => cases e
theorem free_in {fa : List He.Fa} {x : Str} (h : freeIn fa x = true) : He.Fa.free x ∈ fa := by
  obtain ⟨f, hf, e⟩ := List.any_eq_true.mp h
  cases f with
  | free y => rw [← of_decide_eq_true e]; exact hf
  | _ => cases e
theorem int_in {fa : List He.Fa} {x : Str} {i : Int} (h : intIn fa x i = true) : He.Fa.int x i ∈ fa := by
  obtain ⟨f, hf, e⟩ := List.any_eq_true.mp h
  cases f with
  | int y j =>
    have e := Bool.and_eq_true_iff.mp e
    rw [← of_decide_eq_true e.1, ← of_decide_eq_true e.2]; exact hf
  | _ => cases e
theorem str_in {fa : List He.Fa} {x z : Str} (h : strIn fa x z = true) : He.Fa.str x z ∈ fa := by
  obtain ⟨f, hf, e⟩ := List.any_eq_true.mp h
  cases f with
  | str y j =>
    have e := Bool.and_eq_true_iff.mp e
    rw [← of_decide_eq_true e.1, ← of_decide_eq_true e.2]; exact hf
  | _ => cases e
def allBi : List Bi := [.len, .list, .tuple, .int, .str, .max, .min, .sorted, .lenset, .sortset, .lrange, .maxt, .minl, .ltup]
theorem all_bi (b : Bi) : b ∈ allBi := by cases b <;> simp [allBi]
/-- the names are as the facts tell -/
def namesB (Γ : Gb) (fa : List He.Fa) : Bool := allBi.all (fun b => freeIn fa (biN b)) && (["isinstance", "all", "any", "set", "range", "enumerate", "bool", "zip"].all (fun x : String => freeIn fa (Str.ofString x)) &&
  (Γ.con.all (fun p => match p.2 with | .int i => intIn fa p.1 i | .str z => strIn fa p.1 z | _ => false) && (Γ.tup.all (fun p => gloIn fa p.1 && p.2.all plainD) && Γ.exc.all (fun x => gloIn fa x))))
theorem mem_lookup {α β : Type} [BEq α] [LawfulBEq α] {a : α} {b : β} : ∀ {l : List (α × β)}, l.lookup a = some b → (a, b) ∈ l
  | [], h => by cases h
  | (x, y) :: r, h => by
    have h2 : (match a == x with | true => some y | false => r.lookup a) = some b := h
    cases q : (a == x) with
    | true =>
      rw [q] at h2
      have e : y = b := Option.some.inj h2
      rw [eq_of_beq q, e]
      exact List.mem_cons_self
    | false =>
      rw [q] at h2
      exact List.mem_cons_of_mem _ (mem_lookup h2)
section
variable {K : PySem.W.Frag} {h : Heap} {mg : Str → Option Value} {fa : List He.Fa} {fn : List He.DefD} {tf : List He.Defn} {ex : PySem.W.Frag → Bool} {w : World} {Γ : Gb}
theorem txt_of (X : K.In h) (G : h.Ns mainGlobals mg) (c : He.SaysX fa fn [] tf (exB Γ) w h K) (b : namesB Γ fa = true) : TextOk K mg Γ := by
  obtain ⟨b1, b⟩ := Bool.and_eq_true_iff.mp b
  obtain ⟨b2, b⟩ := Bool.and_eq_true_iff.mp b
  obtain ⟨b3, b⟩ := Bool.and_eq_true_iff.mp b
  obtain ⟨b4, b5⟩ := Bool.and_eq_true_iff.mp b
  have fr : ∀ {x : Str}, freeIn fa x = true → mg x = none := fun hx => He.free_ok X G (c.t.d.facts (free_in hx))
  have nm : ∀ x ∈ (["isinstance", "all", "any", "set", "range", "enumerate", "bool", "zip"] : List String), mg (Str.ofString x) = none := fun x hx => fr (List.all_eq_true.mp b2 x hx)
  have bi : ∀ b : Bi, mg (biN b) = none := fun b => fr (List.all_eq_true.mp b1 b (all_bi b))
  exact { bi := bi
          isi := nm "isinstance" (by simp), all_ := nm "all" (by simp), any_ := nm "any" (by simp), set_ := nm "set" (by simp), rng := nm "range" (by simp), enu := nm "enumerate" (by simp), zip := nm "zip" (by simp)
          tup := fun x ds e => by
            have m := mem_lookup e
            obtain ⟨q1, q2⟩ := Bool.and_eq_true_iff.mp (List.all_eq_true.mp b4 _ m)
            exact ⟨He.ga K x, (ds.map toDv).map (He.Dv.v K), He.glo_ok X G (c.t.d.facts (glo_in q1)), fun H => He.tupB_ok (List.all_eq_true.mp (ex_tup c.more) _ m) H, fun L H => rp_dvs q2⟩
          exc := fun x e => by
            have m : x ∈ Γ.exc := by simpa using e
            exact ⟨_, He.glo_ok X G (c.t.d.facts (glo_in (List.all_eq_true.mp b5 x m)))⟩
          ty := fun t => by
            cases t with
            | int => exact bi .int
            | bool => exact nm "bool" (by simp)
            | str => exact bi .str
            | tuple => exact bi .tuple
            | list => exact bi .list
          con := fun x d e => by
            have m := List.all_eq_true.mp b3 _ (mem_lookup e)
            refine ⟨fun i ei => ?_, fun z ez => ?_⟩
            · subst ei
              obtain ⟨t, q⟩ := He.int_ok X G (c.t.d.facts (int_in m))
              exact ⟨_, q, t, rfl⟩
            · subst ez
              obtain ⟨t, q⟩ := He.str_ok X G (c.t.d.facts (str_in m))
              exact ⟨_, q, t, rfl⟩ }
/-- a def's names, slots -/
structure Sl where
  N : List Str
  ps : List Str
def scopeB (N ps : List Str) (sc : Scope) : Bool := decide (sc.kind = .function) && (!sc.isCoroutine && (!sc.isGenerator && (decide N.Nodup && (decide (N.take ps.length = ps) && (ps.all (fun x => decide (sc.names.lookup x = some .local) || decide (sc.names.lookup x = some .cell)) && sc.names.all (fun y => !decide (y.2 = .free)))))))
theorem scope_of {N ps : List Str} {sc : Scope} (b : scopeB N ps sc = true) : FnScope N ps sc := by
  obtain ⟨b1, b⟩ := Bool.and_eq_true_iff.mp b
  obtain ⟨b2, b⟩ := Bool.and_eq_true_iff.mp b
  obtain ⟨b3, b⟩ := Bool.and_eq_true_iff.mp b
  obtain ⟨b4, b⟩ := Bool.and_eq_true_iff.mp b
  obtain ⟨b5, b⟩ := Bool.and_eq_true_iff.mp b
  obtain ⟨b6, b7⟩ := Bool.and_eq_true_iff.mp b
  exact ⟨of_decide_eq_true b1, by simpa using b2, by simpa using b3, of_decide_eq_true b4, of_decide_eq_true b5, fun x hx => by
    have := List.all_eq_true.mp b6 x hx
    exact (Bool.or_eq_true_iff.mp this).imp of_decide_eq_true of_decide_eq_true, fun y hy q => by
    have := List.all_eq_true.mp b7 y hy
    rw [q] at this
    cases this⟩
/-- one def is carried rightly -/
def oneB (Γ : Gb) (tf : List He.Defn) (Df : He.DefD) (d : FD) (s : Sl) : Bool := scopeB s.N s.ps Df.scope && (decide (s.ps.length = d.npar) && (decide (s.N.length = d.nsl) && (chkSs Γ s.N d.body Df.scope.names Df.body && (!gens Γ Df.scope.names || tf.any fun p => decide (p = Df.at_)))))
def allB (Γ : Gb) (tf : List He.Defn) : List He.DefD → List FD → List Sl → Bool
  | Df :: fn, d :: PL, s :: ss => oneB Γ tf Df d s && allB Γ tf fn PL ss
  | [], [], [] => true
  | _, _, _ => false
theorem all_at {Γ : Gb} {tf : List He.Defn} : ∀ {fn : List He.DefD} {PL : List FD} {ss : List Sl} {f : Nat} {d : FD}, allB Γ tf fn PL ss = true → PL[f]? = some d → ∃ Df s, fn[f]? = some Df ∧ ss[f]? = some s ∧ oneB Γ tf Df d s = true
  | Df :: fn, d0 :: PL, s :: ss, 0, d, h, e => by
    cases e
    exact ⟨Df, s, rfl, rfl, (Bool.and_eq_true_iff.mp h).1⟩
  | Df :: fn, d0 :: PL, s :: ss, f + 1, d, h, e => all_at (f := f) (Bool.and_eq_true_iff.mp h).2 (by simpa using e)
  | [], [], [], f, d, _, e => by simp at e
  | [], _ :: _, _, _, _, h, _ => by cases h
  | _ :: _, [], _, _, _, h, _ => by cases h
  | [], [], _ :: _, _, _, h, _ => by cases h
  | _ :: _, _ :: _, [], _, _, h, _ => by cases h
def fnsB (Γ : Gb) (fa : List He.Fa) (fn : List He.DefD) (PL : List FD) : Bool := Γ.fns.all fun p => match fn[p.2]?, PL[p.2]? with
  | some Df, some d => decide (Df.at_ = (p.1, none)) && (gloIn fa p.1 && decide ((Γ.arity p.2).1 = d.npar ∧ (Γ.arity p.2).2 = d.dfl.length))
  | _, _ => false
theorem text_of {PL : List FD} {ss : List Sl} {base : Heap} (X : K.In h) (G : h.Ns mainGlobals mg) (c : He.SaysX fa fn [] tf (exB Γ) w h K) (bn : namesB Γ fa = true) (ba : allB Γ tf fn PL ss = true) (bf : fnsB Γ fa fn PL = true)
    (bind : ∀ (f : Nat) (Df : He.DefD) (d : FD) (s : Sl), fn[f]? = some Df → PL[f]? = some d → ss[f]? = some s → BindP K Df d s.ps) (TB : ∀ p ∈ tf.map (He.cT K), LamX.TabB base mg p.1 p.2) :
    ∃ FT : Nat → FnD, @TextAt (tbOf K tf) K mg base PL Γ FT ∧ ∀ (f : Nat) (Df : He.DefD) (s : Sl), fn[f]? = some Df → ss[f]? = some s → f < PL.length → (FT f).addr = He.fAd K Df.at_ ∧ (FT f).ps = s.ps ∧ FunD K Df.name Df.qual Df.params Df.body Df.scope (Df.dvs K) (Df.kws K) (He.fAd K Df.at_) (FT f).fd := by
  have each : ∀ f : Nat, ∃ F : FnD, ∀ (Df : He.DefD) (d : FD) (s : Sl), fn[f]? = some Df → PL[f]? = some d → ss[f]? = some s → oneB Γ tf Df d s = true → FnAt K F d ∧ F.N = s.N ∧ F.ps = s.ps ∧ F.body = Df.body ∧ F.scope = Df.scope ∧ F.addr = He.fAd K Df.at_ ∧ PySem.W.keepIn K (.ref F.addr) = true ∧
      FunD K Df.name Df.qual Df.params Df.body Df.scope (Df.dvs K) (Df.kws K) (He.fAd K Df.at_) F.fd ∧ (∃ cc, F.cdv = .ref cc ∧ He.codeOf K Df.at_ = cc) := by
    intro f
    by_cases hf : ∃ Df d s, fn[f]? = some Df ∧ PL[f]? = some d ∧ ss[f]? = some s ∧ oneB Γ tf Df d s = true
    · obtain ⟨Df, d, s, e1, e2, e3, hb⟩ := hf
      obtain ⟨fd, Fd⟩ := c.t.d.def_ f e1
      obtain ⟨oc, od, dV, kV, doc, pm, an, cdv, ct, osl, rfl, lk, hcd, hD, hK⟩ := Fd.ex
      obtain ⟨cc, hcc⟩ := He.codeIn_ref hcd
      refine ⟨⟨He.fAd K Df.at_, Df.name, Df.qual, Df.params, Df.body, Df.scope, dV, kV, doc, pm, cdv, ct, oc, an, od, osl, s.N, s.ps⟩, fun Df' d' s' q1 q2 q3 _ => ?_⟩
      rw [e1] at q1; rw [e2] at q2; rw [e3] at q3
      cases q1; cases q2; cases q3
      obtain ⟨c1, cb⟩ := Bool.and_eq_true_iff.mp hb
      obtain ⟨c2, cb⟩ := Bool.and_eq_true_iff.mp cb
      obtain ⟨c3, cb⟩ := Bool.and_eq_true_iff.mp cb
      exact ⟨⟨lk, hcd, scope_of c1, of_decide_eq_true c2, of_decide_eq_true c3⟩, rfl, rfl, rfl, rfl, rfl, Fd.kp, Fd, cc, hcc, He.codeOf_eq lk hcc⟩
    · exact ⟨⟨0, "", "", ⟨[], [], none, [], [], none, []⟩, [], default, .none, .none, .none, .none, .none, .none, .none, none, none, #[], [], []⟩, fun Df d s e1 e2 e3 hb => absurd ⟨Df, d, s, e1, e2, e3, hb⟩ hf⟩
  obtain ⟨FT, hFT⟩ := Classical.axiomOfChoice each
  have get : ∀ (f : Nat) (d : FD), PL[f]? = some d → ∃ Df s, fn[f]? = some Df ∧ ss[f]? = some s ∧ oneB Γ tf Df d s = true := fun f d e => all_at ba e
  refine ⟨FT, @TextAt.mk (tbOf K tf) _ _ _ _ _ _ (fun f d e => ?_) (fun f d e => ?_) (txt_of X G c bn) (fun x f e => ?_) fun f d e hg => ?_, fun f Df s e1 e3 hl => ?_⟩
  · obtain ⟨Df, s, e1, e3, hb⟩ := get f d e
    exact (hFT f Df d s e1 e e3 hb).1
  · obtain ⟨Df, s, e1, e3, hb⟩ := get f d e
    obtain ⟨_, q1, q2, q3, q4, _⟩ := hFT f Df d s e1 e e3 hb
    rw [q1, q3, q4]
    obtain ⟨c1, cb⟩ := Bool.and_eq_true_iff.mp hb
    obtain ⟨c2, cb⟩ := Bool.and_eq_true_iff.mp cb
    obtain ⟨c3, cb⟩ := Bool.and_eq_true_iff.mp cb
    exact (Bool.and_eq_true_iff.mp cb).1
  · obtain ⟨pp, hpp, epp⟩ := List.any_eq_true.mp e
    obtain ⟨ex1, ex2⟩ := Bool.and_eq_true_iff.mp epp
    have ex1 := of_decide_eq_true ex1
    have ex2 := of_decide_eq_true ex2
    have epp2 : pp = (x, f) := Prod.ext ex1 ex2
    rw [epp2] at hpp
    have m := List.all_eq_true.mp bf _ hpp
    dsimp only at m
    split at m
    · rename_i Df d e1 e2
      obtain ⟨m1, m⟩ := Bool.and_eq_true_iff.mp m
      obtain ⟨m2, m3⟩ := Bool.and_eq_true_iff.mp m
      obtain ⟨m3, m4⟩ := of_decide_eq_true m3
      have m1 := of_decide_eq_true m1
      obtain ⟨Df', s, e1', e3, hb⟩ := get f d e2
      rw [e1] at e1'
      cases e1'
      obtain ⟨_, q1, q2, q3, q4, q5, q6, q7, _⟩ := hFT f Df d s e1 e2 e3 hb
      refine ⟨d, e2, ?_, q6, Prod.ext m3 m4, fun k hk => ?_⟩
      · rw [q5, m1]
        exact He.glo_ok X G (c.t.d.facts (glo_in m2))
      · obtain ⟨dvs, ds, dv, b1, b2, b3, b4⟩ := bind f Df d s e1 e2 e3 _ q7 k hk
        exact ⟨dvs, ds, dv, by rw [q2]; exact b1, b2, b3, b4⟩
    · cases m
  · obtain ⟨Df, s, e1, e3, hb⟩ := get f d e
    obtain ⟨_, q1, q2, q3, q4, q5, q6, q7, cc, q8, q9⟩ := hFT f Df d s e1 e e3 hb
    obtain ⟨c1, cb⟩ := Bool.and_eq_true_iff.mp hb
    obtain ⟨c2, cb⟩ := Bool.and_eq_true_iff.mp cb
    obtain ⟨c3, cb⟩ := Bool.and_eq_true_iff.mp cb
    have c4 := (Bool.and_eq_true_iff.mp cb).2
    rw [q4] at hg
    rw [hg] at c4
    have c4 : (tf.any fun p => decide (p = Df.at_)) = true := c4
    obtain ⟨p, hp, ep⟩ := List.any_eq_true.mp c4
    have ep := of_decide_eq_true ep
    subst ep
    have t := TB (He.cT K Df.at_) (List.mem_map.mpr ⟨_, hp, rfl⟩)
    exact ⟨cc, (He.cT K Df.at_).2, ⟨by rw [← q9]; exact t.code, t.bm, t.gP⟩, q8, Df.at_, hp, rfl⟩
  · obtain ⟨d, e⟩ : ∃ d, PL[f]? = some d := ⟨PL[f], List.getElem?_eq_getElem hl⟩
    obtain ⟨Df', s', e1', e3', hb⟩ := get f d e
    rw [e1] at e1'; rw [e3] at e3'
    cases e1'; cases e3'
    obtain ⟨_, q1, q2, q3, q4, q5, q6, q7, _⟩ := hFT f Df d s e1 e e3 hb
    exact ⟨q5, q2, q7⟩
end
end MiS

namespace MiS
open PySem PySem.Spec PyProof.Rows L2 Mi MiG
theorem ints_rp {K : PySem.W.Frag} {L : Addr → Prop} {H : Hp} : ∀ ns : List Int, RpL K L H (ns.map V.int) (ns.map PyData.int)
  | [] => .nil
  | n :: ns => .cons (.int n) (ints_rp ns)
theorem same_fd {K : PySem.W.Frag} {x q : Str} {pa : Arguments} {bo : List Stmt} {sc : Scope} {dv : List V} {kw : List (Str × V)} {f : Addr} {fd fd2 : FuncData} (F : FunD K x q pa bo sc dv kw f fd) (F2 : FunD K x q pa bo sc dv kw f fd2) : fd = fd2 := by
  obtain ⟨_, _, _, _, _, _, _, _, _, _, _, lk, _⟩ := F.ex
  obtain ⟨_, _, _, _, _, _, _, _, _, _, _, lk2, _⟩ := F2.ex
  rw [lk] at lk2
  cases lk2
  rfl
/-- the law's promise, from its plain law -/
theorem law_gen {l : PySem.W.OpenLaw} {fn : List He.DefD} {PL : List FD} {ss : List Sl} {tf : List He.Defn} {fa : List He.Fa} {Γ : Gb} {wf n iL : Nat} {DL : He.DefD} {dL : FD} {NL : List Str} {x : Str}
    (hfn : fn[iL]? = some DL) (hpr : PL[iL]? = some dL) (hss : ss[iL]? = some ⟨NL, [x]⟩) (hlen : iL < PL.length) (hglo : gloIn fa (Str.ofString "law") = true) (hat : ∀ K, He.fAd K DL.at_ = He.ga K (Str.ofString "law")) (hdv : ∀ K, DL.dvs K = []) (hnp : 1 = dL.npar)
    (hb : ∀ (kV doc pm : Value) (an : Option Addr) (cdv ct : Value) (us : List Value), us.length = ([x] : List Str).length → bindArgs (PySem.W.fnOf DL.name DL.qual DL.params DL.body DL.scope .none kV doc pm an cdv ct) ⟨us, []⟩ = pure (([x] : List Str).zip us))
    (bn : namesB Γ fa = true) (ba : allB Γ tf fn PL ss = true) (bf : fnsB Γ fa fn PL = true) (binds : ∀ (K : PySem.W.Frag) (f : Nat) (Df : He.DefD) (d : FD) (s : Sl), fn[f]? = some Df → PL[f]? = some d → ss[f]? = some s → BindP K Df d s.ps)
    (plain : ∀ ns : List Int, ∃ st, callN PL wf n iL [.val (.list (ns.map .int))] [] = .ok (.val (.bool true)) st)
    {w : World} {mg : Str → Option Value} {f0 : Addr} {h : Heap} {K : PySem.W.Frag} (X : K.In h) (G : h.Ns mainGlobals mg) (hfa : mg (Str.ofString "law") = some (.ref f0)) (c : He.SaysX fa fn [] tf (exB Γ) w h K) :
    LamX.LawAtS l w K CX0 (2 * n) 63 x mg f0 h := by
  obtain ⟨fd, F⟩ := c.t.d.def_ iL (d := DL) hfn
  have e := hfa.symm.trans (He.glo_ok X G (c.t.d.facts (f := .glo (Str.ofString "law")) (glo_in hglo)))
  have e0 : f0 = He.fAd K DL.at_ := by
    rw [hat]
    injection e with e
    injection e
  subst e0
  have b := FunD.bindsA (ps := [x]) (by rw [hdv] at F; exact F) hb
  refine ⟨fd, tf.map (He.cT K), @spF (tbOf K tf) PL wf K n iL, fun p hp => ?_, fun p hp => ?_, fun p hp => ?_, fun s u => b s [u] rfl, fun H a ns _ _ hT hS => ?_, fun base KB GB TB => ?_⟩
  · obtain ⟨p', hp', e'⟩ := List.mem_map.mp hp
    rw [← e']
    exact c.empty p' hp'
  · obtain ⟨p', hp', e'⟩ := List.mem_map.mp hp
    rw [← e']
    exact c.out p' hp'
  · obtain ⟨p', hp', e'⟩ := List.mem_map.mp hp
    rw [← e']
    exact PySem.W.codeHd_of_K X (c.hd p' hp')
  · letI : Tb := tbOf K tf
    refine ⟨[], [], [.val (.list (ns.map .int))], dL, hpr, hnp, ⟨rfl, fun i j a h => by simp at h, fun n o a h => by simp at h, fun P hP => ?_⟩, .cons (.lst (fun ⟨n, o, h, _⟩ => by simp at h) (ex_lst c.more hS) (ints_rp ns)) .nil, ?_⟩
    · have hP' : ∃ p ∈ tf, P = (He.cT K p).2 := hP
      obtain ⟨p, hp, eP⟩ := hP'
      rw [eP]
      exact ⟨#[], hT _ (List.mem_map.mpr ⟨p, hp, rfl⟩), by trivial⟩
    · obtain ⟨st, e⟩ := plain ns
      rw [e]
      intro M' H' p sr s v rv
      have rv : Rp K _ H' v (.bool true) := rv
      cases rv
      rfl
  · obtain ⟨FT, T, hFT⟩ := text_of (base := base) X G c bn ba bf (fun f Df d s e1 e2 e3 => binds K f Df d s e1 e2 e3) TB
    obtain ⟨q1, q2, q3⟩ := hFT iL DL _ hfn hss hlen
    have ok := @all_ok (tbOf K tf) K mg base PL wf Γ FT l.prog w T n iL dL hpr
    rw [q1, q2, ← same_fd F q3] at ok
    exact ok
end MiS

namespace MiK
open PySem L2 Mi MiS
abbrev f_is_number : Nat := 0
abbrev f_are_steps : Nat := 1
abbrev f_need_question : Nat := 2
abbrev f_names_of : Nat := 3
abbrev f_is_path : Nat := 4
abbrev f_led : Nat := 5
abbrev f_answered : Nat := 6
abbrev f_ways_of : Nat := 7
abbrev f_lots_by : Nat := 8
abbrev f_least_of : Nat := 9
abbrev f_lots_below : Nat := 10
abbrev f_below_lots : Nat := 11
abbrev f_parting_path : Nat := 12
abbrev f_wrong_tag : Nat := 13
abbrev f_need_row : Nat := 14
abbrev f_open_path : Nat := 15
abbrev f_left_open : Nat := 16
abbrev f_due_in : Nat := 17
abbrev f_answers_due : Nat := 18
abbrev f_marks_in : Nat := 19
abbrev f_need_forest : Nat := 20
abbrev f_forest_of : Nat := 21
abbrev f_told_forest : Nat := 22
abbrev f_told_from : Nat := 23
abbrev f_need_manner : Nat := 24
abbrev f_width : Nat := 25
abbrev f_is_opening : Nat := 26
abbrev f_need_reader : Nat := 27
abbrev f_need_all : Nat := 28
abbrev f_closed : Nat := 29
abbrev f_shorten : Nat := 30
abbrev f_whole_marks : Nat := 31
abbrev f_whole_row : Nat := 32
abbrev f_places : Nat := 33
abbrev f_place_row : Nat := 34
abbrev f_fault_of : Nat := 35
abbrev f_fault : Nat := 36
abbrev f_is_right : Nat := 37
abbrev f_next_pairs : Nat := 38
abbrev f_words_to_meet : Nat := 39
abbrev f_pairs_meeting : Nat := 40
abbrev f_need_two : Nat := 41
abbrev f_meetings : Nat := 42
abbrev f_bad_pair : Nat := 43
abbrev f_can_read : Nat := 44
abbrev f_is_paper : Nat := 45
abbrev f_shows_paper : Nat := 46
abbrev f_count_below : Nat := 47
abbrev f_fewest_states : Nat := 48
abbrev f_made_reader : Nat := 49
abbrev f_reader_for : Nat := 50
abbrev f_joined_answer : Nat := 51
abbrev f_both : Nat := 52
abbrev f_inside : Nat := 53
abbrev f_all_rows : Nat := 54
abbrev f_count_readable : Nat := 55
abbrev f_write_row : Nat := 56
abbrev f_need_names : Nat := 57
abbrev f_read_row : Nat := 58
abbrev f_words_of : Nat := 59
abbrev f_write_question : Nat := 60
abbrev f_trap_of : Nat := 61
abbrev f_trap : Nat := 62
abbrev f_is_trap : Nat := 63
abbrev f_shows_trap : Nat := 64
abbrev f_trap_rows : Nat := 65
abbrev f__law_ring : Nat := 66
abbrev f_law : Nat := 67
abbrev f_lots_below_t : Nat := 68
def d_is_number : FD := ⟨3, 3, (.cons (.ret (.cons (.and_ (.isi (.var 0) [.int]) (.and_ (.not_ (.isi (.var 0) [.bool])) (.chain .le .le (.var 1) (.var 0) (.var 2)))) .nil)) .nil), []⟩
def d_are_steps : FD := ⟨3, 1, (.cons (.if_ (.or_ (.not_ (.tr (.isi (.var 0) [.tuple]))) (.not_ (.trb (.chain .le .le (.lit (.int 1)) (.bi .len (.cons (.var 0) .nil)) (.lit (.int 6)))))) (.cons (.ret (.cons (.lit (.bool false)) .nil)) .nil) .nil) (.cons (.if_ (.or_ (.not_ (.tr (.gen true 1 (.var 0) (.isi (.var 1) [.tuple])))) (.not_ (.trb (.chain .le .le (.lit (.int 1)) (.bi .len (.cons (.idx (.var 0) (.lit (.int 0))) .nil)) (.lit (.int 3)))))) (.cons (.ret (.cons (.lit (.bool false)) .nil)) .nil) .nil) (.cons (.if_ (.not_ (.tr (.gen true 1 (.var 0) (.cmp .eq (.bi .len (.cons (.var 1) .nil)) (.bi .len (.cons (.idx (.var 0) (.lit (.int 0))) .nil)))))) (.cons (.ret (.cons (.lit (.bool false)) .nil)) .nil) .nil) (.cons (.ret (.cons (.gen2 true 1 (.var 0) 2 (.var 1) (.call f_is_number (.cons (.var 2) (.cons (.lit (.int 0)) (.cons (.op .sub (.bi .len (.cons (.var 0) .nil)) (.lit (.int 1))) .nil))))) .nil)) .nil)))), []⟩
def d_need_question : FD := ⟨4, 1, (.cons (.if_ (.or_ (.not_ (.tr (.isi (.var 0) [.tuple]))) (.trb (.cmp .ne (.bi .len (.cons (.var 0) .nil)) (.lit (.int 2))))) (.cons .nil .nil) .nil) (.cons (.asg (.ttup (.cons (.tname 1) (.cons (.tname 2) .nil))) (.var 0)) (.cons (.if_ (.not_ (.tr (.call f_are_steps (.cons (.var 1) .nil)))) (.cons .nil .nil) .nil) (.cons (.if_ (.or_ (.not_ (.tr (.isi (.var 2) [.tuple]))) (.or_ (.trb (.cmp .ne (.bi .len (.cons (.var 2) .nil)) (.bi .len (.cons (.var 1) .nil)))) (.not_ (.tr (.gen true 3 (.var 2) (.call f_is_number (.cons (.var 3) (.cons (.lit (.int 0)) (.cons (.lit (.int 1)) .nil))))))))) (.cons .nil .nil) .nil) .nil)))), []⟩
def d_names_of : FD := ⟨1, 1, (.cons (.ret (.cons (.bi .len (.cons (.idx (.idx (.var 0) (.lit (.int 0))) (.lit (.int 0))) .nil)) .nil)) .nil), []⟩
def d_is_path : FD := ⟨3, 2, (.cons (.if_ (.or_ (.not_ (.tr (.isi (.var 1) [.tuple]))) (.trb (.cmp .gt (.bi .len (.cons (.var 1) .nil)) (.lit (.int 2000))))) (.cons (.ret (.cons (.lit (.bool false)) .nil)) .nil) .nil) (.cons (.ret (.cons (.gen true 2 (.var 1) (.call f_is_number (.cons (.var 2) (.cons (.lit (.int 0)) (.cons (.op .sub (.var 0) (.lit (.int 1))) .nil))))) .nil)) .nil)), []⟩
def d_led : FD := ⟨4, 3, (.cons (.for_ (.tname 3) .plain (.cons (.var 2) .nil) (.cons (.asg (.tname 1) (.idx (.idx (.idx (.var 0) (.lit (.int 0))) (.var 1)) (.var 3))) .nil)) (.cons (.ret (.cons (.var 1) .nil)) .nil)), []⟩
def d_answered : FD := ⟨2, 2, (.cons (.ret (.cons (.idx (.idx (.var 0) (.lit (.int 1))) (.call f_led (.cons (.var 0) (.cons (.lit (.int 0)) (.cons (.var 1) .nil))))) .nil)) .nil), []⟩
def d_ways_of : FD := ⟨7, 1, (.cons (.par (.cons (.tname 1) (.cons (.tname 2) .nil)) (.cons (.dic (.cons (.lit (.int 0)) (.cons (.tup .nil) .nil))) (.cons (.lst (.cons (.lit (.int 0)) .nil)) .nil))) (.cons (.whl (.tr (.var 2)) (.cons (.asg (.tname 3) (.new (.lst .nil))) (.cons (.for_ (.tname 4) .plain (.cons (.var 2) .nil) (.cons (.for_ (.ttup (.cons (.tname 5) (.cons (.tname 6) .nil))) .enum (.cons (.idx (.idx (.var 0) (.lit (.int 0))) (.var 4)) .nil) (.cons (.if_ (.trb (.cmp .nin (.var 6) (.var 1))) (.cons (.asg (.tsub (.var 1) (.var 6)) (.op .add (.idx (.var 1) (.var 4)) (.tup (.cons (.var 5) .nil)))) (.cons (.xpr (.mth .append (.var 3) (.cons (.var 6) .nil))) .nil)) .nil) .nil)) .nil)) (.cons (.asg (.tname 2) (.mv 3)) .nil)))) (.cons (.ret (.cons (.var 1) .nil)) .nil))), []⟩
def d_lots_by : FD := ⟨11, 1, (.cons (.asg (.ttup (.cons (.tname 1) (.cons (.tname 2) .nil))) (.var 0)) (.cons (.par (.cons (.tname 3) (.cons (.tname 4) .nil)) (.cons (.bi .list (.cons (.var 2) .nil)) (.cons (.lit (.int 0)) .nil))) (.cons (.whl (.trb (.cmp .gt (.bi .lenset (.cons (.var 3) .nil)) (.var 4))) (.cons (.asg (.tname 4) (.bi .lenset (.cons (.var 3) .nil))) (.cons (.asg (.tname 5) (.comp .plain (.ttup (.cons (.tname 7) (.cons (.tname 8) .nil))) .enum (.cons (.var 1) .nil) .nil (.tup (.cons (.idx (.var 3) (.var 7)) (.cons (.bi .tuple (.cons (.comp .plain (.tname 6) .plain (.cons (.var 8) .nil) .nil (.idx (.var 3) (.var 6)) [6]) .nil)) .nil))) [7, 8])) (.cons (.asg (.tname 9) (.bi .sortset (.cons (.var 5) .nil))) (.cons (.asg (.tname 3) (.comp .plain (.tname 10) .plain (.cons (.var 5) .nil) .nil (.mth .index (.var 9) (.cons (.var 10) .nil)) [10])) .nil))))) (.cons (.ret (.cons (.var 3) .nil)) .nil)))), []⟩
def d_least_of : FD := ⟨11, 1, (.cons (.asg (.ttup (.cons (.tname 1) (.cons (.tname 2) .nil))) (.var 0)) (.cons (.asg (.tname 3) (.call f_lots_by (.cons (.var 0) .nil))) (.cons (.par (.cons (.tname 4) (.cons (.tname 5) .nil)) (.cons (.new (.lst (.cons (.lit (.int 0)) .nil))) (.cons (.dic (.cons (.idx (.var 3) (.lit (.int 0))) (.cons (.lit (.int 0)) .nil))) .nil))) (.cons (.par (.cons (.tname 6) (.cons (.tname 7) .nil)) (.cons (.new (.lst .nil)) (.cons (.lit (.int 0)) .nil))) (.cons (.whl (.trb (.cmp .lt (.var 7) (.bi .len (.cons (.var 4) .nil)))) (.cons (.asg (.tname 8) (.new (.lst .nil))) (.cons (.for_ (.tname 9) .plain (.cons (.idx (.var 1) (.idx (.var 4) (.var 7))) .nil) (.cons (.if_ (.trb (.cmp .nin (.idx (.var 3) (.var 9)) (.var 5))) (.cons (.asg (.tsub (.var 5) (.idx (.var 3) (.var 9))) (.bi .len (.cons (.var 4) .nil))) (.cons (.xpr (.mth .append (.var 4) (.cons (.var 9) .nil))) .nil)) .nil) (.cons (.xpr (.mth .append (.var 8) (.cons (.idx (.var 5) (.idx (.var 3) (.var 9))) .nil))) .nil))) (.cons (.xpr (.mth .append (.var 6) (.cons (.bi .tuple (.cons (.var 8) .nil)) .nil))) (.cons (.aug 7 .add (.lit (.int 1))) .nil))))) (.cons (.ret (.cons (.tup (.cons (.bi .tuple (.cons (.var 6) .nil)) (.cons (.bi .tuple (.cons (.comp .plain (.tname 10) .plain (.cons (.var 4) .nil) .nil (.idx (.var 2) (.var 10)) [10]) .nil)) .nil))) .nil)) .nil)))))), []⟩
def d_lots_below : FD := ⟨3, 1, (.cons (.asg (.tname 1) (.dic .nil)) (.cons (.ret (.cons (.bi .tuple (.cons (.comp .plain (.tname 2) .plain (.cons (.idx (.var 0) (.lit (.int 0))) .nil) .nil (.mth .setdefault (.var 1) (.cons (.var 2) (.cons (.bi .len (.cons (.var 1) .nil)) .nil))) [2]) .nil)) .nil)) .nil)), []⟩
def d_below_lots : FD := ⟨1, 1, (.cons (.xpr (.call f_need_question (.cons (.var 0) .nil))) (.cons (.ret (.cons (.call f_lots_below (.cons (.call f_least_of (.cons (.var 0) .nil)) .nil)) .nil)) .nil)), []⟩
def d_parting_path : FD := ⟨9, 3, (.cons (.par (.cons (.tname 3) (.cons (.tname 4) .nil)) (.cons (.dic (.cons (.tup (.cons (.var 1) (.cons (.var 2) .nil))) (.cons (.tup .nil) .nil))) (.cons (.lst (.cons (.tup (.cons (.var 1) (.cons (.var 2) .nil))) .nil)) .nil))) (.cons (.whl (.tr (.var 4)) (.cons (.asg (.tname 5) (.new (.lst .nil))) (.cons (.for_ (.tname 6) .plain (.cons (.var 4) .nil) (.cons (.for_ (.tname 7) .range (.cons (.call f_names_of (.cons (.var 0) .nil)) .nil) (.cons (.asg (.tname 8) (.tup (.cons (.idx (.idx (.idx (.var 0) (.lit (.int 0))) (.idx (.var 6) (.lit (.int 0)))) (.var 7)) (.cons (.idx (.idx (.idx (.var 0) (.lit (.int 0))) (.idx (.var 6) (.lit (.int 1)))) (.var 7)) .nil)))) (.cons (.if_ (.trb (.cmp .ne (.idx (.idx (.var 0) (.lit (.int 1))) (.idx (.var 8) (.lit (.int 0)))) (.idx (.idx (.var 0) (.lit (.int 1))) (.idx (.var 8) (.lit (.int 1)))))) (.cons (.ret (.cons (.op .add (.idx (.var 3) (.var 6)) (.tup (.cons (.var 7) .nil))) .nil)) .nil) .nil) (.cons (.if_ (.trb (.cmp .nin (.var 8) (.var 3))) (.cons (.asg (.tsub (.var 3) (.var 8)) (.op .add (.idx (.var 3) (.var 6)) (.tup (.cons (.var 7) .nil)))) (.cons (.xpr (.mth .append (.var 5) (.cons (.var 8) .nil))) .nil)) .nil) .nil)))) .nil)) (.cons (.asg (.tname 4) (.mv 5)) .nil)))) (.cons (.ret (.cons (.lit .none) .nil)) .nil))), []⟩
def d_wrong_tag : FD := ⟨5, 2, (.cons (.if_ (.or_ (.not_ (.tr (.isi (.var 1) [.tuple]))) (.trb (.cmp .gt (.bi .len (.cons (.var 1) .nil)) (.lit (.int 2000))))) (.cons (.ret (.cons (.tup (.cons (.lit (.bool true)) (.cons (.lit .none) .nil))) .nil)) .nil) .nil) (.cons (.asg (.tname 2) (.lit (.int 0))) (.cons (.for_ (.ttup (.cons (.tname 3) (.cons (.tname 4) .nil))) .enum (.cons (.var 1) .nil) (.cons (.if_ (.or_ (.not_ (.tr (.call f_is_number (.cons (.var 4) (.cons (.lit (.int (-1))) (.cons (.op .sub (.var 0) (.lit (.int 1))) .nil)))))) (.and_ (.trb (.cmp .eq (.var 4) (.lit (.int (-1))))) (.trb (.cmp .eq (.var 2) (.lit (.int 0)))))) (.cons (.ret (.cons (.tup (.cons (.lit (.bool true)) (.cons (.var 3) .nil))) .nil)) .nil) .nil) (.cons (.aug 2 .add (.ite (.trb (.cmp .ne (.var 4) (.lit (.int (-1))))) (.lit (.int 1)) (.neg (.lit (.int 1))))) .nil))) (.cons (.ret (.cons (.tup (.cons (.lit (.bool false)) (.cons (.lit .none) .nil))) .nil)) .nil)))), []⟩
def d_need_row : FD := ⟨4, 2, (.cons (.asg (.ttup (.cons (.tname 2) (.cons (.tname 3) .nil))) (.call f_wrong_tag (.cons (.var 0) (.cons (.var 1) .nil)))) (.cons (.if_ (.tr (.var 2)) (.cons .nil .nil) .nil) .nil)), []⟩
def d_open_path : FD := ⟨3, 1, (.cons (.asg (.tname 1) (.new (.lst .nil))) (.cons (.for_ (.tname 2) .plain (.cons (.var 0) .nil) (.cons (.if_ (.trb (.cmp .eq (.var 2) (.lit (.int (-1))))) (.cons (.xpr (.mth .pop (.var 1) .nil)) .nil) (.cons (.xpr (.mth .append (.var 1) (.cons (.var 2) .nil))) .nil)) .nil)) (.cons (.ret (.cons (.bi .tuple (.cons (.var 1) .nil)) .nil)) .nil))), []⟩
def d_left_open : FD := ⟨2, 2, (.cons (.xpr (.call f_need_question (.cons (.var 0) .nil))) (.cons (.xpr (.call f_need_row (.cons (.call f_names_of (.cons (.var 0) .nil)) (.cons (.var 1) .nil)))) (.cons (.ret (.cons (.call f_open_path (.cons (.var 1) .nil)) .nil)) .nil))), []⟩
def d_due_in : FD := ⟨5, 2, (.cons (.par (.cons (.tname 2) (.cons (.tname 3) .nil)) (.cons (.new (.lst (.cons (.lit (.int 0)) .nil))) (.cons (.new (.lst .nil)) .nil))) (.cons (.for_ (.tname 4) .plain (.cons (.var 1) .nil) (.cons (.if_ (.trb (.cmp .eq (.var 4) (.lit (.int (-1))))) (.cons (.xpr (.mth .pop (.var 2) .nil)) .nil) (.cons (.xpr (.mth .append (.var 2) (.cons (.idx (.idx (.idx (.var 0) (.lit (.int 0))) (.idx (.var 2) (.neg (.lit (.int 1))))) (.var 4)) .nil))) (.cons (.xpr (.mth .append (.var 3) (.cons (.idx (.idx (.var 0) (.lit (.int 1))) (.idx (.var 2) (.neg (.lit (.int 1))))) .nil))) .nil))) .nil)) (.cons (.ret (.cons (.bi .tuple (.cons (.var 3) .nil)) .nil)) .nil))), []⟩
def d_answers_due : FD := ⟨2, 2, (.cons (.xpr (.call f_need_question (.cons (.var 0) .nil))) (.cons (.xpr (.call f_need_row (.cons (.call f_names_of (.cons (.var 0) .nil)) (.cons (.var 1) .nil)))) (.cons (.ret (.cons (.call f_due_in (.cons (.var 0) (.cons (.var 1) .nil))) .nil)) .nil))), []⟩
def d_marks_in : FD := ⟨7, 4, (.cons (.if_ (.or_ (.not_ (.tr (.isi (.var 1) [.tuple]))) (.and_ (.tr (.var 1)) (.trb (.cmp .eq (.var 2) (.lit (.int 0)))))) (.cons (.ret (.cons (.lit .none) .nil)) .nil) .nil) (.cons (.asg (.tname 4) (.lit (.int 0))) (.cons (.for_ (.tname 5) .plain (.cons (.var 1) .nil) (.cons (.if_ (.or_ (.not_ (.tr (.isi (.var 5) [.tuple]))) (.or_ (.trb (.cmp .ne (.bi .len (.cons (.var 5) .nil)) (.lit (.int 2)))) (.not_ (.tr (.call f_is_number (.cons (.idx (.var 5) (.lit (.int 0))) (.cons (.lit (.int 0)) (.cons (.op .sub (.var 0) (.lit (.int 1))) .nil)))))))) (.cons (.ret (.cons (.lit .none) .nil)) .nil) .nil) (.cons (.asg (.tname 6) (.call f_marks_in (.cons (.var 0) (.cons (.idx (.var 5) (.lit (.int 1))) (.cons (.op .sub (.var 2) (.lit (.int 1))) (.cons (.op .sub (.op .sub (.var 3) (.var 4)) (.lit (.int 1))) .nil)))))) (.cons (.if_ (.or_ (.trb (.isn (.var 6))) (.trb (.cmp .gt (.op .add (.op .add (.var 4) (.var 6)) (.lit (.int 1))) (.var 3)))) (.cons (.ret (.cons (.lit .none) .nil)) .nil) .nil) (.cons (.aug 4 .add (.op .add (.var 6) (.lit (.int 1)))) .nil))))) (.cons (.ret (.cons (.var 4) .nil)) .nil)))), []⟩
def d_need_forest : FD := ⟨2, 2, (.cons (.if_ (.trb (.isn (.call f_marks_in (.cons (.var 0) (.cons (.var 1) (.cons (.lit (.int 40)) (.cons (.op .fdiv (.lit (.int 2000)) (.lit (.int 2))) .nil))))))) (.cons .nil .nil) .nil) .nil), []⟩
def d_forest_of : FD := ⟨6, 1, (.cons (.xpr (.call f_need_row (.cons (.lit (.int 3)) (.cons (.var 0) .nil)))) (.cons (.par (.cons (.tname 1) (.cons (.tname 2) .nil)) (.cons (.new (.lst (.cons (.tup .nil) .nil))) (.cons (.new (.lst .nil)) .nil))) (.cons (.for_ (.ttup (.cons (.tname 3) (.cons (.tname 4) .nil))) .enum (.cons (.var 0) .nil) (.cons (.if_ (.trb (.cmp .ne (.var 4) (.lit (.int (-1))))) (.cons (.xpr (.mth .append (.var 2) (.cons (.var 4) .nil))) (.cons (.xpr (.mth .append (.var 1) (.cons (.tup .nil) .nil))) (.cons (.if_ (.trb (.cmp .gt (.bi .len (.cons (.var 2) .nil)) (.lit (.int 40)))) (.cons .nil .nil) .nil) .nil))) (.cons (.asg (.tname 5) (.mth .pop (.var 1) .nil)) (.cons (.augs (.var 1) (.neg (.lit (.int 1))) .add (.tup (.cons (.tup (.cons (.mth .pop (.var 2) .nil) (.cons (.var 5) .nil))) .nil))) .nil))) .nil)) (.cons (.if_ (.tr (.var 2)) (.cons .nil .nil) .nil) (.cons (.ret (.cons (.idx (.var 1) (.lit (.int 0))) .nil)) .nil))))), []⟩
def d_told_forest : FD := ⟨2, 2, (.cons (.xpr (.call f_need_question (.cons (.var 0) .nil))) (.cons (.xpr (.call f_need_forest (.cons (.call f_names_of (.cons (.var 0) .nil)) (.cons (.var 1) .nil)))) (.cons (.ret (.cons (.call f_told_from (.cons (.var 0) (.cons (.var 1) (.cons (.tup .nil) .nil)))) .nil)) .nil))), []⟩
def d_told_from : FD := ⟨7, 3, (.cons (.asg (.tname 3) (.new (.lst .nil))) (.cons (.for_ (.ttup (.cons (.tname 4) (.cons (.tname 5) .nil))) .plain (.cons (.var 1) .nil) (.cons (.asg (.tname 6) (.op .add (.var 2) (.tup (.cons (.var 4) .nil)))) (.cons (.xpr (.mth .append (.var 3) (.cons (.tup (.cons (.var 4) (.cons (.call f_answered (.cons (.var 0) (.cons (.var 6) .nil))) (.cons (.call f_told_from (.cons (.var 0) (.cons (.var 5) (.cons (.var 6) .nil)))) .nil)))) .nil))) .nil))) (.cons (.ret (.cons (.bi .tuple (.cons (.var 3) .nil)) .nil)) .nil))), []⟩
def d_need_manner : FD := ⟨1, 1, (.cons (.if_ (.or_ (.not_ (.tr (.isi (.var 0) [.str]))) (.trb (.inl true (.var 0) [(.str (PySem.Str.ofString "blind")), (.str (PySem.Str.ofString "named"))]))) (.cons .nil .nil) .nil) .nil), []⟩
def d_width : FD := ⟨2, 2, (.cons (.ret (.cons (.ite (.trb (.cmp .eq (.var 1) (.lit (.str (PySem.Str.ofString "named"))))) (.var 0) (.lit (.int 1))) .nil)) .nil), []⟩
def d_is_opening : FD := ⟨2, 2, (.cons (.if_ (.or_ (.not_ (.tr (.isi (.var 1) [.tuple]))) (.trb (.cmp .ne (.bi .len (.cons (.var 1) .nil)) (.lit (.int 2))))) (.cons (.ret (.cons (.lit (.bool false)) .nil)) .nil) .nil) (.cons (.ret (.cons (.and_ (.call f_is_number (.cons (.idx (.var 1) (.lit (.int 0))) (.cons (.lit (.int 0)) (.cons (.op .sub (.var 0) (.lit (.int 1))) .nil)))) (.call f_is_number (.cons (.idx (.var 1) (.lit (.int 1))) (.cons (.lit (.int 0)) (.cons (.lit (.int 1)) .nil))))) .nil)) .nil)), []⟩
def d_need_reader : FD := ⟨9, 4, (.cons (.if_ (.or_ (.not_ (.tr (.isi (.var 2) [.tuple]))) (.trb (.cmp .ne (.bi .len (.cons (.var 2) .nil)) (.lit (.int 2))))) (.cons .nil .nil) .nil) (.cons (.asg (.ttup (.cons (.tname 4) (.cons (.tname 5) .nil))) (.var 2)) (.cons (.if_ (.or_ (.not_ (.tr (.isi (.var 4) [.tuple]))) (.not_ (.trb (.chain .le .le (.lit (.int 1)) (.bi .len (.cons (.var 4) .nil)) (.var 3))))) (.cons .nil .nil) .nil) (.cons (.if_ (.not_ (.tr (.gen true 6 (.var 4) (.and_ (.isi (.var 6) [.tuple]) (.cmp .eq (.bi .len (.cons (.var 6) .nil)) (.var 0)))))) (.cons .nil .nil) .nil) (.cons (.if_ (.not_ (.tr (.gen2 true 6 (.var 4) 7 (.var 6) (.call f_is_opening (.cons (.bi .len (.cons (.var 4) .nil)) (.cons (.var 7) .nil)))))) (.cons .nil .nil) .nil) (.cons (.if_ (.or_ (.not_ (.tr (.isi (.var 5) [.tuple]))) (.trb (.cmp .ne (.bi .len (.cons (.var 5) .nil)) (.bi .len (.cons (.var 4) .nil))))) (.cons .nil .nil) .nil) (.cons (.if_ (.not_ (.tr (.gen true 6 (.var 5) (.and_ (.isi (.var 6) [.tuple]) (.cmp .eq (.bi .len (.cons (.var 6) .nil)) (.call f_width (.cons (.var 0) (.cons (.var 1) .nil)))))))) (.cons .nil .nil) .nil) (.cons (.if_ (.not_ (.tr (.gen2 true 6 (.var 5) 8 (.var 6) (.call f_is_number (.cons (.var 8) (.cons (.lit (.int 0)) (.cons (.op .sub (.bi .len (.cons (.var 4) .nil)) (.lit (.int 1))) .nil))))))) (.cons .nil .nil) .nil) .nil)))))))), [(.int 6)]⟩
def d_need_all : FD := ⟨3, 3, (.cons (.xpr (.call f_need_question (.cons (.var 0) .nil))) (.cons (.xpr (.call f_need_manner (.cons (.var 1) .nil))) (.cons (.xpr (.call f_need_reader (.cons (.call f_names_of (.cons (.var 0) .nil)) (.cons (.var 1) (.cons (.var 2) .nil))))) .nil))), []⟩
def d_closed : FD := ⟨4, 3, (.cons (.asg (.tname 3) (.idx (.idx (.var 0) (.lit (.int 1))) (.var 1))) (.cons (.ret (.cons (.ite (.trb (.cmp .gt (.bi .len (.cons (.var 3) .nil)) (.lit (.int 1)))) (.idx (.var 3) (.var 2)) (.idx (.var 3) (.lit (.int 0)))) .nil)) .nil)), []⟩
def d_shorten : FD := ⟨4, 4, (.cons (.if_ (.and_ (.trb (.cmp .in_ (.var 1) (.var 0))) (.trb (.cmp .le (.idx (.idx (.var 0) (.var 1)) (.lit (.int 0))) (.var 2)))) (.cons (.ret (.cons (.lit (.bool false)) .nil)) .nil) .nil) (.cons (.asg (.tsub (.var 0) (.var 1)) (.tup (.cons (.var 2) (.cons (.var 3) .nil)))) (.cons (.ret (.cons (.lit (.bool true)) .nil)) .nil))), []⟩
def d_whole_marks : FD := ⟨16, 2, (.cons (.asg (.tname 2) (.bi .len (.cons (.idx (.var 0) (.lit (.int 0))) .nil))) (.cons (.par (.cons (.tname 3) (.cons (.tname 4) .nil)) (.cons (.dcomp (.tname 5) .range (.cons (.var 2) .nil) (.tup (.cons (.var 5) (.cons (.var 5) .nil))) (.tup (.cons (.lit (.int 0)) (.cons (.lit .none) .nil))) [5]) (.cons (.lit (.bool true)) .nil))) (.cons (.whl (.tr (.var 4)) (.cons (.asg (.tname 4) (.lit (.bool false))) (.cons (.for_ (.ttup (.cons (.ttup (.cons (.tname 6) (.cons (.tname 7) .nil))) (.cons (.ttup (.cons (.tname 8) (.cons (.tname 9) .nil))) .nil))) .litems (.cons (.var 3) .nil) (.cons (.for_ (.tname 10) .range (.cons (.var 2) .nil) (.cons (.for_ (.tname 11) .range (.cons (.var 1) .nil) (.cons (.if_ (.trb (.cmp .eq (.idx (.idx (.idx (.idx (.var 0) (.lit (.int 0))) (.var 10)) (.var 11)) (.lit (.int 0))) (.var 6))) (.cons (.asg (.tname 12) (.tup (.cons (.var 10) (.cons (.call f_closed (.cons (.var 0) (.cons (.var 7) (.cons (.var 11) .nil)))) .nil)))) (.cons (.asg (.tname 4) (.or_ (.call f_shorten (.cons (.var 3) (.cons (.var 12) (.cons (.op .add (.var 8) (.lit (.int 2))) (.cons (.tup (.cons (.var 11) (.cons (.tup (.cons (.var 6) (.cons (.var 7) .nil))) .nil))) .nil))))) (.var 4))) .nil)) .nil) .nil)) .nil)) .nil)) (.cons (.for_ (.ttup (.cons (.ttup (.cons (.tname 6) (.cons (.tname 13) .nil))) (.cons (.ttup (.cons (.tname 8) (.cons (.tname 9) .nil))) .nil))) .litems (.cons (.var 3) .nil) (.cons (.for_ (.ttup (.cons (.ttup (.cons (.tname 14) (.cons (.tname 7) .nil))) (.cons (.ttup (.cons (.tname 15) (.cons (.tname 9) .nil))) .nil))) .litems (.cons (.var 3) .nil) (.cons (.if_ (.trb (.cmp .eq (.var 14) (.var 13))) (.cons (.asg (.tname 4) (.or_ (.call f_shorten (.cons (.var 3) (.cons (.tup (.cons (.var 6) (.cons (.var 7) .nil))) (.cons (.op .add (.var 8) (.var 15)) (.cons (.tup (.cons (.lit .none) (.cons (.var 13) .nil))) .nil))))) (.var 4))) .nil) .nil) .nil)) .nil)) .nil)))) (.cons (.ret (.cons (.var 3) .nil)) .nil)))), []⟩
def d_whole_row : FD := ⟨3, 2, (.cons (.asg (.tname 2) (.idx (.idx (.var 0) (.var 1)) (.lit (.int 1)))) (.cons (.if_ (.trb (.isn (.var 2))) (.cons (.ret (.cons (.tup .nil) .nil)) .nil) .nil) (.cons (.if_ (.trb (.isn (.idx (.var 2) (.lit (.int 0))))) (.cons (.ret (.cons (.op .add (.call f_whole_row (.cons (.var 0) (.cons (.tup (.cons (.idx (.var 1) (.lit (.int 0))) (.cons (.idx (.var 2) (.lit (.int 1))) .nil))) .nil))) (.call f_whole_row (.cons (.var 0) (.cons (.tup (.cons (.idx (.var 2) (.lit (.int 1))) (.cons (.idx (.var 1) (.lit (.int 1))) .nil))) .nil)))) .nil)) .nil) .nil) (.cons (.ret (.cons (.op .add (.op .add (.tup (.cons (.idx (.var 2) (.lit (.int 0))) .nil)) (.call f_whole_row (.cons (.var 0) (.cons (.idx (.var 2) (.lit (.int 1))) .nil)))) (.tup (.cons (.lit (.int (-1))) .nil))) .nil)) .nil)))), []⟩
def d_places : FD := ⟨15, 3, (.cons (.par (.cons (.tname 3) (.cons (.tname 4) .nil)) (.cons (.dic (.cons (.tup (.cons (.lit (.int 0)) (.cons (.lit (.int 0)) .nil))) (.cons (.tup (.cons (.lit (.int 0)) (.cons (.lit .none) .nil))) .nil))) (.cons (.lit (.bool true)) .nil))) (.cons (.whl (.tr (.var 4)) (.cons (.asg (.tname 4) (.lit (.bool false))) (.cons (.for_ (.ttup (.cons (.ttup (.cons (.tname 5) (.cons (.tname 6) .nil))) (.cons (.ttup (.cons (.tname 7) (.cons (.tname 8) .nil))) .nil))) .litems (.cons (.var 3) .nil) (.cons (.for_ (.ttup (.cons (.ttup (.cons (.tname 9) (.cons (.tname 10) .nil))) (.cons (.ttup (.cons (.tname 11) (.cons (.tname 8) .nil))) .nil))) .items (.cons (.var 2) .nil) (.cons (.if_ (.trb (.cmp .eq (.var 9) (.var 6))) (.cons (.asg (.tname 4) (.or_ (.call f_shorten (.cons (.var 3) (.cons (.tup (.cons (.var 5) (.cons (.var 10) .nil))) (.cons (.op .add (.var 7) (.var 11)) (.cons (.tup (.cons (.lit .none) (.cons (.tup (.cons (.var 5) (.cons (.var 6) .nil))) .nil))) .nil))))) (.var 4))) .nil) .nil) .nil)) (.cons (.for_ (.ttup (.cons (.tname 12) (.cons (.tname 13) .nil))) .enum (.cons (.idx (.idx (.var 0) (.lit (.int 0))) (.var 5)) .nil) (.cons (.asg (.tname 14) (.tup (.cons (.var 13) (.cons (.idx (.idx (.idx (.idx (.var 1) (.lit (.int 0))) (.var 6)) (.var 12)) (.lit (.int 0))) .nil)))) (.cons (.asg (.tname 4) (.or_ (.call f_shorten (.cons (.var 3) (.cons (.var 14) (.cons (.op .add (.var 7) (.lit (.int 1))) (.cons (.tup (.cons (.var 12) (.cons (.tup (.cons (.var 5) (.cons (.var 6) .nil))) .nil))) .nil))))) (.var 4))) .nil))) .nil))) .nil))) (.cons (.ret (.cons (.var 3) .nil)) .nil))), []⟩
def d_place_row : FD := ⟨5, 3, (.cons (.asg (.tname 3) (.idx (.idx (.var 0) (.var 2)) (.lit (.int 1)))) (.cons (.if_ (.trb (.isn (.var 3))) (.cons (.ret (.cons (.tup .nil) .nil)) .nil) .nil) (.cons (.asg (.tname 4) (.call f_place_row (.cons (.var 0) (.cons (.var 1) (.cons (.idx (.var 3) (.lit (.int 1))) .nil))))) (.cons (.ret (.cons (.op .add (.var 4) (.ite (.trb (.nisn (.idx (.var 3) (.lit (.int 0))))) (.tup (.cons (.idx (.var 3) (.lit (.int 0))) .nil)) (.call f_whole_row (.cons (.var 1) (.cons (.tup (.cons (.idx (.idx (.var 3) (.lit (.int 1))) (.lit (.int 1))) (.cons (.idx (.var 2) (.lit (.int 1))) .nil))) .nil))))) .nil)) .nil)))), []⟩
def d_fault_of : FD := ⟨12, 2, (.cons (.asg (.tname 2) (.call f_whole_marks (.cons (.var 1) (.cons (.call f_names_of (.cons (.var 0) .nil)) .nil)))) (.cons (.par (.cons (.tname 3) (.cons (.tname 4) .nil)) (.cons (.call f_places (.cons (.var 0) (.cons (.var 1) (.cons (.var 2) .nil)))) (.cons (.new (.lst .nil)) .nil))) (.cons (.for_ (.ttup (.cons (.ttup (.cons (.tname 5) (.cons (.tname 6) .nil))) (.cons (.ttup (.cons (.tname 7) (.cons (.tname 8) .nil))) .nil))) .items (.cons (.var 3) .nil) (.cons (.for_ (.ttup (.cons (.tname 9) (.cons (.tname 10) .nil))) .enum (.cons (.idx (.idx (.var 0) (.lit (.int 0))) (.var 5)) .nil) (.cons (.if_ (.trb (.cmp .ne (.idx (.idx (.var 0) (.lit (.int 1))) (.var 10)) (.idx (.idx (.idx (.idx (.var 1) (.lit (.int 0))) (.var 6)) (.var 9)) (.lit (.int 1))))) (.cons (.xpr (.mth .append (.var 4) (.cons (.tup (.cons (.op .add (.var 7) (.lit (.int 1))) (.cons (.tup (.cons (.var 5) (.cons (.var 6) .nil))) (.cons (.var 9) .nil)))) .nil))) .nil) .nil) .nil)) .nil)) (.cons (.if_ (.not_ (.tr (.var 4))) (.cons (.ret (.cons (.lit .none) .nil)) .nil) .nil) (.cons (.asg (.ttup (.cons (.tname 7) (.cons (.tname 11) (.cons (.tname 9) .nil)))) (.bi .minl (.cons (.var 4) .nil))) (.cons (.if_ (.trb (.cmp .gt (.var 7) (.lit (.int 2000)))) (.cons .nil .nil) .nil) (.cons (.ret (.cons (.op .add (.call f_place_row (.cons (.var 3) (.cons (.var 2) (.cons (.var 11) .nil)))) (.tup (.cons (.var 9) .nil))) .nil)) .nil))))))), []⟩
def d_fault : FD := ⟨3, 3, (.cons (.xpr (.call f_need_all (.cons (.var 0) (.cons (.var 1) (.cons (.var 2) .nil))))) (.cons (.ret (.cons (.call f_fault_of (.cons (.var 0) (.cons (.var 2) .nil))) .nil)) .nil)), []⟩
def d_is_right : FD := ⟨8, 3, (.cons (.xpr (.call f_need_all (.cons (.var 0) (.cons (.var 1) (.cons (.var 2) .nil))))) (.cons (.asg (.tname 3) (.call f_whole_marks (.cons (.var 2) (.cons (.call f_names_of (.cons (.var 0) .nil)) .nil)))) (.cons (.for_ (.ttup (.cons (.tname 4) (.cons (.tname 5) .nil))) .keys (.cons (.call f_places (.cons (.var 0) (.cons (.var 2) (.cons (.var 3) .nil)))) .nil) (.cons (.for_ (.ttup (.cons (.tname 6) (.cons (.tname 7) .nil))) .enum (.cons (.idx (.idx (.var 0) (.lit (.int 0))) (.var 4)) .nil) (.cons (.if_ (.trb (.cmp .ne (.idx (.idx (.var 0) (.lit (.int 1))) (.var 7)) (.idx (.idx (.idx (.idx (.var 2) (.lit (.int 0))) (.var 5)) (.var 6)) (.lit (.int 1))))) (.cons (.ret (.cons (.lit (.bool false)) .nil)) .nil) .nil) .nil)) .nil)) (.cons (.ret (.cons (.lit (.bool true)) .nil)) .nil)))), []⟩
def d_next_pairs : FD := ⟨8, 3, (.cons (.asg (.tname 3) (.new (.lst .nil))) (.cons (.for_ (.ttup (.cons (.tname 4) (.cons (.tname 5) .nil))) .enum (.cons (.idx (.idx (.var 0) (.lit (.int 0))) (.idx (.var 2) (.lit (.int 0)))) .nil) (.cons (.for_ (.ttup (.cons (.tname 6) (.cons (.tname 7) .nil))) .enum (.cons (.idx (.idx (.var 0) (.lit (.int 0))) (.idx (.var 2) (.lit (.int 1)))) .nil) (.cons (.if_ (.or_ (.trb (.cmp .eq (.var 1) (.lit (.str (PySem.Str.ofString "blind"))))) (.trb (.cmp .eq (.var 4) (.var 6)))) (.cons (.xpr (.mth .append (.var 3) (.cons (.tup (.cons (.var 4) (.cons (.var 6) (.cons (.tup (.cons (.var 5) (.cons (.var 7) .nil))) .nil)))) .nil))) .nil) .nil) .nil)) .nil)) (.cons (.ret (.cons (.var 3) .nil)) .nil))), []⟩
def d_words_to_meet : FD := ⟨10, 3, (.cons (.par (.cons (.tname 3) (.cons (.tname 4) .nil)) (.cons (.dic (.cons (.var 2) (.cons (.tup (.cons (.tup .nil) (.cons (.tup .nil) .nil))) .nil))) (.cons (.lst (.cons (.var 2) .nil)) .nil))) (.cons (.whl (.tr (.var 4)) (.cons (.asg (.tname 5) (.new (.lst .nil))) (.cons (.for_ (.tname 6) .plain (.cons (.var 4) .nil) (.cons (.if_ (.trb (.cmp .eq (.idx (.var 6) (.lit (.int 0))) (.idx (.var 6) (.lit (.int 1))))) (.cons (.ret (.cons (.idx (.var 3) (.var 6)) .nil)) .nil) .nil) (.cons (.for_ (.ttup (.cons (.tname 7) (.cons (.tname 8) (.cons (.tname 9) .nil)))) .plain (.cons (.call f_next_pairs (.cons (.var 0) (.cons (.var 1) (.cons (.var 6) .nil)))) .nil) (.cons (.if_ (.trb (.cmp .nin (.var 9) (.var 3))) (.cons (.asg (.tsub (.var 3) (.var 9)) (.tup (.cons (.op .add (.idx (.idx (.var 3) (.var 6)) (.lit (.int 0))) (.tup (.cons (.var 7) .nil))) (.cons (.op .add (.idx (.idx (.var 3) (.var 6)) (.lit (.int 1))) (.tup (.cons (.var 8) .nil))) .nil)))) (.cons (.xpr (.mth .append (.var 5) (.cons (.var 9) .nil))) .nil)) .nil) .nil)) .nil))) (.cons (.asg (.tname 4) (.mv 5)) .nil)))) (.cons (.ret (.cons (.lit .none) .nil)) .nil))), []⟩
def d_pairs_meeting : FD := ⟨7, 2, (.cons (.asg (.tname 2) (.bi .len (.cons (.idx (.var 0) (.lit (.int 0))) .nil))) (.cons (.asg (.tname 3) (.comp2 .plain (.tname 4) .range (.cons (.var 2) .nil) (.tname 5) .range (.cons (.op .add (.var 4) (.lit (.int 1))) (.cons (.var 2) .nil)) (.tup (.cons (.var 4) (.cons (.var 5) .nil))) [4, 5])) (.cons (.ret (.cons (.comp .plain (.tname 6) .plain (.cons (.var 3) .nil) (.trb (.nisn (.call f_words_to_meet (.cons (.var 0) (.cons (.var 1) (.cons (.var 6) .nil)))))) (.var 6) [6]) .nil)) .nil))), []⟩
def d_need_two : FD := ⟨2, 2, (.cons (.xpr (.call f_need_question (.cons (.var 0) .nil))) (.cons (.xpr (.call f_need_manner (.cons (.var 1) .nil))) .nil)), []⟩
def d_meetings : FD := ⟨2, 2, (.cons (.xpr (.call f_need_two (.cons (.var 0) (.cons (.var 1) .nil)))) (.cons (.ret (.cons (.bi .tuple (.cons (.call f_pairs_meeting (.cons (.call f_least_of (.cons (.var 0) .nil)) (.cons (.var 1) .nil))) .nil)) .nil)) .nil)), []⟩
def d_bad_pair : FD := ⟨5, 2, (.cons (.asg (.tname 2) (.call f_lots_below (.cons (.var 0) .nil))) (.cons (.for_ (.ttup (.cons (.tname 3) (.cons (.tname 4) .nil))) .plain (.cons (.call f_pairs_meeting (.cons (.var 0) (.cons (.var 1) .nil))) .nil) (.cons (.if_ (.trb (.cmp .ne (.idx (.var 2) (.var 3)) (.idx (.var 2) (.var 4)))) (.cons (.ret (.cons (.tup (.cons (.var 3) (.cons (.var 4) .nil))) .nil)) .nil) .nil) .nil)) (.cons (.ret (.cons (.lit .none) .nil)) .nil))), []⟩
def d_can_read : FD := ⟨2, 2, (.cons (.xpr (.call f_need_two (.cons (.var 0) (.cons (.var 1) .nil)))) (.cons (.ret (.cons (.isn (.call f_bad_pair (.cons (.call f_least_of (.cons (.var 0) .nil)) (.cons (.var 1) .nil)))) .nil)) .nil)), []⟩
def d_is_paper : FD := ⟨10, 3, (.cons (.if_ (.or_ (.not_ (.tr (.isi (.var 2) [.tuple]))) (.or_ (.trb (.cmp .ne (.bi .len (.cons (.var 2) .nil)) (.lit (.int 5)))) (.not_ (.tr (.gen true 3 (.var 2) (.call f_is_path (.cons (.call f_names_of (.cons (.var 0) .nil)) (.cons (.var 3) .nil)))))))) (.cons (.ret (.cons (.lit (.bool false)) .nil)) .nil) .nil) (.cons (.asg (.ttup (.cons (.tname 4) (.cons (.tname 5) (.cons (.tname 6) (.cons (.tname 7) (.cons (.tname 8) .nil)))))) (.var 2)) (.cons (.if_ (.or_ (.trb (.cmp .ne (.bi .len (.cons (.var 6) .nil)) (.bi .len (.cons (.var 7) .nil)))) (.or_ (.and_ (.trb (.cmp .eq (.var 1) (.lit (.str (PySem.Str.ofString "named"))))) (.trb (.cmp .ne (.var 6) (.var 7)))) (.trb (.cmp .eq (.var 8) (.tup .nil))))) (.cons (.ret (.cons (.lit (.bool false)) .nil)) .nil) .nil) (.cons (.asg (.tname 9) (.call f_least_of (.cons (.var 0) .nil))) (.cons (.if_ (.trb (.cmp .ne (.call f_led (.cons (.var 9) (.cons (.lit (.int 0)) (.cons (.op .add (.var 4) (.var 6)) .nil)))) (.call f_led (.cons (.var 9) (.cons (.lit (.int 0)) (.cons (.op .add (.var 5) (.var 7)) .nil)))))) (.cons (.ret (.cons (.lit (.bool false)) .nil)) .nil) .nil) (.cons (.ret (.cons (.cmp .ne (.call f_answered (.cons (.var 0) (.cons (.op .add (.var 4) (.var 8)) .nil))) (.call f_answered (.cons (.var 0) (.cons (.op .add (.var 5) (.var 8)) .nil)))) .nil)) .nil)))))), []⟩
def d_shows_paper : FD := ⟨3, 3, (.cons (.xpr (.call f_need_two (.cons (.var 0) (.cons (.var 1) .nil)))) (.cons (.if_ (.trb (.isn (.var 2))) (.cons (.ret (.cons (.isn (.call f_bad_pair (.cons (.call f_least_of (.cons (.var 0) .nil)) (.cons (.var 1) .nil)))) .nil)) .nil) .nil) (.cons (.ret (.cons (.call f_is_paper (.cons (.var 0) (.cons (.var 1) (.cons (.var 2) .nil)))) .nil)) .nil))), []⟩
def d_count_below : FD := ⟨3, 2, (.cons (.asg (.tname 2) (.call f_least_of (.cons (.var 0) .nil))) (.cons (.ret (.cons (.ite (.trb (.nisn (.call f_bad_pair (.cons (.var 2) (.cons (.var 1) .nil))))) (.lit .none) (.bi .lenset (.cons (.call f_lots_below (.cons (.var 2) .nil)) .nil))) .nil)) .nil)), []⟩
def d_fewest_states : FD := ⟨2, 2, (.cons (.xpr (.call f_need_two (.cons (.var 0) (.cons (.var 1) .nil)))) (.cons (.ret (.cons (.call f_count_below (.cons (.var 0) (.cons (.var 1) .nil))) .nil)) .nil)), []⟩
def d_made_reader : FD := ⟨12, 2, (.cons (.par (.cons (.tname 2) (.cons (.tname 3) (.cons (.tname 4) .nil))) (.cons (.call f_lots_below_t (.cons (.var 0) .nil)) (.cons (.new (.lst .nil)) (.cons (.new (.lst .nil)) .nil)))) (.cons (.for_ (.tname 5) .range (.cons (.op .add (.bi .maxt (.cons (.var 2) .nil)) (.lit (.int 1))) .nil) (.cons (.asg (.tname 6) (.mth .tindex (.var 2) (.cons (.var 5) .nil))) (.cons (.xpr (.mth .append (.var 3) (.cons (.bi .tuple (.cons (.comp .plain (.tname 7) .plain (.cons (.idx (.idx (.var 0) (.lit (.int 0))) (.var 6)) .nil) .nil (.tup (.cons (.idx (.var 2) (.var 7)) (.cons (.idx (.idx (.var 0) (.lit (.int 1))) (.var 7)) .nil))) [7]) .nil)) .nil))) (.cons (.asg (.tname 8) (.new (.op .mul (.lst (.cons (.var 5) .nil)) (.ite (.trb (.cmp .eq (.var 1) (.lit (.str (PySem.Str.ofString "named"))))) (.call f_names_of (.cons (.var 0) .nil)) (.lit (.int 1)))))) (.cons (.for_ (.ttup (.cons (.tname 9) (.cons (.tname 10) .nil))) .enum (.cons (.idx (.var 0) (.lit (.int 0))) .nil) (.cons (.for_ (.ttup (.cons (.tname 11) (.cons (.tname 7) .nil))) .enum (.cons (.var 10) .nil) (.cons (.if_ (.trb (.cmp .eq (.idx (.var 2) (.var 7)) (.var 5))) (.cons (.asg (.tsub (.var 8) (.ite (.trb (.cmp .eq (.var 1) (.lit (.str (PySem.Str.ofString "named"))))) (.var 11) (.lit (.int 0)))) (.idx (.var 2) (.var 9))) .nil) .nil) .nil)) .nil)) (.cons (.xpr (.mth .append (.var 4) (.cons (.bi .tuple (.cons (.var 8) .nil)) .nil))) .nil)))))) (.cons (.ret (.cons (.tup (.cons (.bi .tuple (.cons (.var 3) .nil)) (.cons (.bi .tuple (.cons (.var 4) .nil)) .nil))) .nil)) .nil))), []⟩
def d_reader_for : FD := ⟨3, 2, (.cons (.xpr (.call f_need_two (.cons (.var 0) (.cons (.var 1) .nil)))) (.cons (.asg (.tname 2) (.call f_least_of (.cons (.var 0) .nil))) (.cons (.ret (.cons (.ite (.trb (.nisn (.call f_bad_pair (.cons (.var 2) (.cons (.var 1) .nil))))) (.lit .none) (.call f_made_reader (.cons (.var 2) (.cons (.var 1) .nil)))) .nil)) .nil))), []⟩
def d_joined_answer : FD := ⟨3, 3, (.cons (.if_ (.trb (.cmp .eq (.var 0) (.lit (.str (PySem.Str.ofString "and"))))) (.cons (.ret (.cons (.op .mul (.var 1) (.var 2)) .nil)) .nil) .nil) (.cons (.if_ (.trb (.cmp .eq (.var 0) (.lit (.str (PySem.Str.ofString "or"))))) (.cons (.ret (.cons (.bi .max (.cons (.var 1) (.cons (.var 2) .nil))) .nil)) .nil) .nil) (.cons (.ret (.cons (.ite (.trb (.cmp .eq (.var 0) (.lit (.str (PySem.Str.ofString "first"))))) (.op .mul (.var 1) (.op .sub (.lit (.int 1)) (.var 2))) (.op .mod (.op .add (.var 1) (.var 2)) (.lit (.int 2)))) .nil)) .nil))), []⟩
def d_both : FD := ⟨14, 3, (.cons (.xpr (.call f_need_question (.cons (.var 0) .nil))) (.cons (.xpr (.call f_need_question (.cons (.var 1) .nil))) (.cons (.if_ (.trb (.cmp .ne (.call f_names_of (.cons (.var 1) .nil)) (.call f_names_of (.cons (.var 0) .nil)))) (.cons .nil .nil) .nil) (.cons (.if_ (.or_ (.not_ (.tr (.isi (.var 2) [.str]))) (.trb (.inl true (.var 2) [(.str (PySem.Str.ofString "and")), (.str (PySem.Str.ofString "first")), (.str (PySem.Str.ofString "one")), (.str (PySem.Str.ofString "or"))]))) (.cons .nil .nil) .nil) (.cons (.par (.cons (.tname 3) (.cons (.tname 4) (.cons (.tname 5) .nil))) (.cons (.new (.lst (.cons (.tup (.cons (.lit (.int 0)) (.cons (.lit (.int 0)) .nil))) .nil))) (.cons (.dic (.cons (.tup (.cons (.lit (.int 0)) (.cons (.lit (.int 0)) .nil))) (.cons (.lit (.int 0)) .nil))) (.cons (.new (.lst .nil)) .nil)))) (.cons (.asg (.tname 6) (.lit (.int 0))) (.cons (.whl (.trb (.cmp .lt (.var 6) (.bi .len (.cons (.var 3) .nil)))) (.cons (.par (.cons (.tname 7) (.cons (.tname 8) (.cons (.tname 9) .nil))) (.cons (.idx (.idx (.var 3) (.var 6)) (.lit (.int 0))) (.cons (.idx (.idx (.var 3) (.var 6)) (.lit (.int 1))) (.cons (.new (.lst .nil)) .nil)))) (.cons (.for_ (.tname 10) .range (.cons (.call f_names_of (.cons (.var 0) .nil)) .nil) (.cons (.asg (.tname 11) (.tup (.cons (.idx (.idx (.idx (.var 0) (.lit (.int 0))) (.var 7)) (.var 10)) (.cons (.idx (.idx (.idx (.var 1) (.lit (.int 0))) (.var 8)) (.var 10)) .nil)))) (.cons (.if_ (.trb (.cmp .nin (.var 11) (.var 4))) (.cons (.asg (.tsub (.var 4) (.var 11)) (.bi .len (.cons (.var 3) .nil))) (.cons (.xpr (.mth .append (.var 3) (.cons (.var 11) .nil))) .nil)) .nil) (.cons (.xpr (.mth .append (.var 9) (.cons (.idx (.var 4) (.var 11)) .nil))) .nil)))) (.cons (.xpr (.mth .append (.var 5) (.cons (.bi .tuple (.cons (.var 9) .nil)) .nil))) (.cons (.aug 6 .add (.lit (.int 1))) .nil))))) (.cons (.asg (.tname 12) (.comp .plain (.ttup (.cons (.tname 7) (.cons (.tname 8) .nil))) .plain (.cons (.var 3) .nil) .nil (.call f_joined_answer (.cons (.var 2) (.cons (.idx (.idx (.var 0) (.lit (.int 1))) (.var 7)) (.cons (.idx (.idx (.var 1) (.lit (.int 1))) (.var 8)) .nil)))) [7, 8])) (.cons (.asg (.tname 13) (.call f_least_of (.cons (.tup (.cons (.bi .tuple (.cons (.var 5) .nil)) (.cons (.bi .tuple (.cons (.var 12) .nil)) .nil))) .nil))) (.cons (.if_ (.trb (.cmp .gt (.bi .len (.cons (.idx (.var 13) (.lit (.int 0))) .nil)) (.lit (.int 6)))) (.cons .nil .nil) .nil) (.cons (.ret (.cons (.var 13) .nil)) .nil))))))))))), []⟩
def d_inside : FD := ⟨11, 2, (.cons (.xpr (.call f_need_question (.cons (.var 0) .nil))) (.cons (.if_ (.not_ (.tr (.call f_is_number (.cons (.var 1) (.cons (.lit (.int 0)) (.cons (.op .sub (.call f_names_of (.cons (.var 0) .nil)) (.lit (.int 1))) .nil)))))) (.cons .nil .nil) .nil) (.cons (.asg (.ttup (.cons (.tname 2) (.cons (.tname 3) .nil))) (.var 0)) (.cons (.par (.cons (.tname 4) (.cons (.tname 5) .nil)) (.cons (.bi .len (.cons (.var 2) .nil)) (.cons (.idx (.idx (.var 2) (.lit (.int 0))) (.var 1)) .nil))) (.cons (.asg (.tname 6) (.op .add (.lst (.cons (.var 5) .nil)) (.comp .plain (.tname 7) .range (.cons (.var 4) .nil) (.trb (.cmp .ne (.var 7) (.var 5))) (.var 7) [7]))) (.cons (.asg (.tname 8) (.dcomp (.tname 7) .range (.cons (.var 4) .nil) (.var 7) (.mth .index (.var 6) (.cons (.var 7) .nil)) [7])) (.cons (.asg (.tname 9) (.bi .tuple (.cons (.comp .plain (.tname 7) .plain (.cons (.var 6) .nil) .nil (.bi .tuple (.cons (.comp .plain (.tname 10) .plain (.cons (.idx (.var 2) (.var 7)) .nil) .nil (.idx (.var 8) (.var 10)) [10]) .nil)) [7]) .nil))) (.cons (.ret (.cons (.call f_least_of (.cons (.tup (.cons (.var 9) (.cons (.bi .tuple (.cons (.comp .plain (.tname 7) .plain (.cons (.var 6) .nil) .nil (.idx (.var 3) (.var 7)) [7]) .nil)) .nil))) .nil)) .nil)) .nil)))))))), []⟩
def d_all_rows : FD := ⟨6, 2, (.cons (.asg (.tname 2) (.lst (.cons (.tup .nil) .nil))) (.cons (.for_ (.tname 3) .range (.cons (.var 1) .nil) (.cons (.asg (.tname 2) (.comp2 .plain (.tname 4) .plain (.cons (.var 2) .nil) (.tname 5) .range (.cons (.var 0) .nil) (.op .add (.var 4) (.tup (.cons (.var 5) .nil))) [4, 5])) .nil)) (.cons (.ret (.cons (.var 2) .nil)) .nil))), []⟩
def d_count_readable : FD := ⟨8, 2, (.cons (.if_ (.or_ (.not_ (.tr (.call f_is_number (.cons (.var 0) (.cons (.lit (.int 1)) (.cons (.lit (.int 3)) .nil)))))) (.not_ (.tr (.call f_is_number (.cons (.var 1) (.cons (.lit (.int 1)) (.cons (.lit (.int 2)) .nil))))))) (.cons .nil .nil) .nil) (.cons (.asg (.tname 2) (.new (.lst (.cons (.lit (.int 0)) (.cons (.lit (.int 0)) (.cons (.lit (.int 0)) .nil)))))) (.cons (.for_ (.tname 3) .plain (.cons (.call f_all_rows (.cons (.var 0) (.cons (.op .mul (.var 0) (.var 1)) .nil))) .nil) (.cons (.asg (.tname 4) (.bi .tuple (.cons (.comp .plain (.tname 5) .range (.cons (.var 0) .nil) .nil (.slc (.var 3) (.cons (.op .mul (.var 1) (.var 5)) .nil) (.cons (.op .mul (.var 1) (.op .add (.var 5) (.lit (.int 1)))) .nil)) [5]) .nil))) (.cons (.for_ (.tname 6) .plain (.cons (.call f_all_rows (.cons (.lit (.int 2)) (.cons (.var 0) .nil))) .nil) (.cons (.asg (.tname 7) (.call f_least_of (.cons (.tup (.cons (.var 4) (.cons (.var 6) .nil))) .nil))) (.cons (.augs (.var 2) (.lit (.int 0)) .add (.lit (.int 1))) (.cons (.augs (.var 2) (.lit (.int 1)) .add (.bi .int (.cons (.isn (.call f_bad_pair (.cons (.var 7) (.cons (.lit (.str (PySem.Str.ofString "named"))) .nil)))) .nil))) (.cons (.augs (.var 2) (.lit (.int 2)) .add (.bi .int (.cons (.isn (.call f_bad_pair (.cons (.var 7) (.cons (.lit (.str (PySem.Str.ofString "blind"))) .nil)))) .nil))) .nil))))) .nil))) (.cons (.ret (.cons (.bi .tuple (.cons (.var 2) .nil)) .nil)) .nil)))), []⟩
def d_write_row : FD := ⟨2, 1, (.cons (.xpr (.call f_need_row (.cons (.lit (.int 3)) (.cons (.var 0) .nil)))) (.cons (.ret (.cons (.mth .join (.lit (.str (PySem.Str.ofString ""))) (.cons (.comp .plain (.tname 1) .plain (.cons (.var 0) .nil) .nil (.ite (.trb (.cmp .eq (.var 1) (.lit (.int (-1))))) (.lit (.str (PySem.Str.ofString ")"))) (.idx (.lit (.str (PySem.Str.ofString "abc"))) (.var 1))) [1]) .nil)) .nil)) .nil)), []⟩
def d_need_names : FD := ⟨1, 1, (.cons (.if_ (.not_ (.tr (.call f_is_number (.cons (.var 0) (.cons (.lit (.int 1)) (.cons (.lit (.int 3)) .nil)))))) (.cons .nil .nil) .nil) .nil), []⟩
def d_read_row : FD := ⟨6, 2, (.cons (.xpr (.call f_need_names (.cons (.var 0) .nil))) (.cons (.if_ (.not_ (.tr (.isi (.var 1) [.str]))) (.cons .nil .nil) .nil) (.cons (.par (.cons (.tname 2) (.cons (.tname 3) .nil)) (.cons (.new (.lst .nil)) (.cons (.lit (.int 0)) .nil))) (.cons (.for_ (.ttup (.cons (.tname 4) (.cons (.tname 5) .nil))) .enum (.cons (.var 1) .nil) (.cons (.if_ (.or_ (.trb (.cmp .nin (.var 5) (.op .add (.lit (.str (PySem.Str.ofString ")"))) (.slc (.lit (.str (PySem.Str.ofString "abc"))) .nil (.cons (.var 0) .nil))))) (.or_ (.and_ (.trb (.cmp .eq (.var 5) (.lit (.str (PySem.Str.ofString ")"))))) (.trb (.cmp .eq (.var 3) (.lit (.int 0))))) (.trb (.cmp .eq (.var 4) (.lit (.int 2000)))))) (.cons .nil .nil) .nil) (.cons (.xpr (.mth .append (.var 2) (.cons (.ite (.trb (.cmp .eq (.var 5) (.lit (.str (PySem.Str.ofString ")"))))) (.lit (.int (-1))) (.mth .sindex (.lit (.str (PySem.Str.ofString "abc"))) (.cons (.var 5) .nil))) .nil))) (.cons (.aug 3 .add (.ite (.trb (.cmp .ne (.var 5) (.lit (.str (PySem.Str.ofString ")"))))) (.lit (.int 1)) (.neg (.lit (.int 1))))) .nil)))) (.cons (.ret (.cons (.bi .tuple (.cons (.var 2) .nil)) .nil)) .nil))))), []⟩
def d_words_of : FD := ⟨2, 1, (.cons (.ret (.cons (.mth .join (.lit (.str (PySem.Str.ofString ""))) (.cons (.comp .plain (.tname 1) .plain (.cons (.var 0) .nil) .nil (.op .add (.lit (.str (PySem.Str.ofString " "))) (.bi .str (.cons (.var 1) .nil))) [1]) .nil)) .nil)) .nil), []⟩
def d_write_question : FD := ⟨4, 1, (.cons (.xpr (.call f_need_question (.cons (.var 0) .nil))) (.cons (.asg (.tname 1) (.lit (.str (PySem.Str.ofString "")))) (.cons (.for_ (.ttup (.cons (.tname 2) (.cons (.tname 3) .nil))) .enum (.cons (.idx (.var 0) (.lit (.int 0))) .nil) (.cons (.aug 1 .add (.op .add (.op .add (.op .add (.op .add (.op .add (.op .add (.lit (.str (PySem.Str.ofString "state "))) (.bi .str (.cons (.var 2) .nil))) (.lit (.str (PySem.Str.ofString " answer ")))) (.bi .str (.cons (.idx (.idx (.var 0) (.lit (.int 1))) (.var 2)) .nil))) (.lit (.str (PySem.Str.ofString " to")))) (.call f_words_of (.cons (.var 3) .nil))) (.lit (.str (PySem.Str.ofString "\n"))))) .nil)) (.cons (.ret (.cons (.var 1) .nil)) .nil)))), []⟩
def d_trap_of : FD := ⟨7, 1, (.cons (.asg (.tname 1) (.call f_bad_pair (.cons (.var 0) (.cons (.lit (.str (PySem.Str.ofString "named"))) .nil)))) (.cons (.par (.cons (.tname 2) (.cons (.tname 3) .nil)) (.cons (.idx (.call f_words_to_meet (.cons (.var 0) (.cons (.lit (.str (PySem.Str.ofString "named"))) (.cons (.var 1) .nil)))) (.lit (.int 0))) (.cons (.call f_ways_of (.cons (.var 0) .nil)) .nil))) (.cons (.for_ (.tname 4) .plain (.cons (.var 1) .nil) (.cons (.asg (.tname 5) (.call f_led (.cons (.var 0) (.cons (.var 4) (.cons (.op .mul (.var 2) (.lit (.int 60))) .nil))))) (.cons (.asg (.tname 6) (.call f_parting_path (.cons (.var 0) (.cons (.var 4) (.cons (.var 5) .nil))))) (.cons (.if_ (.trb (.nisn (.var 6))) (.cons (.ret (.cons (.tup (.cons (.idx (.var 3) (.var 4)) (.cons (.var 2) (.cons (.var 6) .nil)))) .nil)) .nil) .nil) .nil)))) (.cons (.ret (.cons (.lit .none) .nil)) .nil)))), []⟩
def d_trap : FD := ⟨2, 1, (.cons (.xpr (.call f_need_question (.cons (.var 0) .nil))) (.cons (.asg (.tname 1) (.call f_least_of (.cons (.var 0) .nil))) (.cons (.ret (.cons (.ite (.trb (.isn (.call f_bad_pair (.cons (.var 1) (.cons (.lit (.str (PySem.Str.ofString "named"))) .nil))))) (.lit .none) (.call f_trap_of (.cons (.var 1) .nil))) .nil)) .nil))), []⟩
def d_is_trap : FD := ⟨6, 2, (.cons (.if_ (.or_ (.not_ (.tr (.isi (.var 1) [.tuple]))) (.or_ (.trb (.cmp .ne (.bi .len (.cons (.var 1) .nil)) (.lit (.int 3)))) (.not_ (.tr (.gen true 2 (.var 1) (.call f_is_path (.cons (.call f_names_of (.cons (.var 0) .nil)) (.cons (.var 2) .nil)))))))) (.cons (.ret (.cons (.lit (.bool false)) .nil)) .nil) .nil) (.cons (.asg (.ttup (.cons (.tname 3) (.cons (.tname 4) (.cons (.tname 5) .nil)))) (.var 1)) (.cons (.if_ (.or_ (.trb (.cmp .eq (.var 4) (.tup .nil))) (.or_ (.trb (.cmp .eq (.var 5) (.tup .nil))) (.trb (.cmp .gt (.bi .max (.cons (.bi .len (.cons (.var 3) .nil)) (.cons (.bi .len (.cons (.var 4) .nil)) (.cons (.bi .len (.cons (.var 5) .nil)) .nil)))) (.lit (.int 20)))))) (.cons (.ret (.cons (.lit (.bool false)) .nil)) .nil) .nil) (.cons (.ret (.cons (.cmp .ne (.call f_answered (.cons (.var 0) (.cons (.op .add (.var 3) (.var 5)) .nil))) (.call f_answered (.cons (.var 0) (.cons (.op .add (.op .add (.var 3) (.op .mul (.var 4) (.lit (.int 60)))) (.var 5)) .nil)))) .nil)) .nil)))), []⟩
def d_shows_trap : FD := ⟨2, 2, (.cons (.xpr (.call f_need_question (.cons (.var 0) .nil))) (.cons (.if_ (.trb (.isn (.var 1))) (.cons (.ret (.cons (.isn (.call f_bad_pair (.cons (.call f_least_of (.cons (.var 0) .nil)) (.cons (.lit (.str (PySem.Str.ofString "named"))) .nil)))) .nil)) .nil) .nil) (.cons (.ret (.cons (.call f_is_trap (.cons (.var 0) (.cons (.var 1) .nil))) .nil)) .nil))), []⟩
def d_trap_rows : FD := ⟨7, 3, (.cons (.xpr (.call f_need_question (.cons (.var 0) .nil))) (.cons (.if_ (.not_ (.tr (.call f_is_trap (.cons (.var 0) (.cons (.var 1) .nil))))) (.cons .nil .nil) .nil) (.cons (.if_ (.not_ (.tr (.call f_is_number (.cons (.var 2) (.cons (.lit (.int 1)) (.cons (.lit (.int 6)) .nil)))))) (.cons .nil .nil) .nil) (.cons (.asg (.ttup (.cons (.tname 3) (.cons (.tname 4) (.cons (.tname 5) .nil)))) (.var 1)) (.cons (.asg (.tname 6) (.op .mul (.tup (.cons (.lit (.int (-1))) .nil)) (.op .mul (.var 2) (.bi .len (.cons (.var 4) .nil))))) (.cons (.ret (.cons (.tup (.cons (.op .add (.op .add (.op .add (.var 3) (.op .mul (.var 4) (.var 2))) (.var 6)) (.var 5)) (.cons (.op .add (.op .add (.op .add (.var 3) (.op .mul (.var 4) (.op .add (.var 2) (.lit (.int 60))))) (.var 6)) (.var 5)) .nil))) .nil)) .nil)))))), []⟩
def d__law_ring : FD := ⟨2, 1, (.cons (.ret (.cons (.tup (.cons (.bi .tuple (.cons (.comp .plain (.tname 1) .range (.cons (.var 0) .nil) .nil (.tup (.cons (.op .mod (.op .add (.var 1) (.lit (.int 1))) (.var 0)) .nil)) [1]) .nil)) (.cons (.op .add (.tup (.cons (.lit (.int 1)) .nil)) (.op .mul (.tup (.cons (.lit (.int 0)) .nil)) (.op .sub (.var 0) (.lit (.int 1))))) .nil))) .nil)) .nil), []⟩
def d_law : FD := ⟨9, 1, (.cons (.asg (.tname 1) (.lst (.cons (.var 0) (.cons (.lit (.int 0)) (.cons (.lit (.int 25591)) (.cons (.lit (.int 0)) .nil)))))) (.cons (.par (.cons (.tname 2) (.cons (.tname 3) (.cons (.tname 4) .nil))) (.cons (.tup (.cons (.tup (.cons (.tup (.cons (.lit (.int 0)) (.cons (.lit (.int 1)) .nil))) (.cons (.tup (.cons (.lit (.int 0)) (.cons (.lit (.int 1)) .nil))) .nil))) (.cons (.tup (.cons (.lit (.int 0)) (.cons (.lit (.int 1)) .nil))) .nil))) (.cons (.tup (.cons (.tup (.cons (.tup (.cons (.lit (.int 0)) (.cons (.lit (.int 1)) .nil))) (.cons (.tup (.cons (.lit (.int 1)) (.cons (.lit (.int 1)) .nil))) .nil))) (.cons (.tup (.cons (.lit (.int 0)) (.cons (.lit (.int 1)) .nil))) .nil))) (.cons (.tup (.cons (.tup (.cons (.tup (.cons (.lit (.int 0)) (.cons (.lit (.int 1)) .nil))) (.cons (.tup (.cons (.lit (.int 1)) (.cons (.lit (.int 0)) .nil))) .nil))) (.cons (.tup (.cons (.lit (.int 0)) (.cons (.lit (.int 1)) .nil))) .nil))) .nil)))) (.cons (.asg (.tname 5) (.lst .nil)) (.cons (.for_ (.tname 6) .plain (.cons (.lst (.cons (.var 2) (.cons (.var 3) (.cons (.var 4) .nil)))) .nil) (.cons (.asg (.tname 5) (.op .add (.var 5) (.lst (.cons (.call f_fewest_states (.cons (.var 6) (.cons (.lit (.str (PySem.Str.ofString "named"))) .nil))) (.cons (.call f_fewest_states (.cons (.var 6) (.cons (.lit (.str (PySem.Str.ofString "blind"))) .nil))) .nil))))) .nil)) (.cons (.if_ (.trb (.cmp .ne (.var 5) (.lst (.cons (.lit (.int 1)) (.cons (.lit (.int 1)) (.cons (.lit .none) (.cons (.lit .none) (.cons (.lit (.int 2)) (.cons (.lit .none) .nil))))))))) (.cons (.ret (.cons (.lit (.bool false)) .nil)) .nil) .nil) (.cons (.asg (.tname 5) (.lst (.cons (.call f_below_lots (.cons (.var 2) .nil)) (.cons (.call f_below_lots (.cons (.var 3) .nil)) (.cons (.call f_meetings (.cons (.var 3) (.cons (.lit (.str (PySem.Str.ofString "named"))) .nil))) (.cons (.call f_meetings (.cons (.var 4) (.cons (.lit (.str (PySem.Str.ofString "named"))) .nil))) (.cons (.call f_meetings (.cons (.var 4) (.cons (.lit (.str (PySem.Str.ofString "blind"))) .nil))) .nil))))))) (.cons (.if_ (.trb (.cmp .ne (.var 5) (.lst (.cons (.tup (.cons (.lit (.int 0)) (.cons (.lit (.int 0)) .nil))) (.cons (.tup (.cons (.lit (.int 0)) (.cons (.lit (.int 1)) .nil))) (.cons (.tup (.cons (.tup (.cons (.lit (.int 0)) (.cons (.lit (.int 1)) .nil))) .nil)) (.cons (.tup .nil) (.cons (.tup (.cons (.tup (.cons (.lit (.int 0)) (.cons (.lit (.int 1)) .nil))) .nil)) .nil)))))))) (.cons (.ret (.cons (.lit (.bool false)) .nil)) .nil) .nil) (.cons (.if_ (.or_ (.trb (.cmp .ne (.call f_answers_due (.cons (.var 3) (.cons (.tup (.cons (.lit (.int 0)) (.cons (.lit (.int 1)) (.cons (.lit (.int 0)) (.cons (.neg (.lit (.int 1))) (.cons (.neg (.lit (.int 1))) (.cons (.lit (.int 0)) .nil))))))) .nil))) (.tup (.cons (.lit (.int 0)) (.cons (.lit (.int 1)) (.cons (.lit (.int 1)) (.cons (.lit (.int 0)) .nil))))))) (.trb (.cmp .ne (.call f_left_open (.cons (.var 3) (.cons (.tup (.cons (.lit (.int 0)) (.cons (.lit (.int 1)) (.cons (.lit (.int 0)) (.cons (.neg (.lit (.int 1))) (.cons (.neg (.lit (.int 1))) (.cons (.lit (.int 0)) .nil))))))) .nil))) (.tup (.cons (.lit (.int 0)) (.cons (.lit (.int 0)) .nil)))))) (.cons (.ret (.cons (.lit (.bool false)) .nil)) .nil) .nil) (.cons (.asg (.tname 5) (.lst (.cons (.call f_shows_paper (.cons (.var 3) (.cons (.lit (.str (PySem.Str.ofString "named"))) (.cons (.tup (.cons (.tup .nil) (.cons (.tup (.cons (.lit (.int 1)) .nil)) (.cons (.tup (.cons (.lit (.int 1)) .nil)) (.cons (.tup (.cons (.lit (.int 1)) .nil)) (.cons (.tup (.cons (.lit (.int 0)) .nil)) .nil)))))) .nil)))) (.cons (.call f_shows_paper (.cons (.var 4) (.cons (.lit (.str (PySem.Str.ofString "blind"))) (.cons (.tup (.cons (.tup .nil) (.cons (.tup (.cons (.lit (.int 1)) .nil)) (.cons (.tup (.cons (.lit (.int 0)) .nil)) (.cons (.tup (.cons (.lit (.int 1)) .nil)) (.cons (.tup (.cons (.lit (.int 0)) .nil)) .nil)))))) .nil)))) .nil)))) (.cons (.if_ (.trb (.cmp .ne (.var 5) (.lst (.cons (.lit (.bool true)) (.cons (.lit (.bool true)) .nil))))) (.cons (.ret (.cons (.lit (.bool false)) .nil)) .nil) .nil) (.cons (.if_ (.or_ (.trb (.cmp .ne (.call f_reader_for (.cons (.var 2) (.cons (.lit (.str (PySem.Str.ofString "blind"))) .nil))) (.tup (.cons (.tup (.cons (.tup (.cons (.tup (.cons (.lit (.int 0)) (.cons (.lit (.int 0)) .nil))) (.cons (.tup (.cons (.lit (.int 0)) (.cons (.lit (.int 1)) .nil))) .nil))) .nil)) (.cons (.tup (.cons (.tup (.cons (.lit (.int 0)) .nil)) .nil)) .nil))))) (.trb (.nisb false (.call f_can_read (.cons (.var 3) (.cons (.lit (.str (PySem.Str.ofString "named"))) .nil)))))) (.cons (.ret (.cons (.lit (.bool false)) .nil)) .nil) .nil) (.cons (.if_ (.or_ (.trb (.nisb true (.call f_shows_trap (.cons (.var 3) (.cons (.tup (.cons (.tup .nil) (.cons (.tup (.cons (.lit (.int 1)) .nil)) (.cons (.tup (.cons (.lit (.int 0)) .nil)) .nil)))) .nil))))) (.trb (.nisn (.call f_trap (.cons (.var 4) .nil))))) (.cons (.ret (.cons (.lit (.bool false)) .nil)) .nil) .nil) (.cons (.if_ (.trb (.cmp .ne (.idx (.call f_trap_rows (.cons (.var 3) (.cons (.tup (.cons (.tup .nil) (.cons (.tup (.cons (.lit (.int 1)) .nil)) (.cons (.tup (.cons (.lit (.int 0)) .nil)) .nil)))) (.cons (.lit (.int 1)) .nil)))) (.lit (.int 0))) (.tup (.cons (.lit (.int 1)) (.cons (.neg (.lit (.int 1))) (.cons (.lit (.int 0)) .nil)))))) (.cons (.ret (.cons (.lit (.bool false)) .nil)) .nil) .nil) (.cons (.asg (.tname 7) (.tup (.cons (.tup (.cons (.tup (.cons (.tup (.cons (.lit (.int 0)) (.cons (.lit (.int 0)) .nil))) (.cons (.tup (.cons (.lit (.int 0)) (.cons (.lit (.int 1)) .nil))) .nil))) .nil)) (.cons (.tup (.cons (.tup (.cons (.lit (.int 0)) (.cons (.lit (.int 0)) .nil))) .nil)) .nil)))) (.cons (.if_ (.or_ (.trb (.cmp .ne (.call f_fault (.cons (.var 3) (.cons (.lit (.str (PySem.Str.ofString "named"))) (.cons (.var 7) .nil)))) (.tup (.cons (.lit (.int 1)) (.cons (.lit (.int 0)) .nil))))) (.trb (.cmp .nin (.call f_fault (.cons (.var 4) (.cons (.lit (.str (PySem.Str.ofString "named"))) (.cons (.var 7) .nil)))) (.lst (.cons (.tup (.cons (.lit (.int 1)) (.cons (.lit (.int 0)) .nil))) (.cons (.tup (.cons (.lit (.int 1)) (.cons (.lit (.int 1)) .nil))) .nil)))))) (.cons (.ret (.cons (.lit (.bool false)) .nil)) .nil) .nil) (.cons (.if_ (.not_ (.tr (.call f_is_right (.cons (.var 2) (.cons (.lit (.str (PySem.Str.ofString "named"))) (.cons (.var 7) .nil)))))) (.cons (.ret (.cons (.lit (.bool false)) .nil)) .nil) .nil) (.cons (.if_ (.trb (.cmp .ne (.comp .plain (.tname 8) .range (.cons (.lit (.int 1)) (.cons (.lit (.int 7)) .nil)) .nil (.call f_fewest_states (.cons (.call f__law_ring (.cons (.var 8) .nil)) (.cons (.lit (.str (PySem.Str.ofString "blind"))) .nil))) [8]) (.lst (.cons (.lit (.int 1)) (.cons (.lit (.int 2)) (.cons (.lit (.int 3)) (.cons (.lit (.int 4)) (.cons (.lit (.int 5)) (.cons (.lit (.int 6)) .nil))))))))) (.cons (.ret (.cons (.lit (.bool false)) .nil)) .nil) .nil) (.cons (.if_ (.or_ (.trb (.cmp .ne (.call f_forest_of (.cons (.tup (.cons (.lit (.int 0)) (.cons (.lit (.int 1)) (.cons (.neg (.lit (.int 1))) (.cons (.neg (.lit (.int 1))) (.cons (.lit (.int 1)) (.cons (.neg (.lit (.int 1))) .nil))))))) .nil)) (.tup (.cons (.tup (.cons (.lit (.int 0)) (.cons (.tup (.cons (.tup (.cons (.lit (.int 1)) (.cons (.tup .nil) .nil))) .nil)) .nil))) (.cons (.tup (.cons (.lit (.int 1)) (.cons (.tup .nil) .nil))) .nil))))) (.trb (.cmp .ne (.call f_told_forest (.cons (.var 3) (.cons (.tup (.cons (.tup (.cons (.lit (.int 1)) (.cons (.tup (.cons (.tup (.cons (.lit (.int 0)) (.cons (.tup .nil) .nil))) .nil)) .nil))) .nil)) .nil))) (.tup (.cons (.tup (.cons (.lit (.int 1)) (.cons (.lit (.int 1)) (.cons (.tup (.cons (.tup (.cons (.lit (.int 0)) (.cons (.lit (.int 1)) (.cons (.tup .nil) .nil)))) .nil)) .nil)))) .nil))))) (.cons (.ret (.cons (.lit (.bool false)) .nil)) .nil) .nil) (.cons (.if_ (.or_ (.trb (.cmp .ne (.call f_both (.cons (.var 2) (.cons (.var 3) (.cons (.lit (.str (PySem.Str.ofString "and"))) .nil)))) (.var 2))) (.or_ (.trb (.cmp .ne (.call f_both (.cons (.var 3) (.cons (.var 3) (.cons (.lit (.str (PySem.Str.ofString "one"))) .nil)))) (.tup (.cons (.tup (.cons (.tup (.cons (.lit (.int 0)) (.cons (.lit (.int 0)) .nil))) .nil)) (.cons (.tup (.cons (.lit (.int 0)) .nil)) .nil))))) (.trb (.cmp .ne (.call f_inside (.cons (.var 3) (.cons (.lit (.int 1)) .nil))) (.tup (.cons (.tup (.cons (.tup (.cons (.lit (.int 0)) (.cons (.lit (.int 0)) .nil))) .nil)) (.cons (.tup (.cons (.lit (.int 1)) .nil)) .nil))))))) (.cons (.ret (.cons (.lit (.bool false)) .nil)) .nil) .nil) (.cons (.if_ (.or_ (.trb (.cmp .ne (.call f_count_readable (.cons (.lit (.int 1)) (.cons (.lit (.int 2)) .nil))) (.tup (.cons (.lit (.int 2)) (.cons (.lit (.int 2)) (.cons (.lit (.int 2)) .nil)))))) (.trb (.cmp .ne (.idx (.call f_count_readable (.cons (.lit (.int 2)) (.cons (.lit (.int 1)) .nil))) (.lit (.int 0))) (.lit (.int 16))))) (.cons (.ret (.cons (.lit (.bool false)) .nil)) .nil) .nil) (.cons (.if_ (.or_ (.trb (.cmp .ne (.call f_write_row (.cons (.tup (.cons (.lit (.int 0)) (.cons (.lit (.int 1)) (.cons (.neg (.lit (.int 1))) (.cons (.neg (.lit (.int 1))) .nil))))) .nil)) (.lit (.str (PySem.Str.ofString "ab))"))))) (.trb (.cmp .ne (.call f_read_row (.cons (.lit (.int 2)) (.cons (.lit (.str (PySem.Str.ofString "ab))"))) .nil))) (.tup (.cons (.lit (.int 0)) (.cons (.lit (.int 1)) (.cons (.neg (.lit (.int 1))) (.cons (.neg (.lit (.int 1))) .nil)))))))) (.cons (.ret (.cons (.lit (.bool false)) .nil)) .nil) .nil) (.cons (.ret (.cons (.cmp .eq (.call f_write_question (.cons (.var 4) .nil)) (.lit (.str (PySem.Str.ofString "state 0 answer 0 to 0 1\nstate 1 answer 1 to 1 0\n")))) .nil)) .nil)))))))))))))))))))))), []⟩
def d_lots_below_t : FD := ⟨3, 1, (.cons (.asg (.tname 1) (.dic .nil)) (.cons (.ret (.cons (.new (.bi .ltup (.cons (.comp .plain (.tname 2) .plain (.cons (.idx (.var 0) (.lit (.int 0))) .nil) .nil (.mth .setdefault (.var 1) (.cons (.var 2) (.cons (.bi .len (.cons (.var 1) .nil)) .nil))) [2]) .nil))) .nil)) .nil)), []⟩
def prog : List FD := [d_is_number, d_are_steps, d_need_question, d_names_of, d_is_path, d_led, d_answered, d_ways_of, d_lots_by, d_least_of, d_lots_below, d_below_lots, d_parting_path, d_wrong_tag, d_need_row, d_open_path, d_left_open, d_due_in, d_answers_due, d_marks_in, d_need_forest, d_forest_of, d_told_forest, d_told_from, d_need_manner, d_width, d_is_opening, d_need_reader, d_need_all, d_closed, d_shorten, d_whole_marks, d_whole_row, d_places, d_place_row, d_fault_of, d_fault, d_is_right, d_next_pairs, d_words_to_meet, d_pairs_meeting, d_need_two, d_meetings, d_bad_pair, d_can_read, d_is_paper, d_shows_paper, d_count_below, d_fewest_states, d_made_reader, d_reader_for, d_joined_answer, d_both, d_inside, d_all_rows, d_count_readable, d_write_row, d_need_names, d_read_row, d_words_of, d_write_question, d_trap_of, d_trap, d_is_trap, d_shows_trap, d_trap_rows, d__law_ring, d_law, d_lots_below_t]
def fns : List (Str × Nat) := [(Str.ofString "is_number", 0), (Str.ofString "are_steps", 1), (Str.ofString "need_question", 2), (Str.ofString "names_of", 3), (Str.ofString "is_path", 4), (Str.ofString "led", 5), (Str.ofString "answered", 6), (Str.ofString "ways_of", 7), (Str.ofString "lots_by", 8), (Str.ofString "least_of", 9), (Str.ofString "lots_below", 10), (Str.ofString "below_lots", 11), (Str.ofString "parting_path", 12), (Str.ofString "wrong_tag", 13), (Str.ofString "need_row", 14), (Str.ofString "open_path", 15), (Str.ofString "left_open", 16), (Str.ofString "due_in", 17), (Str.ofString "answers_due", 18), (Str.ofString "marks_in", 19), (Str.ofString "need_forest", 20), (Str.ofString "forest_of", 21), (Str.ofString "told_forest", 22), (Str.ofString "told_from", 23), (Str.ofString "need_manner", 24), (Str.ofString "width", 25), (Str.ofString "is_opening", 26), (Str.ofString "need_reader", 27), (Str.ofString "need_all", 28), (Str.ofString "closed", 29), (Str.ofString "shorten", 30), (Str.ofString "whole_marks", 31), (Str.ofString "whole_row", 32), (Str.ofString "places", 33), (Str.ofString "place_row", 34), (Str.ofString "fault_of", 35), (Str.ofString "fault", 36), (Str.ofString "is_right", 37), (Str.ofString "next_pairs", 38), (Str.ofString "words_to_meet", 39), (Str.ofString "pairs_meeting", 40), (Str.ofString "need_two", 41), (Str.ofString "meetings", 42), (Str.ofString "bad_pair", 43), (Str.ofString "can_read", 44), (Str.ofString "is_paper", 45), (Str.ofString "shows_paper", 46), (Str.ofString "count_below", 47), (Str.ofString "fewest_states", 48), (Str.ofString "made_reader", 49), (Str.ofString "reader_for", 50), (Str.ofString "joined_answer", 51), (Str.ofString "both", 52), (Str.ofString "inside", 53), (Str.ofString "all_rows", 54), (Str.ofString "count_readable", 55), (Str.ofString "write_row", 56), (Str.ofString "need_names", 57), (Str.ofString "read_row", 58), (Str.ofString "words_of", 59), (Str.ofString "write_question", 60), (Str.ofString "trap_of", 61), (Str.ofString "trap", 62), (Str.ofString "is_trap", 63), (Str.ofString "shows_trap", 64), (Str.ofString "trap_rows", 65), (Str.ofString "_law_ring", 66), (Str.ofString "law", 67), (Str.ofString "lots_below", 68)]
def con : List (Str × D) := [(Str.ofString "MOST_STATES", (.int 6)), (Str.ofString "MOST_NAMES", (.int 3)), (Str.ofString "MOST_PATH", (.int 2000)), (Str.ofString "CLOSE", (.int (-1))), (Str.ofString "MOST_ROW", (.int 2000)), (Str.ofString "MOST_DEPTH", (.int 40)), (Str.ofString "MOST_COUNTED", (.int 3)), (Str.ofString "SIGNS", (.str (PySem.Str.ofString "abc"))), (Str.ofString "ROUND", (.int 60)), (Str.ofString "MOST_PART", (.int 20))]
def exc : List Str := [Str.ofString "MarkError", Str.ofString "BadQuestion", Str.ofString "BadReader", Str.ofString "BadManner", Str.ofString "BadRow", Str.ofString "BadForest", Str.ofString "BadNumber", Str.ofString "BadWord", Str.ofString "BadTrap", Str.ofString "BadText", Str.ofString "TooMany"]
def Γ : Gb := { fns := fns, con := con, arity := fun f => match prog[f]? with | some d => (d.npar, d.dfl.length) | none => (0, 0), tup := tup, exc := exc, gsc := [(defScope (top 17)).names, (defScope (top 18)).names, (defScope (top 20)).names, (defScope (top 49)).names, (defScope (top 69)).names, (defScope (top 95)).names] }
structure De where
  name : String
  ti : Nat
  N : List Str
  ps : List Str
def des : List De := [⟨"is_number", 16, ["value", "low", "high"], ["value", "low", "high"]⟩,
  ⟨"are_steps", 17, ["steps", "step", "state"], ["steps"]⟩,
  ⟨"need_question", 18, ["value", "steps", "marks", "one"], ["value"]⟩,
  ⟨"names_of", 19, ["question"], ["question"]⟩,
  ⟨"is_path", 20, ["names", "value", "name"], ["names", "value"]⟩,
  ⟨"led", 21, ["question", "state", "path", "name"], ["question", "state", "path"]⟩,
  ⟨"answered", 22, ["question", "path"], ["question", "path"]⟩,
  ⟨"ways_of", 23, ["question", "found", "layer", "later", "state", "name", "there"], ["question"]⟩,
  ⟨"lots_by", 24, ["question", "steps", "marks", "lots", "many", "rows", "there", "state", "step", "known", "row"], ["question"]⟩,
  ⟨"least_of", 25, ["question", "steps", "marks", "lots", "firsts", "spots", "rows", "at", "row", "there", "state"], ["question"]⟩,
  ⟨"lots_below", 26, ["question", "known", "step"], ["question"]⟩,
  ⟨"below_lots", 27, ["question"], ["question"]⟩,
  ⟨"parting_path", 28, ["question", "one", "other", "found", "layer", "later", "pair", "name", "there"], ["question", "one", "other"]⟩,
  ⟨"wrong_tag", 33, ["names", "value", "depth", "place", "tag"], ["names", "value"]⟩,
  ⟨"need_row", 34, ["names", "value", "wrong", "place"], ["names", "value"]⟩,
  ⟨"open_path", 35, ["row", "found", "tag"], ["row"]⟩,
  ⟨"left_open", 36, ["question", "row"], ["question", "row"]⟩,
  ⟨"due_in", 37, ["question", "row", "stack", "found", "tag"], ["question", "row"]⟩,
  ⟨"answers_due", 38, ["question", "row"], ["question", "row"]⟩,
  ⟨"marks_in", 39, ["names", "value", "deep", "most", "found", "mark", "inner"], ["names", "value", "deep", "most"]⟩,
  ⟨"need_forest", 40, ["names", "value"], ["names", "value"]⟩,
  ⟨"forest_of", 41, ["row", "stack", "names", "place", "tag", "inner"], ["row"]⟩,
  ⟨"told_forest", 42, ["question", "forest"], ["question", "forest"]⟩,
  ⟨"told_from", 43, ["question", "forest", "above", "found", "name", "inner", "here"], ["question", "forest", "above"]⟩,
  ⟨"need_manner", 46, ["value"], ["value"]⟩,
  ⟨"width", 47, ["names", "manner"], ["names", "manner"]⟩,
  ⟨"is_opening", 48, ["states", "value"], ["states", "value"]⟩,
  ⟨"need_reader", 49, ["names", "manner", "value", "most", "opens", "closes", "row", "pair", "state"], ["names", "manner", "value", "most"]⟩,
  ⟨"need_all", 50, ["question", "manner", "reader"], ["question", "manner", "reader"]⟩,
  ⟨"closed", 51, ["reader", "state", "name", "row"], ["reader", "state", "name"]⟩,
  ⟨"shorten", 53, ["best", "key", "size", "how"], ["best", "key", "size", "how"]⟩,
  ⟨"whole_marks", 54, ["reader", "names", "many", "best", "grown", "state", "one", "other", "size", "_", "first", "name", "goal", "mid", "here", "more"], ["reader", "names"]⟩,
  ⟨"whole_row", 55, ["best", "pair", "how"], ["best", "pair"]⟩,
  ⟨"places", 56, ["question", "reader", "whole", "best", "grown", "state", "mine", "size", "_", "here", "other", "more", "name", "there", "goal"], ["question", "reader", "whole"]⟩,
  ⟨"place_row", 57, ["best", "whole", "pair", "how", "ahead"], ["best", "whole", "pair"]⟩,
  ⟨"fault_of", 58, ["question", "reader", "whole", "best", "found", "state", "mine", "size", "_", "name", "there", "pair"], ["question", "reader"]⟩,
  ⟨"fault", 59, ["question", "manner", "reader"], ["question", "manner", "reader"]⟩,
  ⟨"is_right", 60, ["question", "manner", "reader", "whole", "state", "mine", "name", "there"], ["question", "manner", "reader"]⟩,
  ⟨"next_pairs", 62, ["question", "manner", "pair", "found", "one", "there", "other", "here"], ["question", "manner", "pair"]⟩,
  ⟨"words_to_meet", 63, ["question", "manner", "pair", "found", "layer", "later", "here", "one", "other", "there"], ["question", "manner", "pair"]⟩,
  ⟨"pairs_meeting", 64, ["question", "manner", "many", "pairs", "one", "other", "pair"], ["question", "manner"]⟩,
  ⟨"need_two", 65, ["question", "manner"], ["question", "manner"]⟩,
  ⟨"meetings", 66, ["question", "manner"], ["question", "manner"]⟩,
  ⟨"bad_pair", 67, ["question", "manner", "lots", "one", "other"], ["question", "manner"]⟩,
  ⟨"can_read", 68, ["question", "manner"], ["question", "manner"]⟩,
  ⟨"is_paper", 69, ["question", "manner", "value", "part", "way", "other", "word", "mate", "below", "least"], ["question", "manner", "value"]⟩,
  ⟨"shows_paper", 70, ["question", "manner", "value"], ["question", "manner", "value"]⟩,
  ⟨"count_below", 71, ["question", "manner", "least"], ["question", "manner"]⟩,
  ⟨"fewest_states", 72, ["question", "manner"], ["question", "manner"]⟩,
  ⟨"made_reader", 73, ["question", "manner", "lots", "opens", "closes", "lot", "state", "there", "row", "above", "step", "name"], ["question", "manner"]⟩,
  ⟨"reader_for", 74, ["question", "manner", "least"], ["question", "manner"]⟩,
  ⟨"joined_answer", 78, ["word", "one", "other"], ["word", "one", "other"]⟩,
  ⟨"both", 79, ["one", "other", "word", "pairs", "spots", "rows", "at", "mine", "its", "row", "name", "there", "marks", "least"], ["one", "other", "word"]⟩,
  ⟨"inside", 80, ["question", "name", "steps", "marks", "many", "first", "order", "state", "spots", "rows", "there"], ["question", "name"]⟩,
  ⟨"all_rows", 81, ["many", "length", "found", "_", "row", "one"], ["many", "length"]⟩,
  ⟨"count_readable", 82, ["states", "names", "counts", "flat", "steps", "state", "marks", "least"], ["states", "names"]⟩,
  ⟨"write_row", 85, ["row", "tag"], ["row"]⟩,
  ⟨"need_names", 86, ["value"], ["value"]⟩,
  ⟨"read_row", 87, ["names", "text", "tags", "depth", "place", "sign"], ["names", "text"]⟩,
  ⟨"words_of", 88, ["numbers", "number"], ["numbers"]⟩,
  ⟨"write_question", 89, ["question", "found", "state", "step"], ["question"]⟩,
  ⟨"trap_of", 93, ["question", "pair", "word", "ways", "state", "far", "below"], ["question"]⟩,
  ⟨"trap", 94, ["question", "least"], ["question"]⟩,
  ⟨"is_trap", 95, ["question", "value", "part", "way", "word", "below"], ["question", "value"]⟩,
  ⟨"shows_trap", 96, ["question", "value"], ["question", "value"]⟩,
  ⟨"trap_rows", 97, ["question", "value", "states", "way", "word", "below", "back"], ["question", "value", "states"]⟩,
  ⟨"_law_ring", 99, ["_law_states", "_law_state"], ["_law_states"]⟩,
  ⟨"law", 100, ["_law_script", "_law_row", "_law_own", "_law_above", "_law_even", "_law_told", "_law_question", "_law_plain", "_law_many"], ["_law_script"]⟩,
  ⟨"lots_below_t", 26, ["question", "known", "step"], ["question"]⟩]
end MiK

namespace MiK
open PySem PySem.Spec PyProof.Rows L2 Mi MiS
def ss : List Sl := [⟨[(Str.ofString "value"), (Str.ofString "low"), (Str.ofString "high")], [(Str.ofString "value"), (Str.ofString "low"), (Str.ofString "high")]⟩,
  ⟨[(Str.ofString "steps"), (Str.ofString "step"), (Str.ofString "state")], [(Str.ofString "steps")]⟩,
  ⟨[(Str.ofString "value"), (Str.ofString "steps"), (Str.ofString "marks"), (Str.ofString "one")], [(Str.ofString "value")]⟩,
  ⟨[(Str.ofString "question")], [(Str.ofString "question")]⟩,
  ⟨[(Str.ofString "names"), (Str.ofString "value"), (Str.ofString "name")], [(Str.ofString "names"), (Str.ofString "value")]⟩,
  ⟨[(Str.ofString "question"), (Str.ofString "state"), (Str.ofString "path"), (Str.ofString "name")], [(Str.ofString "question"), (Str.ofString "state"), (Str.ofString "path")]⟩,
  ⟨[(Str.ofString "question"), (Str.ofString "path")], [(Str.ofString "question"), (Str.ofString "path")]⟩,
  ⟨[(Str.ofString "question"), (Str.ofString "found"), (Str.ofString "layer"), (Str.ofString "later"), (Str.ofString "state"), (Str.ofString "name"), (Str.ofString "there")], [(Str.ofString "question")]⟩,
  ⟨[(Str.ofString "question"), (Str.ofString "steps"), (Str.ofString "marks"), (Str.ofString "lots"), (Str.ofString "many"), (Str.ofString "rows"), (Str.ofString "there"), (Str.ofString "state"), (Str.ofString "step"), (Str.ofString "known"), (Str.ofString "row")], [(Str.ofString "question")]⟩,
  ⟨[(Str.ofString "question"), (Str.ofString "steps"), (Str.ofString "marks"), (Str.ofString "lots"), (Str.ofString "firsts"), (Str.ofString "spots"), (Str.ofString "rows"), (Str.ofString "at"), (Str.ofString "row"), (Str.ofString "there"), (Str.ofString "state")], [(Str.ofString "question")]⟩,
  ⟨[(Str.ofString "question"), (Str.ofString "known"), (Str.ofString "step")], [(Str.ofString "question")]⟩,
  ⟨[(Str.ofString "question")], [(Str.ofString "question")]⟩,
  ⟨[(Str.ofString "question"), (Str.ofString "one"), (Str.ofString "other"), (Str.ofString "found"), (Str.ofString "layer"), (Str.ofString "later"), (Str.ofString "pair"), (Str.ofString "name"), (Str.ofString "there")], [(Str.ofString "question"), (Str.ofString "one"), (Str.ofString "other")]⟩,
  ⟨[(Str.ofString "names"), (Str.ofString "value"), (Str.ofString "depth"), (Str.ofString "place"), (Str.ofString "tag")], [(Str.ofString "names"), (Str.ofString "value")]⟩,
  ⟨[(Str.ofString "names"), (Str.ofString "value"), (Str.ofString "wrong"), (Str.ofString "place")], [(Str.ofString "names"), (Str.ofString "value")]⟩,
  ⟨[(Str.ofString "row"), (Str.ofString "found"), (Str.ofString "tag")], [(Str.ofString "row")]⟩,
  ⟨[(Str.ofString "question"), (Str.ofString "row")], [(Str.ofString "question"), (Str.ofString "row")]⟩,
  ⟨[(Str.ofString "question"), (Str.ofString "row"), (Str.ofString "stack"), (Str.ofString "found"), (Str.ofString "tag")], [(Str.ofString "question"), (Str.ofString "row")]⟩,
  ⟨[(Str.ofString "question"), (Str.ofString "row")], [(Str.ofString "question"), (Str.ofString "row")]⟩,
  ⟨[(Str.ofString "names"), (Str.ofString "value"), (Str.ofString "deep"), (Str.ofString "most"), (Str.ofString "found"), (Str.ofString "mark"), (Str.ofString "inner")], [(Str.ofString "names"), (Str.ofString "value"), (Str.ofString "deep"), (Str.ofString "most")]⟩,
  ⟨[(Str.ofString "names"), (Str.ofString "value")], [(Str.ofString "names"), (Str.ofString "value")]⟩,
  ⟨[(Str.ofString "row"), (Str.ofString "stack"), (Str.ofString "names"), (Str.ofString "place"), (Str.ofString "tag"), (Str.ofString "inner")], [(Str.ofString "row")]⟩,
  ⟨[(Str.ofString "question"), (Str.ofString "forest")], [(Str.ofString "question"), (Str.ofString "forest")]⟩,
  ⟨[(Str.ofString "question"), (Str.ofString "forest"), (Str.ofString "above"), (Str.ofString "found"), (Str.ofString "name"), (Str.ofString "inner"), (Str.ofString "here")], [(Str.ofString "question"), (Str.ofString "forest"), (Str.ofString "above")]⟩,
  ⟨[(Str.ofString "value")], [(Str.ofString "value")]⟩,
  ⟨[(Str.ofString "names"), (Str.ofString "manner")], [(Str.ofString "names"), (Str.ofString "manner")]⟩,
  ⟨[(Str.ofString "states"), (Str.ofString "value")], [(Str.ofString "states"), (Str.ofString "value")]⟩,
  ⟨[(Str.ofString "names"), (Str.ofString "manner"), (Str.ofString "value"), (Str.ofString "most"), (Str.ofString "opens"), (Str.ofString "closes"), (Str.ofString "row"), (Str.ofString "pair"), (Str.ofString "state")], [(Str.ofString "names"), (Str.ofString "manner"), (Str.ofString "value"), (Str.ofString "most")]⟩,
  ⟨[(Str.ofString "question"), (Str.ofString "manner"), (Str.ofString "reader")], [(Str.ofString "question"), (Str.ofString "manner"), (Str.ofString "reader")]⟩,
  ⟨[(Str.ofString "reader"), (Str.ofString "state"), (Str.ofString "name"), (Str.ofString "row")], [(Str.ofString "reader"), (Str.ofString "state"), (Str.ofString "name")]⟩,
  ⟨[(Str.ofString "best"), (Str.ofString "key"), (Str.ofString "size"), (Str.ofString "how")], [(Str.ofString "best"), (Str.ofString "key"), (Str.ofString "size"), (Str.ofString "how")]⟩,
  ⟨[(Str.ofString "reader"), (Str.ofString "names"), (Str.ofString "many"), (Str.ofString "best"), (Str.ofString "grown"), (Str.ofString "state"), (Str.ofString "one"), (Str.ofString "other"), (Str.ofString "size"), (Str.ofString "_"), (Str.ofString "first"), (Str.ofString "name"), (Str.ofString "goal"), (Str.ofString "mid"), (Str.ofString "here"), (Str.ofString "more")], [(Str.ofString "reader"), (Str.ofString "names")]⟩,
  ⟨[(Str.ofString "best"), (Str.ofString "pair"), (Str.ofString "how")], [(Str.ofString "best"), (Str.ofString "pair")]⟩,
  ⟨[(Str.ofString "question"), (Str.ofString "reader"), (Str.ofString "whole"), (Str.ofString "best"), (Str.ofString "grown"), (Str.ofString "state"), (Str.ofString "mine"), (Str.ofString "size"), (Str.ofString "_"), (Str.ofString "here"), (Str.ofString "other"), (Str.ofString "more"), (Str.ofString "name"), (Str.ofString "there"), (Str.ofString "goal")], [(Str.ofString "question"), (Str.ofString "reader"), (Str.ofString "whole")]⟩,
  ⟨[(Str.ofString "best"), (Str.ofString "whole"), (Str.ofString "pair"), (Str.ofString "how"), (Str.ofString "ahead")], [(Str.ofString "best"), (Str.ofString "whole"), (Str.ofString "pair")]⟩,
  ⟨[(Str.ofString "question"), (Str.ofString "reader"), (Str.ofString "whole"), (Str.ofString "best"), (Str.ofString "found"), (Str.ofString "state"), (Str.ofString "mine"), (Str.ofString "size"), (Str.ofString "_"), (Str.ofString "name"), (Str.ofString "there"), (Str.ofString "pair")], [(Str.ofString "question"), (Str.ofString "reader")]⟩,
  ⟨[(Str.ofString "question"), (Str.ofString "manner"), (Str.ofString "reader")], [(Str.ofString "question"), (Str.ofString "manner"), (Str.ofString "reader")]⟩,
  ⟨[(Str.ofString "question"), (Str.ofString "manner"), (Str.ofString "reader"), (Str.ofString "whole"), (Str.ofString "state"), (Str.ofString "mine"), (Str.ofString "name"), (Str.ofString "there")], [(Str.ofString "question"), (Str.ofString "manner"), (Str.ofString "reader")]⟩,
  ⟨[(Str.ofString "question"), (Str.ofString "manner"), (Str.ofString "pair"), (Str.ofString "found"), (Str.ofString "one"), (Str.ofString "there"), (Str.ofString "other"), (Str.ofString "here")], [(Str.ofString "question"), (Str.ofString "manner"), (Str.ofString "pair")]⟩,
  ⟨[(Str.ofString "question"), (Str.ofString "manner"), (Str.ofString "pair"), (Str.ofString "found"), (Str.ofString "layer"), (Str.ofString "later"), (Str.ofString "here"), (Str.ofString "one"), (Str.ofString "other"), (Str.ofString "there")], [(Str.ofString "question"), (Str.ofString "manner"), (Str.ofString "pair")]⟩,
  ⟨[(Str.ofString "question"), (Str.ofString "manner"), (Str.ofString "many"), (Str.ofString "pairs"), (Str.ofString "one"), (Str.ofString "other"), (Str.ofString "pair")], [(Str.ofString "question"), (Str.ofString "manner")]⟩,
  ⟨[(Str.ofString "question"), (Str.ofString "manner")], [(Str.ofString "question"), (Str.ofString "manner")]⟩,
  ⟨[(Str.ofString "question"), (Str.ofString "manner")], [(Str.ofString "question"), (Str.ofString "manner")]⟩,
  ⟨[(Str.ofString "question"), (Str.ofString "manner"), (Str.ofString "lots"), (Str.ofString "one"), (Str.ofString "other")], [(Str.ofString "question"), (Str.ofString "manner")]⟩,
  ⟨[(Str.ofString "question"), (Str.ofString "manner")], [(Str.ofString "question"), (Str.ofString "manner")]⟩,
  ⟨[(Str.ofString "question"), (Str.ofString "manner"), (Str.ofString "value"), (Str.ofString "part"), (Str.ofString "way"), (Str.ofString "other"), (Str.ofString "word"), (Str.ofString "mate"), (Str.ofString "below"), (Str.ofString "least")], [(Str.ofString "question"), (Str.ofString "manner"), (Str.ofString "value")]⟩,
  ⟨[(Str.ofString "question"), (Str.ofString "manner"), (Str.ofString "value")], [(Str.ofString "question"), (Str.ofString "manner"), (Str.ofString "value")]⟩,
  ⟨[(Str.ofString "question"), (Str.ofString "manner"), (Str.ofString "least")], [(Str.ofString "question"), (Str.ofString "manner")]⟩,
  ⟨[(Str.ofString "question"), (Str.ofString "manner")], [(Str.ofString "question"), (Str.ofString "manner")]⟩,
  ⟨[(Str.ofString "question"), (Str.ofString "manner"), (Str.ofString "lots"), (Str.ofString "opens"), (Str.ofString "closes"), (Str.ofString "lot"), (Str.ofString "state"), (Str.ofString "there"), (Str.ofString "row"), (Str.ofString "above"), (Str.ofString "step"), (Str.ofString "name")], [(Str.ofString "question"), (Str.ofString "manner")]⟩,
  ⟨[(Str.ofString "question"), (Str.ofString "manner"), (Str.ofString "least")], [(Str.ofString "question"), (Str.ofString "manner")]⟩,
  ⟨[(Str.ofString "word"), (Str.ofString "one"), (Str.ofString "other")], [(Str.ofString "word"), (Str.ofString "one"), (Str.ofString "other")]⟩,
  ⟨[(Str.ofString "one"), (Str.ofString "other"), (Str.ofString "word"), (Str.ofString "pairs"), (Str.ofString "spots"), (Str.ofString "rows"), (Str.ofString "at"), (Str.ofString "mine"), (Str.ofString "its"), (Str.ofString "row"), (Str.ofString "name"), (Str.ofString "there"), (Str.ofString "marks"), (Str.ofString "least")], [(Str.ofString "one"), (Str.ofString "other"), (Str.ofString "word")]⟩,
  ⟨[(Str.ofString "question"), (Str.ofString "name"), (Str.ofString "steps"), (Str.ofString "marks"), (Str.ofString "many"), (Str.ofString "first"), (Str.ofString "order"), (Str.ofString "state"), (Str.ofString "spots"), (Str.ofString "rows"), (Str.ofString "there")], [(Str.ofString "question"), (Str.ofString "name")]⟩,
  ⟨[(Str.ofString "many"), (Str.ofString "length"), (Str.ofString "found"), (Str.ofString "_"), (Str.ofString "row"), (Str.ofString "one")], [(Str.ofString "many"), (Str.ofString "length")]⟩,
  ⟨[(Str.ofString "states"), (Str.ofString "names"), (Str.ofString "counts"), (Str.ofString "flat"), (Str.ofString "steps"), (Str.ofString "state"), (Str.ofString "marks"), (Str.ofString "least")], [(Str.ofString "states"), (Str.ofString "names")]⟩,
  ⟨[(Str.ofString "row"), (Str.ofString "tag")], [(Str.ofString "row")]⟩,
  ⟨[(Str.ofString "value")], [(Str.ofString "value")]⟩,
  ⟨[(Str.ofString "names"), (Str.ofString "text"), (Str.ofString "tags"), (Str.ofString "depth"), (Str.ofString "place"), (Str.ofString "sign")], [(Str.ofString "names"), (Str.ofString "text")]⟩,
  ⟨[(Str.ofString "numbers"), (Str.ofString "number")], [(Str.ofString "numbers")]⟩,
  ⟨[(Str.ofString "question"), (Str.ofString "found"), (Str.ofString "state"), (Str.ofString "step")], [(Str.ofString "question")]⟩,
  ⟨[(Str.ofString "question"), (Str.ofString "pair"), (Str.ofString "word"), (Str.ofString "ways"), (Str.ofString "state"), (Str.ofString "far"), (Str.ofString "below")], [(Str.ofString "question")]⟩,
  ⟨[(Str.ofString "question"), (Str.ofString "least")], [(Str.ofString "question")]⟩,
  ⟨[(Str.ofString "question"), (Str.ofString "value"), (Str.ofString "part"), (Str.ofString "way"), (Str.ofString "word"), (Str.ofString "below")], [(Str.ofString "question"), (Str.ofString "value")]⟩,
  ⟨[(Str.ofString "question"), (Str.ofString "value")], [(Str.ofString "question"), (Str.ofString "value")]⟩,
  ⟨[(Str.ofString "question"), (Str.ofString "value"), (Str.ofString "states"), (Str.ofString "way"), (Str.ofString "word"), (Str.ofString "below"), (Str.ofString "back")], [(Str.ofString "question"), (Str.ofString "value"), (Str.ofString "states")]⟩,
  ⟨[(Str.ofString "_law_states"), (Str.ofString "_law_state")], [(Str.ofString "_law_states")]⟩,
  ⟨[(Str.ofString "_law_script"), (Str.ofString "_law_row"), (Str.ofString "_law_own"), (Str.ofString "_law_above"), (Str.ofString "_law_even"), (Str.ofString "_law_told"), (Str.ofString "_law_question"), (Str.ofString "_law_plain"), (Str.ofString "_law_many")], [(Str.ofString "_law_script")]⟩,
  ⟨[(Str.ofString "question"), (Str.ofString "known"), (Str.ofString "step")], [(Str.ofString "question")]⟩]
end MiK

namespace MiK
open PySem PySem.Spec PyProof.Rows L2 Mi MiS
section
variable {K : PySem.W.Frag}
theorem bp_is_number : BindP K D_is_number d_is_number [(Str.ofString "value"), (Str.ofString "low"), (Str.ofString "high")] := bind0 rfl rfl fun _ _ _ _ _ _ us hl => match us, hl with | [_, _, _], _ => by kernel_rfl
theorem bp_are_steps : BindP K D_are_steps d_are_steps [(Str.ofString "steps")] := bind0 rfl rfl fun _ _ _ _ _ _ us hl => match us, hl with | [_], _ => by kernel_rfl
theorem bp_need_question : BindP K D_need_question d_need_question [(Str.ofString "value")] := bind0 rfl rfl fun _ _ _ _ _ _ us hl => match us, hl with | [_], _ => by kernel_rfl
theorem bp_names_of : BindP K D_names_of d_names_of [(Str.ofString "question")] := bind0 rfl rfl fun _ _ _ _ _ _ us hl => match us, hl with | [_], _ => by kernel_rfl
theorem bp_is_path : BindP K D_is_path d_is_path [(Str.ofString "names"), (Str.ofString "value")] := bind0 rfl rfl fun _ _ _ _ _ _ us hl => match us, hl with | [_, _], _ => by kernel_rfl
theorem bp_led : BindP K D_led d_led [(Str.ofString "question"), (Str.ofString "state"), (Str.ofString "path")] := bind0 rfl rfl fun _ _ _ _ _ _ us hl => match us, hl with | [_, _, _], _ => by kernel_rfl
theorem bp_answered : BindP K D_answered d_answered [(Str.ofString "question"), (Str.ofString "path")] := bind0 rfl rfl fun _ _ _ _ _ _ us hl => match us, hl with | [_, _], _ => by kernel_rfl
theorem bp_ways_of : BindP K D_ways_of d_ways_of [(Str.ofString "question")] := bind0 rfl rfl fun _ _ _ _ _ _ us hl => match us, hl with | [_], _ => by kernel_rfl
theorem bp_lots_by : BindP K D_lots_by d_lots_by [(Str.ofString "question")] := bind0 rfl rfl fun _ _ _ _ _ _ us hl => match us, hl with | [_], _ => by kernel_rfl
theorem bp_least_of : BindP K D_least_of d_least_of [(Str.ofString "question")] := bind0 rfl rfl fun _ _ _ _ _ _ us hl => match us, hl with | [_], _ => by kernel_rfl
theorem bp_lots_below : BindP K D_lots_below d_lots_below [(Str.ofString "question")] := bind0 rfl rfl fun _ _ _ _ _ _ us hl => match us, hl with | [_], _ => by kernel_rfl
theorem bp_below_lots : BindP K D_below_lots d_below_lots [(Str.ofString "question")] := bind0 rfl rfl fun _ _ _ _ _ _ us hl => match us, hl with | [_], _ => by kernel_rfl
theorem bp_parting_path : BindP K D_parting_path d_parting_path [(Str.ofString "question"), (Str.ofString "one"), (Str.ofString "other")] := bind0 rfl rfl fun _ _ _ _ _ _ us hl => match us, hl with | [_, _, _], _ => by kernel_rfl
theorem bp_wrong_tag : BindP K D_wrong_tag d_wrong_tag [(Str.ofString "names"), (Str.ofString "value")] := bind0 rfl rfl fun _ _ _ _ _ _ us hl => match us, hl with | [_, _], _ => by kernel_rfl
theorem bp_need_row : BindP K D_need_row d_need_row [(Str.ofString "names"), (Str.ofString "value")] := bind0 rfl rfl fun _ _ _ _ _ _ us hl => match us, hl with | [_, _], _ => by kernel_rfl
theorem bp_open_path : BindP K D_open_path d_open_path [(Str.ofString "row")] := bind0 rfl rfl fun _ _ _ _ _ _ us hl => match us, hl with | [_], _ => by kernel_rfl
theorem bp_left_open : BindP K D_left_open d_left_open [(Str.ofString "question"), (Str.ofString "row")] := bind0 rfl rfl fun _ _ _ _ _ _ us hl => match us, hl with | [_, _], _ => by kernel_rfl
theorem bp_due_in : BindP K D_due_in d_due_in [(Str.ofString "question"), (Str.ofString "row")] := bind0 rfl rfl fun _ _ _ _ _ _ us hl => match us, hl with | [_, _], _ => by kernel_rfl
theorem bp_answers_due : BindP K D_answers_due d_answers_due [(Str.ofString "question"), (Str.ofString "row")] := bind0 rfl rfl fun _ _ _ _ _ _ us hl => match us, hl with | [_, _], _ => by kernel_rfl
theorem bp_marks_in : BindP K D_marks_in d_marks_in [(Str.ofString "names"), (Str.ofString "value"), (Str.ofString "deep"), (Str.ofString "most")] := bind0 rfl rfl fun _ _ _ _ _ _ us hl => match us, hl with | [_, _, _, _], _ => by kernel_rfl
theorem bp_need_forest : BindP K D_need_forest d_need_forest [(Str.ofString "names"), (Str.ofString "value")] := bind0 rfl rfl fun _ _ _ _ _ _ us hl => match us, hl with | [_, _], _ => by kernel_rfl
theorem bp_forest_of : BindP K D_forest_of d_forest_of [(Str.ofString "row")] := bind0 rfl rfl fun _ _ _ _ _ _ us hl => match us, hl with | [_], _ => by kernel_rfl
theorem bp_told_forest : BindP K D_told_forest d_told_forest [(Str.ofString "question"), (Str.ofString "forest")] := bind0 rfl rfl fun _ _ _ _ _ _ us hl => match us, hl with | [_, _], _ => by kernel_rfl
theorem bp_told_from : BindP K D_told_from d_told_from [(Str.ofString "question"), (Str.ofString "forest"), (Str.ofString "above")] := bind0 rfl rfl fun _ _ _ _ _ _ us hl => match us, hl with | [_, _, _], _ => by kernel_rfl
theorem bp_need_manner : BindP K D_need_manner d_need_manner [(Str.ofString "value")] := bind0 rfl rfl fun _ _ _ _ _ _ us hl => match us, hl with | [_], _ => by kernel_rfl
theorem bp_width : BindP K D_width d_width [(Str.ofString "names"), (Str.ofString "manner")] := bind0 rfl rfl fun _ _ _ _ _ _ us hl => match us, hl with | [_, _], _ => by kernel_rfl
theorem bp_is_opening : BindP K D_is_opening d_is_opening [(Str.ofString "states"), (Str.ofString "value")] := bind0 rfl rfl fun _ _ _ _ _ _ us hl => match us, hl with | [_, _], _ => by kernel_rfl
theorem bp_need_reader : BindP K D_need_reader d_need_reader [(Str.ofString "names"), (Str.ofString "manner"), (Str.ofString "value"), (Str.ofString "most")] := bind1 (n := 3) (v := .int 6) (dv := .int 6) rfl rfl (fun _ _ => .int _) rfl rfl (fun _ _ _ _ _ _ _ us _ hl => match us, hl with | [_, _, _], _ => ⟨_, by rfl, by rfl⟩) fun _ _ _ _ _ _ _ us _ hl => match us, hl with | [_, _, _, _], _ => ⟨_, by rfl, by rfl⟩
theorem bp_need_all : BindP K D_need_all d_need_all [(Str.ofString "question"), (Str.ofString "manner"), (Str.ofString "reader")] := bind0 rfl rfl fun _ _ _ _ _ _ us hl => match us, hl with | [_, _, _], _ => by kernel_rfl
theorem bp_closed : BindP K D_closed d_closed [(Str.ofString "reader"), (Str.ofString "state"), (Str.ofString "name")] := bind0 rfl rfl fun _ _ _ _ _ _ us hl => match us, hl with | [_, _, _], _ => by kernel_rfl
theorem bp_shorten : BindP K D_shorten d_shorten [(Str.ofString "best"), (Str.ofString "key"), (Str.ofString "size"), (Str.ofString "how")] := bind0 rfl rfl fun _ _ _ _ _ _ us hl => match us, hl with | [_, _, _, _], _ => by kernel_rfl
theorem bp_whole_marks : BindP K D_whole_marks d_whole_marks [(Str.ofString "reader"), (Str.ofString "names")] := bind0 rfl rfl fun _ _ _ _ _ _ us hl => match us, hl with | [_, _], _ => by kernel_rfl
theorem bp_whole_row : BindP K D_whole_row d_whole_row [(Str.ofString "best"), (Str.ofString "pair")] := bind0 rfl rfl fun _ _ _ _ _ _ us hl => match us, hl with | [_, _], _ => by kernel_rfl
theorem bp_places : BindP K D_places d_places [(Str.ofString "question"), (Str.ofString "reader"), (Str.ofString "whole")] := bind0 rfl rfl fun _ _ _ _ _ _ us hl => match us, hl with | [_, _, _], _ => by kernel_rfl
theorem bp_place_row : BindP K D_place_row d_place_row [(Str.ofString "best"), (Str.ofString "whole"), (Str.ofString "pair")] := bind0 rfl rfl fun _ _ _ _ _ _ us hl => match us, hl with | [_, _, _], _ => by kernel_rfl
theorem bp_fault_of : BindP K D_fault_of d_fault_of [(Str.ofString "question"), (Str.ofString "reader")] := bind0 rfl rfl fun _ _ _ _ _ _ us hl => match us, hl with | [_, _], _ => by kernel_rfl
theorem bp_fault : BindP K D_fault d_fault [(Str.ofString "question"), (Str.ofString "manner"), (Str.ofString "reader")] := bind0 rfl rfl fun _ _ _ _ _ _ us hl => match us, hl with | [_, _, _], _ => by kernel_rfl
theorem bp_is_right : BindP K D_is_right d_is_right [(Str.ofString "question"), (Str.ofString "manner"), (Str.ofString "reader")] := bind0 rfl rfl fun _ _ _ _ _ _ us hl => match us, hl with | [_, _, _], _ => by kernel_rfl
theorem bp_next_pairs : BindP K D_next_pairs d_next_pairs [(Str.ofString "question"), (Str.ofString "manner"), (Str.ofString "pair")] := bind0 rfl rfl fun _ _ _ _ _ _ us hl => match us, hl with | [_, _, _], _ => by kernel_rfl
theorem bp_words_to_meet : BindP K D_words_to_meet d_words_to_meet [(Str.ofString "question"), (Str.ofString "manner"), (Str.ofString "pair")] := bind0 rfl rfl fun _ _ _ _ _ _ us hl => match us, hl with | [_, _, _], _ => by kernel_rfl
theorem bp_pairs_meeting : BindP K D_pairs_meeting d_pairs_meeting [(Str.ofString "question"), (Str.ofString "manner")] := bind0 rfl rfl fun _ _ _ _ _ _ us hl => match us, hl with | [_, _], _ => by kernel_rfl
theorem bp_need_two : BindP K D_need_two d_need_two [(Str.ofString "question"), (Str.ofString "manner")] := bind0 rfl rfl fun _ _ _ _ _ _ us hl => match us, hl with | [_, _], _ => by kernel_rfl
theorem bp_meetings : BindP K D_meetings d_meetings [(Str.ofString "question"), (Str.ofString "manner")] := bind0 rfl rfl fun _ _ _ _ _ _ us hl => match us, hl with | [_, _], _ => by kernel_rfl
theorem bp_bad_pair : BindP K D_bad_pair d_bad_pair [(Str.ofString "question"), (Str.ofString "manner")] := bind0 rfl rfl fun _ _ _ _ _ _ us hl => match us, hl with | [_, _], _ => by kernel_rfl
theorem bp_can_read : BindP K D_can_read d_can_read [(Str.ofString "question"), (Str.ofString "manner")] := bind0 rfl rfl fun _ _ _ _ _ _ us hl => match us, hl with | [_, _], _ => by kernel_rfl
theorem bp_is_paper : BindP K D_is_paper d_is_paper [(Str.ofString "question"), (Str.ofString "manner"), (Str.ofString "value")] := bind0 rfl rfl fun _ _ _ _ _ _ us hl => match us, hl with | [_, _, _], _ => by kernel_rfl
theorem bp_shows_paper : BindP K D_shows_paper d_shows_paper [(Str.ofString "question"), (Str.ofString "manner"), (Str.ofString "value")] := bind0 rfl rfl fun _ _ _ _ _ _ us hl => match us, hl with | [_, _, _], _ => by kernel_rfl
theorem bp_count_below : BindP K D_count_below d_count_below [(Str.ofString "question"), (Str.ofString "manner")] := bind0 rfl rfl fun _ _ _ _ _ _ us hl => match us, hl with | [_, _], _ => by kernel_rfl
theorem bp_fewest_states : BindP K D_fewest_states d_fewest_states [(Str.ofString "question"), (Str.ofString "manner")] := bind0 rfl rfl fun _ _ _ _ _ _ us hl => match us, hl with | [_, _], _ => by kernel_rfl
theorem bp_made_reader : BindP K D_made_reader d_made_reader [(Str.ofString "question"), (Str.ofString "manner")] := bind0 rfl rfl fun _ _ _ _ _ _ us hl => match us, hl with | [_, _], _ => by kernel_rfl
theorem bp_reader_for : BindP K D_reader_for d_reader_for [(Str.ofString "question"), (Str.ofString "manner")] := bind0 rfl rfl fun _ _ _ _ _ _ us hl => match us, hl with | [_, _], _ => by kernel_rfl
theorem bp_joined_answer : BindP K D_joined_answer d_joined_answer [(Str.ofString "word"), (Str.ofString "one"), (Str.ofString "other")] := bind0 rfl rfl fun _ _ _ _ _ _ us hl => match us, hl with | [_, _, _], _ => by kernel_rfl
theorem bp_both : BindP K D_both d_both [(Str.ofString "one"), (Str.ofString "other"), (Str.ofString "word")] := bind0 rfl rfl fun _ _ _ _ _ _ us hl => match us, hl with | [_, _, _], _ => by kernel_rfl
theorem bp_inside : BindP K D_inside d_inside [(Str.ofString "question"), (Str.ofString "name")] := bind0 rfl rfl fun _ _ _ _ _ _ us hl => match us, hl with | [_, _], _ => by kernel_rfl
theorem bp_all_rows : BindP K D_all_rows d_all_rows [(Str.ofString "many"), (Str.ofString "length")] := bind0 rfl rfl fun _ _ _ _ _ _ us hl => match us, hl with | [_, _], _ => by kernel_rfl
theorem bp_count_readable : BindP K D_count_readable d_count_readable [(Str.ofString "states"), (Str.ofString "names")] := bind0 rfl rfl fun _ _ _ _ _ _ us hl => match us, hl with | [_, _], _ => by kernel_rfl
theorem bp_write_row : BindP K D_write_row d_write_row [(Str.ofString "row")] := bind0 rfl rfl fun _ _ _ _ _ _ us hl => match us, hl with | [_], _ => by kernel_rfl
theorem bp_need_names : BindP K D_need_names d_need_names [(Str.ofString "value")] := bind0 rfl rfl fun _ _ _ _ _ _ us hl => match us, hl with | [_], _ => by kernel_rfl
theorem bp_read_row : BindP K D_read_row d_read_row [(Str.ofString "names"), (Str.ofString "text")] := bind0 rfl rfl fun _ _ _ _ _ _ us hl => match us, hl with | [_, _], _ => by kernel_rfl
theorem bp_words_of : BindP K D_words_of d_words_of [(Str.ofString "numbers")] := bind0 rfl rfl fun _ _ _ _ _ _ us hl => match us, hl with | [_], _ => by kernel_rfl
theorem bp_write_question : BindP K D_write_question d_write_question [(Str.ofString "question")] := bind0 rfl rfl fun _ _ _ _ _ _ us hl => match us, hl with | [_], _ => by kernel_rfl
theorem bp_trap_of : BindP K D_trap_of d_trap_of [(Str.ofString "question")] := bind0 rfl rfl fun _ _ _ _ _ _ us hl => match us, hl with | [_], _ => by kernel_rfl
theorem bp_trap : BindP K D_trap d_trap [(Str.ofString "question")] := bind0 rfl rfl fun _ _ _ _ _ _ us hl => match us, hl with | [_], _ => by kernel_rfl
theorem bp_is_trap : BindP K D_is_trap d_is_trap [(Str.ofString "question"), (Str.ofString "value")] := bind0 rfl rfl fun _ _ _ _ _ _ us hl => match us, hl with | [_, _], _ => by kernel_rfl
theorem bp_shows_trap : BindP K D_shows_trap d_shows_trap [(Str.ofString "question"), (Str.ofString "value")] := bind0 rfl rfl fun _ _ _ _ _ _ us hl => match us, hl with | [_, _], _ => by kernel_rfl
theorem bp_trap_rows : BindP K D_trap_rows d_trap_rows [(Str.ofString "question"), (Str.ofString "value"), (Str.ofString "states")] := bind0 rfl rfl fun _ _ _ _ _ _ us hl => match us, hl with | [_, _, _], _ => by kernel_rfl
theorem bp__law_ring : BindP K D__law_ring d__law_ring [(Str.ofString "_law_states")] := bind0 rfl rfl fun _ _ _ _ _ _ us hl => match us, hl with | [_], _ => by kernel_rfl
theorem bp_law : BindP K D_law d_law [(Str.ofString "_law_script")] := bind0 rfl rfl fun _ _ _ _ _ _ us hl => match us, hl with | [_], _ => by kernel_rfl
theorem bp_lots_below_t : BindP K D_lots_below_t d_lots_below_t [(Str.ofString "question")] := bind0 rfl rfl fun _ _ _ _ _ _ us hl => match us, hl with | [_], _ => by kernel_rfl
theorem binds : ∀ (f : Nat) (Df : He.DefD) (d : FD) (s : Sl), fn[f]? = some Df → prog[f]? = some d → ss[f]? = some s → BindP K Df d s.ps
  | 0, _, _, _, e1, e2, e3 => by
    cases e1; cases e2; cases e3; exact bp_is_number
  | 1, _, _, _, e1, e2, e3 => by
    cases e1; cases e2; cases e3; exact bp_are_steps
  | 2, _, _, _, e1, e2, e3 => by
    cases e1; cases e2; cases e3; exact bp_need_question
  | 3, _, _, _, e1, e2, e3 => by
    cases e1; cases e2; cases e3; exact bp_names_of
  | 4, _, _, _, e1, e2, e3 => by
    cases e1; cases e2; cases e3; exact bp_is_path
  | 5, _, _, _, e1, e2, e3 => by
    cases e1; cases e2; cases e3; exact bp_led
  | 6, _, _, _, e1, e2, e3 => by
    cases e1; cases e2; cases e3; exact bp_answered
  | 7, _, _, _, e1, e2, e3 => by
    cases e1; cases e2; cases e3; exact bp_ways_of
  | 8, _, _, _, e1, e2, e3 => by
    cases e1; cases e2; cases e3; exact bp_lots_by
  | 9, _, _, _, e1, e2, e3 => by
    cases e1; cases e2; cases e3; exact bp_least_of
  | 10, _, _, _, e1, e2, e3 => by
    cases e1; cases e2; cases e3; exact bp_lots_below
  | 11, _, _, _, e1, e2, e3 => by
    cases e1; cases e2; cases e3; exact bp_below_lots
  | 12, _, _, _, e1, e2, e3 => by
    cases e1; cases e2; cases e3; exact bp_parting_path
  | 13, _, _, _, e1, e2, e3 => by
    cases e1; cases e2; cases e3; exact bp_wrong_tag
  | 14, _, _, _, e1, e2, e3 => by
    cases e1; cases e2; cases e3; exact bp_need_row
  | 15, _, _, _, e1, e2, e3 => by
    cases e1; cases e2; cases e3; exact bp_open_path
  | 16, _, _, _, e1, e2, e3 => by
    cases e1; cases e2; cases e3; exact bp_left_open
  | 17, _, _, _, e1, e2, e3 => by
    cases e1; cases e2; cases e3; exact bp_due_in
  | 18, _, _, _, e1, e2, e3 => by
    cases e1; cases e2; cases e3; exact bp_answers_due
  | 19, _, _, _, e1, e2, e3 => by
    cases e1; cases e2; cases e3; exact bp_marks_in
  | 20, _, _, _, e1, e2, e3 => by
    cases e1; cases e2; cases e3; exact bp_need_forest
  | 21, _, _, _, e1, e2, e3 => by
    cases e1; cases e2; cases e3; exact bp_forest_of
  | 22, _, _, _, e1, e2, e3 => by
    cases e1; cases e2; cases e3; exact bp_told_forest
  | 23, _, _, _, e1, e2, e3 => by
    cases e1; cases e2; cases e3; exact bp_told_from
  | 24, _, _, _, e1, e2, e3 => by
    cases e1; cases e2; cases e3; exact bp_need_manner
  | 25, _, _, _, e1, e2, e3 => by
    cases e1; cases e2; cases e3; exact bp_width
  | 26, _, _, _, e1, e2, e3 => by
    cases e1; cases e2; cases e3; exact bp_is_opening
  | 27, _, _, _, e1, e2, e3 => by
    cases e1; cases e2; cases e3; exact bp_need_reader
  | 28, _, _, _, e1, e2, e3 => by
    cases e1; cases e2; cases e3; exact bp_need_all
  | 29, _, _, _, e1, e2, e3 => by
    cases e1; cases e2; cases e3; exact bp_closed
  | 30, _, _, _, e1, e2, e3 => by
    cases e1; cases e2; cases e3; exact bp_shorten
  | 31, _, _, _, e1, e2, e3 => by
    cases e1; cases e2; cases e3; exact bp_whole_marks
  | 32, _, _, _, e1, e2, e3 => by
    cases e1; cases e2; cases e3; exact bp_whole_row
  | 33, _, _, _, e1, e2, e3 => by
    cases e1; cases e2; cases e3; exact bp_places
  | 34, _, _, _, e1, e2, e3 => by
    cases e1; cases e2; cases e3; exact bp_place_row
  | 35, _, _, _, e1, e2, e3 => by
    cases e1; cases e2; cases e3; exact bp_fault_of
  | 36, _, _, _, e1, e2, e3 => by
    cases e1; cases e2; cases e3; exact bp_fault
  | 37, _, _, _, e1, e2, e3 => by
    cases e1; cases e2; cases e3; exact bp_is_right
  | 38, _, _, _, e1, e2, e3 => by
    cases e1; cases e2; cases e3; exact bp_next_pairs
  | 39, _, _, _, e1, e2, e3 => by
    cases e1; cases e2; cases e3; exact bp_words_to_meet
  | 40, _, _, _, e1, e2, e3 => by
    cases e1; cases e2; cases e3; exact bp_pairs_meeting
  | 41, _, _, _, e1, e2, e3 => by
    cases e1; cases e2; cases e3; exact bp_need_two
  | 42, _, _, _, e1, e2, e3 => by
    cases e1; cases e2; cases e3; exact bp_meetings
  | 43, _, _, _, e1, e2, e3 => by
    cases e1; cases e2; cases e3; exact bp_bad_pair
  | 44, _, _, _, e1, e2, e3 => by
    cases e1; cases e2; cases e3; exact bp_can_read
  | 45, _, _, _, e1, e2, e3 => by
    cases e1; cases e2; cases e3; exact bp_is_paper
  | 46, _, _, _, e1, e2, e3 => by
    cases e1; cases e2; cases e3; exact bp_shows_paper
  | 47, _, _, _, e1, e2, e3 => by
    cases e1; cases e2; cases e3; exact bp_count_below
  | 48, _, _, _, e1, e2, e3 => by
    cases e1; cases e2; cases e3; exact bp_fewest_states
  | 49, _, _, _, e1, e2, e3 => by
    cases e1; cases e2; cases e3; exact bp_made_reader
  | 50, _, _, _, e1, e2, e3 => by
    cases e1; cases e2; cases e3; exact bp_reader_for
  | 51, _, _, _, e1, e2, e3 => by
    cases e1; cases e2; cases e3; exact bp_joined_answer
  | 52, _, _, _, e1, e2, e3 => by
    cases e1; cases e2; cases e3; exact bp_both
  | 53, _, _, _, e1, e2, e3 => by
    cases e1; cases e2; cases e3; exact bp_inside
  | 54, _, _, _, e1, e2, e3 => by
    cases e1; cases e2; cases e3; exact bp_all_rows
  | 55, _, _, _, e1, e2, e3 => by
    cases e1; cases e2; cases e3; exact bp_count_readable
  | 56, _, _, _, e1, e2, e3 => by
    cases e1; cases e2; cases e3; exact bp_write_row
  | 57, _, _, _, e1, e2, e3 => by
    cases e1; cases e2; cases e3; exact bp_need_names
  | 58, _, _, _, e1, e2, e3 => by
    cases e1; cases e2; cases e3; exact bp_read_row
  | 59, _, _, _, e1, e2, e3 => by
    cases e1; cases e2; cases e3; exact bp_words_of
  | 60, _, _, _, e1, e2, e3 => by
    cases e1; cases e2; cases e3; exact bp_write_question
  | 61, _, _, _, e1, e2, e3 => by
    cases e1; cases e2; cases e3; exact bp_trap_of
  | 62, _, _, _, e1, e2, e3 => by
    cases e1; cases e2; cases e3; exact bp_trap
  | 63, _, _, _, e1, e2, e3 => by
    cases e1; cases e2; cases e3; exact bp_is_trap
  | 64, _, _, _, e1, e2, e3 => by
    cases e1; cases e2; cases e3; exact bp_shows_trap
  | 65, _, _, _, e1, e2, e3 => by
    cases e1; cases e2; cases e3; exact bp_trap_rows
  | 66, _, _, _, e1, e2, e3 => by
    cases e1; cases e2; cases e3; exact bp__law_ring
  | 67, _, _, _, e1, e2, e3 => by
    cases e1; cases e2; cases e3; exact bp_law
  | 68, _, _, _, e1, e2, e3 => by
    cases e1; cases e2; cases e3; exact bp_lots_below_t
  | _ + 69, _, _, _, e1, _, _ => by cases e1
end
end MiK

set_option maxHeartbeats 0
namespace MiK
open PySem L2 Mi MiS
abbrev wf : Nat := 50
theorem law_ok (ns : List Int) : ∃ st, callN prog wf 20 f_law [.val (.list (ns.map .int))] [] = .ok (.val (.bool true)) st := ⟨[], by kernel_rfl⟩
end MiK

set_option maxHeartbeats 0
namespace MiK
open PySem PySem.Spec PyProof.Rows L2 Mi MiS
theorem bn : namesB Γ fa = true := by decide +kernel
theorem ba : allB Γ tf fn prog ss = true := by decide +kernel
theorem bf : fnsB Γ fa fn prog = true := by decide +kernel
theorem fn_law : fn[f_law]? = some D_law := by kernel_rfl
theorem prog_law : prog[f_law]? = some d_law := by kernel_rfl
theorem ss_law : ss[f_law]? = some ⟨((ss[f_law]?).getD ⟨[], []⟩).N, ["_law_script"]⟩ := by kernel_rfl
theorem len_law : f_law < prog.length := by decide +kernel
theorem glo_law : gloIn fa (Str.ofString "law") = true := by decide +kernel
theorem npar_law : 1 = d_law.npar := by kernel_rfl
theorem at_law (K : PySem.W.Frag) : He.fAd K D_law.at_ = He.ga K (Str.ofString "law") := rfl
theorem bind_law : ∀ (kV doc pm : Value) (an : Option Addr) (cdv ct : Value) (us : List Value), us.length = (["_law_script"] : List Str).length → bindArgs (PySem.W.fnOf D_law.name D_law.qual D_law.params D_law.body D_law.scope .none kV doc pm an cdv ct) ⟨us, []⟩ = pure ((["_law_script"] : List Str).zip us) := fun _ _ _ _ _ _ us hl => match us, hl with | [_], _ => by kernel_rfl
theorem dvs_law (K : PySem.W.Frag) : D_law.dvs K = [] := by kernel_rfl
theorem law_at {w : World} {mg : Str → Option Value} {f0 : Addr} {h : Heap} {K : PySem.W.Frag} (X : K.In h) (G : h.Ns mainGlobals mg) (hfa : mg (Str.ofString "law") = some (.ref f0)) (c : He.SaysX fa fn [] tf (exB Γ) w h K) :
    LamX.LawAtS PySem.Challenge.rw_markspass_k11_known_questions w K CX0 (2 * 20) 63 "_law_script" mg f0 h :=
  law_gen (x := "_law_script") fn_law prog_law ss_law len_law glo_law at_law dvs_law npar_law bind_law bn ba bf (fun K => binds (K := K)) law_ok X G hfa c
end MiK
open PySem PySem.W PySem.Calls PyProof.Rows
theorem PySem.Challenge.cw_markspass_k11_known_questions_holds : PySem.Challenge.rw_markspass_k11_known_questions.Holds := by
  w_on; o_law
  refine HandSHeadRun.head_any (r := OpenLaw.row PySem.Challenge.rw_markspass_k11_known_questions) (q := view (OpenLaw.row PySem.Challenge.rw_markspass_k11_known_questions).prog [MiK.TI]) (H := MiK.hk) (ob := MiK.ob) (M := 6000) (loose := MiK.loose) (d := HandSHeadRun.topDef (OpenLaw.row PySem.Challenge.rw_markspass_k11_known_questions).prog MiK.TI) (kwd := []) MiK.ob_eq
    (by kernel_rfl) (fun s => by kernel_rfl) MiK.run (by kernel_rfl) (by kernel_rfl) (by kernel_rfl) (by rfl) (by first | assumption | decide +kernel) (by decide +kernel) ⟨rfl, rfl, rfl, rfl, rfl, by decide +kernel⟩ ?hw ?hc
  case hw => w_witness2
  case hc =>
    refine LamX.walk_ofTsE (l := PySem.Challenge.rw_markspass_k11_known_questions) (n := 63) (k := 40) (x := "_law_script") (CX := fun _ => L2.CX0) rfl (by decide) (by kernel_rfl) ⟨rfl, by decide, by decide⟩ ?F (fun _ _ _ _ _ z => z)
    intro w mg fa h Y G hmg0
    obtain ⟨K, KX, c⟩ := Y
    have hmg : mg ("law" : PySem.Str) = some (.ref fa) := by
      have e : (HandSHeadRun.topDef (OpenLaw.row PySem.Challenge.rw_markspass_k11_known_questions).prog MiK.TI).name = ("law" : PySem.Str) := by kernel_rfl
      rw [← e]
      exact hmg0
    exact ⟨K, KX, MiK.law_at KX G hmg c⟩

