import PyProof.Rows.All
import Wide.All
import OpenK.AllK
import Wide.FinOn
import KE.KStateDown
import Lean
import HandS.ForMost
import HandS.Exc
import HandS.Defaults
import HandS.Head0
import HandS.Head1
import HandS.Head2
import HandS.HeadEnd
import HandS.HeadHook1
import HandS.HeadHook2
import HandS.SortInts
import HandS.SetFor
import HandS.Strs
import KE.KDictPairs
import PyProof.Rows.SetFrom
import HandS.More
import HandS.Style
import HandS.TupAny
import HandS.TupLe
import HandS.Zip
import HandS.IsInst
import PySem.Challenge.RW_wetfolds_k79_whole_inked_lots_beside_fol
set_option Elab.async false
set_option linter.all false
set_option maxRecDepth 100000
set_option maxHeartbeats 0
namespace K79
open PySem PySem.Spec PyProof.Rows L2
def topS (i : Nat) : Stmt := PySem.Challenge.pw_wetfolds_k79_whole_inked_lots_beside_fol.main.body.getD i (.Pass ⟨0, 0, 0, 0⟩)
abbrev s_is_whole : Stmt := topS 13
abbrev s_is_tuple_of : Stmt := topS 14
abbrev s_fits_place : Stmt := topS 15
abbrev s_fits_drops : Stmt := topS 16
abbrev s_fits_strip : Stmt := topS 17
abbrev s_fits_crease : Stmt := topS 18
abbrev s_fits_folds : Stmt := topS 19
abbrev s_strip_of : Stmt := topS 20
abbrev s_added : Stmt := topS 21
abbrev s_mirrored : Stmt := topS 22
abbrev s_need_strip : Stmt := topS 23
abbrev s_need_folds : Stmt := topS 24
abbrev s_need_place : Stmt := topS 25
abbrev s_folded_at : Stmt := topS 28
abbrev s_strips_on : Stmt := topS 29
abbrev s_need_strips : Stmt := topS 30
abbrev s_folded_by : Stmt := topS 31
abbrev s_steps_in : Stmt := topS 33
abbrev s_sums_of : Stmt := topS 34
abbrev s_print_by : Stmt := topS 35
abbrev s_print_of : Stmt := topS 36
abbrev s_fits_lot : Stmt := topS 42
abbrev s_inked : Stmt := topS 43
abbrev s_all_sums : Stmt := topS 44
abbrev s_sums_in : Stmt := topS 45
abbrev s_are_alike : Stmt := topS 46
abbrev s_need_lot : Stmt := topS 47
abbrev s_need_few_folds : Stmt := topS 48
abbrev s_inked_by : Stmt := topS 49
abbrev s_sums_by : Stmt := topS 50
abbrev s_alike_by_places : Stmt := topS 51
abbrev s_form_in : Stmt := topS 53
abbrev s_are_one : Stmt := topS 55
abbrev s_rows_alike : Stmt := topS 56
abbrev s_greatest_in : Stmt := topS 58
abbrev s_greatest_lot : Stmt := topS 59
abbrev s_comes_of_some : Stmt := topS 60
abbrev s_grown : Stmt := topS 63
abbrev s_can_reach : Stmt := topS 64
abbrev s_steps_behind : Stmt := topS 65
abbrev s_longer_on : Stmt := topS 66
abbrev s_tuples_of : Stmt := topS 67
abbrev s_shortest_to : Stmt := topS 68
abbrev s_goal_of : Stmt := topS 69
abbrev s_fewest_folds : Stmt := topS 70
abbrev s_holes_in : Stmt := topS 72
abbrev s_holes_of : Stmt := topS 73
abbrev s_inks_whole : Stmt := topS 74
abbrev s_need_some_folds : Stmt := topS 76
abbrev s_odd_ways : Stmt := topS 77
abbrev s_usual_count : Stmt := topS 78
abbrev s_unusual_places : Stmt := topS 79
abbrev s_law_cup : Stmt := topS 81
abbrev s_law_roll : Stmt := topS 82
abbrev s_law_some : Stmt := topS 83
abbrev s_law_tidy : Stmt := topS 84
abbrev s_law_fold : Stmt := topS 85
abbrev s_law_folded : Stmt := topS 86
abbrev s_law_steps : Stmt := topS 88
abbrev s_law_folds : Stmt := topS 92
abbrev s_law_some_folds : Stmt := topS 93
abbrev s_law_like_row : Stmt := topS 97
abbrev s_law_inked : Stmt := topS 98
abbrev s_law_lot : Stmt := topS 99
abbrev s_law_sums : Stmt := topS 100
abbrev s_law_lot_right : Stmt := topS 101
abbrev s_law_counts_right : Stmt := topS 102
abbrev s_law_pair_right : Stmt := topS 103
abbrev s_law : Stmt := topS 104
abbrev mkD (x : Str) (s : Stmt) : He.DefD := ⟨(x, none), x, x, defArgs s, defBody s, defScope s, [], []⟩
def fnP0 : List He.DefD := [mkD "is_whole" s_is_whole, mkD "is_tuple_of" s_is_tuple_of, mkD "fits_place" s_fits_place, mkD "fits_drops" s_fits_drops, mkD "fits_strip" s_fits_strip, mkD "fits_crease" s_fits_crease, mkD "fits_folds" s_fits_folds, mkD "strip_of" s_strip_of, mkD "added" s_added, mkD "mirrored" s_mirrored, mkD "need_strip" s_need_strip, mkD "need_folds" s_need_folds, mkD "need_place" s_need_place, mkD "folded_at" s_folded_at, mkD "strips_on" s_strips_on, mkD "need_strips" s_need_strips]
def fnP1 : List He.DefD := [mkD "folded_by" s_folded_by, mkD "steps_in" s_steps_in, mkD "sums_of" s_sums_of, mkD "print_by" s_print_by, mkD "print_of" s_print_of, mkD "fits_lot" s_fits_lot, mkD "inked" s_inked, mkD "all_sums" s_all_sums, mkD "sums_in" s_sums_in, mkD "are_alike" s_are_alike, mkD "need_lot" s_need_lot, mkD "need_few_folds" s_need_few_folds, mkD "inked_by" s_inked_by, mkD "sums_by" s_sums_by, mkD "alike_by_places" s_alike_by_places, mkD "form_in" s_form_in]
def fnP2 : List He.DefD := [mkD "are_one" s_are_one, mkD "rows_alike" s_rows_alike, mkD "greatest_in" s_greatest_in, mkD "greatest_lot" s_greatest_lot, mkD "comes_of_some" s_comes_of_some, mkD "grown" s_grown, mkD "can_reach" s_can_reach, mkD "steps_behind" s_steps_behind, mkD "longer_on" s_longer_on, mkD "tuples_of" s_tuples_of, mkD "shortest_to" s_shortest_to, mkD "goal_of" s_goal_of, mkD "fewest_folds" s_fewest_folds, mkD "holes_in" s_holes_in, mkD "holes_of" s_holes_of, mkD "inks_whole" s_inks_whole]
def fnP3 : List He.DefD := [mkD "need_some_folds" s_need_some_folds, mkD "odd_ways" s_odd_ways, mkD "usual_count" s_usual_count, mkD "unusual_places" s_unusual_places, mkD "_law_cup" s_law_cup, mkD "_law_roll" s_law_roll, mkD "_law_some" s_law_some, mkD "_law_tidy" s_law_tidy, mkD "_law_fold" s_law_fold, mkD "_law_folded" s_law_folded, mkD "_law_steps" s_law_steps, mkD "_law_folds" s_law_folds, mkD "_law_some_folds" s_law_some_folds, mkD "_law_like_row" s_law_like_row, mkD "_law_inked" s_law_inked, mkD "_law_lot" s_law_lot]
def fnP4 : List He.DefD := [mkD "_law_sums" s_law_sums, mkD "_law_lot_right" s_law_lot_right, mkD "_law_counts_right" s_law_counts_right, mkD "_law_pair_right" s_law_pair_right, mkD "law" s_law]
def fnAll : List He.DefD := fnP0 ++ (fnP1 ++ (fnP2 ++ (fnP3 ++ (fnP4))))
def faG : List He.Fa := [.glo "is_whole", .glo "is_tuple_of", .glo "fits_place", .glo "fits_drops", .glo "fits_strip", .glo "fits_crease", .glo "fits_folds", .glo "strip_of", .glo "added", .glo "mirrored", .glo "need_strip", .glo "need_folds", .glo "need_place", .glo "folded_at", .glo "strips_on", .glo "need_strips", .glo "folded_by", .glo "steps_in", .glo "sums_of", .glo "print_by", .glo "print_of", .glo "fits_lot", .glo "inked", .glo "all_sums", .glo "sums_in", .glo "are_alike", .glo "need_lot", .glo "need_few_folds", .glo "inked_by", .glo "sums_by"]
def faG2 : List He.Fa := [.glo "alike_by_places", .glo "form_in", .glo "are_one", .glo "rows_alike", .glo "greatest_in", .glo "greatest_lot", .glo "comes_of_some", .glo "grown", .glo "can_reach", .glo "steps_behind", .glo "longer_on", .glo "tuples_of", .glo "shortest_to", .glo "goal_of", .glo "fewest_folds", .glo "holes_in", .glo "holes_of", .glo "inks_whole", .glo "need_some_folds", .glo "odd_ways", .glo "usual_count", .glo "unusual_places", .glo "_law_cup", .glo "_law_roll", .glo "_law_some", .glo "_law_tidy", .glo "_law_fold", .glo "_law_folded", .glo "_law_steps", .glo "_law_folds", .glo "_law_some_folds", .glo "_law_like_row", .glo "_law_inked", .glo "_law_lot", .glo "_law_sums", .glo "_law_lot_right", .glo "_law_counts_right", .glo "_law_pair_right", .glo "law"]
def faB : List He.Fa := [.free "len", .free "zip", .free "sorted", .free "set", .free "dict", .free "tuple", .free "list", .free "abs", .free "all", .free "isinstance", .free "range", .free "int", .free "bool", .free "max"]
def faI : List He.Fa := [.int "FARTHEST_strips" 1000000000, .int "CREASE" 1000000, .int "PAIRS" 200, .int "FOLDS_strips" 12, .int "MOST_folding" 10000, .int "PLACES" 256, .int "FARTHEST_inkedplaces" 100000, .int "MOST_inkedplaces" 10000, .int "FOLDS_inkedplaces" 8, .int "STEPS" 7]
def faAll : List He.Fa := faG ++ (faG2 ++ (faB ++ faI))
def lo0 : List Str := ["__name__", "FoldError", "InvalidStrip", "InvalidFolds", "InvalidPlace", "TooMany", "NoFolds", "InvalidLot", "FARTHEST_strips", "CREASE", "PAIRS", "FOLDS_strips", "is_whole", "is_tuple_of", "fits_place", "fits_drops", "fits_strip", "fits_crease", "fits_folds", "strip_of", "added", "mirrored", "need_strip", "need_folds", "need_place", "MOST_folding", "folded_at", "strips_on", "need_strips", "folded_by"]
def lo1 : List Str := ["steps_in", "sums_of", "print_by", "print_of", "PLACES", "FARTHEST_inkedplaces", "MOST_inkedplaces", "FOLDS_inkedplaces", "fits_lot", "inked", "all_sums", "sums_in", "are_alike", "need_lot", "need_few_folds", "inked_by", "sums_by", "alike_by_places", "form_in", "are_one", "rows_alike", "greatest_in", "greatest_lot", "comes_of_some", "STEPS", "grown", "can_reach", "steps_behind", "longer_on", "tuples_of"]
def lo2 : List Str := ["shortest_to", "goal_of", "fewest_folds", "holes_in", "holes_of", "inks_whole", "need_some_folds", "odd_ways", "usual_count", "unusual_places", "_law_cup", "_law_roll", "_law_some", "_law_tidy", "_law_fold", "_law_folded", "_law_print", "_law_steps", "_law_form", "_law_place", "_law_together", "_law_folds", "_law_some_folds", "_law_strip", "_law_strip_on", "_law_own_mirror", "_law_like_row", "_law_inked", "_law_lot", "_law_sums"]
def lo3 : List Str := ["_law_lot_right", "_law_counts_right", "_law_pair_right"]
def loAll : List Str := lo0 ++ (lo1 ++ (lo2 ++ (lo3)))
abbrev RR : PySem.W.OpenRow := PySem.W.OpenLaw.row PySem.Challenge.rw_wetfolds_k79_whole_inked_lots_beside_fol
abbrev hk : PySem.W.Hook := He.hookD 4 faAll fnAll
def ob (s : PySem.W.SharedT) : He.AlD := He.obsDG 4 faAll fnAll (HandSHeadRun.getT s)
theorem ob_eq (s : PySem.W.SharedT) : ob s = hk.obs s.abs := He.obsDG_eq (HandSHeadRun.getT_eq s)
theorem run (w : World) : HandSHeadRun.RunEq RR (PySem.W.view RR.prog [104]) hk ob 6000 loAll w := by
  intro os
  kernel_rfl
end K79

set_option Elab.async false
set_option linter.all false
set_option maxRecDepth 100000
set_option maxHeartbeats 4000000
namespace L2.K79
open PySem PySem.Spec PyProof.Rows L2

/-! ### set(xs) of a list of ints -/
section
variable {P : Program} {w : World} {A : Around} {E : Value → Shared → Prop} {s : Shared}
abbrev freshS (w : World) : Obj := { cls := .type "set", dict := none, data := .set #[] 0 (.fresh 0 0 (!w.params.followText "set-order")) }
abbrev heapS (w : World) (h : Heap) : Heap := h.push (freshS w)
theorem heapS_old {h : Heap} {b : Addr} {o : Obj} (e : h.get? b = some o) : (heapS w h).get? b = some o := Heap.get?_push_of_some _ e
theorem heapS_size (h : Heap) : (heapS w h).objs.size = h.objs.size + 1 := Heap.size_push ..
set_option maxHeartbeats 3200000 in
theorem call_set_lstI {l : Addr} {items : Array Value} (ns : List Int) {Q : Value → Shared → Prop} (hh : A.handled = none) (hl : s.heap.IsList l items) (hit : IntsAre items.toList ns) (hb : ns.length + 1 < scanBound)
    (h : ∀ (h' : Heap) (tk c : Nat), SetR w h' s.heap.objs.size (fun j => decide (j ∈ ns)) c → c ≤ ns.length → (∀ b o, s.heap.get? b = some o → h'.get? b = some o) → Q (.ref s.heap.objs.size) { s with heap := h', toks := tk }) :
    wpAny (model P w) A (call (.type "set") [.ref l]) Q E s := by
  have size_eq : items.size = ns.length := by
    have z := IntsAre.length hit
    rwa [Array.length_toList] at z
  have m1 := F.called_set.mro
  obtain ⟨c0, t0, m2⟩ := m1
  have made := F.called_set.made
  have subs := F.called_set.sub
  refine wpAny_call (codeAny_of_tree ?_)
  show wpAny _ _ (callAny (.type "set") _) _ _ _
  refine wpAny_pure ⟨Code.quiet_builtin _ (by decide +kernel), codeAny_builtin F.entry_type_call ?_⟩
  rw [Around.under_plain (weight_type_call_type "set" [.ref l] []) rfl]
  have n1 := F.called_set.notType
  have n2 := F.called_set.canCreate
  have n3 := F.typeCall_set_1 (.ref l)
  repeat (any_goals (first | assumption | wp_step))
  refine codeAny_mono (code_set_led1 (.ref l) (E := E) (Q₁ := fun ob s₁ => ob = .ref s.heap.objs.size ∧ s₁ = { s with heap := heapS w s.heap }) ⟨rfl, rfl⟩) fun r s₁ hr => ?_
  cases r with
  | error e => exact hr
  | ok fl =>
    cases fl with
    | ret ob =>
      obtain ⟨rfl, rfl⟩ := hr
      have newAt : (heapS w s.heap).get? s.heap.objs.size = some (freshS w) := Heap.get?_push_size _ rfl
      have isSet : Shared.TypeIs { s with heap := heapS w s.heap } (.ref s.heap.objs.size) "set" := ⟨_, newAt, rfl⟩
      have li := F.called_set.init.lookup
      have bi := F.called_set.init.bind (.ref s.heap.objs.size)
      repeat (any_goals (first | assumption | wp_step))
      refine codeAny_mono (codeAny_call_builtin (R := wants (fun r s₂ => r = .none ∧ ∃ h' tk c, s₂ = { s with heap := h', toks := tk } ∧ SetR w h' s.heap.objs.size (fun j => decide (j ∈ ns)) c ∧ c ≤ ns.length ∧
          (∀ b o, s.heap.get? b = some o → h'.get? b = some o)) E) F.called_set.init.plain F.entry_set_init (check_set_init_1 isSet ?_)) fun r₂ s₂ hr₂ => ?_
      · obtain ⟨ol, atL, clsL, nL, datL⟩ := hl
        obtain ⟨oc, od, odat, osl⟩ := ol
        simp only at clsL datL
        subst clsL; subst datL
        have atL' : (heapS w s.heap).get? l = some { cls := .type "list", dict := od, data := .seq items nL, slots := osl } := heapS_old atL
        have sub1 := F.sub_list_set
        have sub2 := F.sub_list_frozenset
        have ld : (Value.type "list" == Value.type "dict") = false := by decide
        have isL : (heapS w s.heap).IsList l items := ⟨_, atL', rfl, nL, rfl⟩
        unfold Builtin.«set.__init__» noKeywords Builtin.Frozenset.updateFrom
        generalize hPI : pyIter = PI
        wp_walk
        subst hPI
        refine wpAny_pyIter_list isL ?_
        refine wpAny_bind (wpAny_runValue ?_)
        have below : l < s.heap.objs.size := Heap.lt_size atL
        have quiet3 : A.in1.in1.in1.handled = none := by simp [hh]
        have apart : l ≠ (heapS w s.heap).objs.size := by
          rw [heapS_size]
          exact Nat.ne_of_lt (Nat.lt_succ_of_lt below)
        have notIn : s.heap.objs.size ∉ [(heapS w s.heap).objs.size, l] := by
          rw [heapS_size]
          intro z
          rcases List.mem_cons.mp z with z | z
          · exact Nat.ne_of_lt (Nat.lt_succ_self _) z
          · exact Nat.ne_of_gt below (List.mem_singleton.mp z)
        have vals : ∀ (i : Nat) (v : Value), items[i]? = some v → ∃ k t, ns[i]? = some k ∧ v = .int k t := fun i v hv => by
          have hi : i < ns.length := by rw [← size_eq]; exact (Array.getElem?_eq_some_iff.mp hv).1
          obtain ⟨t, e⟩ := PyProof.Rows.IntsAre.int_at hit i v (by rw [Array.getElem?_toList]; exact hv)
          refine ⟨ns[i], t, List.getElem?_eq_getElem hi, ?_⟩
          rw [e, List.getD_eq_getElem?_getD, List.getElem?_eq_getElem hi] <;> rfl
        refine set_update_ints ((Walks.list quiet3 _ l apart items).toS) s.heap.objs.size notIn ns size_eq hb vals (items.size - 0) 0 _ (by omega) (Nat.zero_le _)
          ⟨⟨_, Heap.get?_push_size _ rfl, rfl, rfl⟩, (isL.push _)⟩ ⟨0, Nat.le_refl 0, setR_new_at (Heap.get?_push_of_some _ newAt)⟩ ?_
        intro s' c' mv hc' hS'
        obtain ⟨h', g2, d', tk', os'⟩ := s'
        have eg : g2 = s.gens := mv.gens
        have ed : d' = s.drawn := mv.drawn
        have eo : os' = s.os := mv.os
        subst eg; subst ed; subst eo
        show wpAny _ _ _ _ _ _
        refine wpAny_pure ?_
        show wpAny _ _ (ret Value.none) _ _ _
        rw [size_eq] at hc'
        refine wpAny_pure ⟨rfl, h', tk', c', rfl, hS', hc', fun b o e => ?_⟩
        have hb0 : b < s.heap.objs.size := Heap.lt_size e
        refine mv.heap b o (fun z => ?_) (Heap.get?_push_of_some _ (heapS_old e))
        rcases List.mem_cons.mp z with z | z
        · exact Nat.ne_of_lt hb0 z
        · have z2 := List.mem_singleton.mp z
          rw [heapS_size] at z2
          exact Nat.ne_of_lt (Nat.lt_succ_of_lt hb0) z2
      · cases r₂ with
        | error e => exact hr₂
        | ok fl₂ =>
          cases fl₂ with
          | ret r =>
            obtain ⟨rfl, h', tk, c', rfl, hS', hc', hk'⟩ := hr₂
            repeat (any_goals (first | assumption | wp_step))
            exact h _ _ _ hS' hc' hk'
          | _ => exact hr₂.elim
    | _ => exact hr.elim
end
end L2.K79

set_option Elab.async false
set_option linter.all false
set_option maxRecDepth 100000
set_option maxHeartbeats 4000000
namespace L2.K79
open PySem PySem.Spec PyProof.Rows L2


/-! ### sorted of a set, however many; set(..) over the layer -/
section
variable {P : Program} {w : World} {A : Around} {E : Value → Shared → Prop} {s : Shared} {a : Addr}
theorem sorted_set_any {S : Int → Bool} {n : Nat} {Q : Value → Shared → Prop} (R : SetR w s.heap a S n) (hh : A.handled = none)
    (hQ : ∀ s' p (out : List Value) (c : Nat) (ns : List Int), (∀ b o, s.heap.get? b = some o → s'.heap.get? b = some o) → s'.gens = s.gens → s'.os = s.os → s.heap.objs.size ≤ p →
      s'.heap.get? p = some (seqObj "list" out.toArray c) → IntsAre out ns → ns.Pairwise (· < ·) → (∀ k, k ∈ ns ↔ S k = true) → ns.length ≤ sizeLine → Q (.ref p) s') :
    wpAny (model P w) A (call (.builtin "sorted") [.ref a]) Q E s := by
  obtain ⟨o, es, ep, t, ho, hex, hd, g, nd, hm, hb, hf, hn, hr, hl⟩ := R
  refine Calls.call_function_entry kind_sorted plain_sorted entry_sorted (args_sorted1 _) ?_
  unfold Builtin.«sorted»
  refine wpAny_bind (m := checkCount "sorted" 1 1 _) (wpAny_pure ?_)
  refine wpAny_bind (collect_set (A := A.in1) hh ⟨o, ho, hex.1, hd⟩ hf hb hr hl fun s1 vs k1 hz g1 o1 pm => ?_)
  have len : vs.length = es.size := by rw [pm.length_eq, List.length_map, Array.length_toList]
  have isI : ∀ v ∈ vs, ∃ k tk, v = Value.int k tk := fun v hv => by
    obtain ⟨e, he, q⟩ := List.mem_map.mp (pm.mem_iff.mp hv)
    obtain ⟨k, tk, h1, _⟩ := g e he
    exact ⟨k, tk, by rw [← q]; exact h1⟩
  have all : IntsAre vs (vs.map SrtO.iv) := SrtO.ints_iv isI
  have perm : (vs.map SrtO.iv).Perm (es.toList.map keyOf) := by
    have q := pm.map SrtO.iv
    rw [List.map_map] at q
    exact q
  have small : vs.length ≤ sizeLine := by
    rw [len]
    exact fits_of_scanBound hb
  refine wpAny_bind (wpAny_newList ?_ small)
  have atL : (s1.heap.push (seqObj "list" vs.toArray 0)).get? s1.heap.objs.size = some (seqObj "list" vs.toArray 0) := Heap.get?_push_size _ rfl
  refine wpAny_bind (wpAny_holding (wpAny_call_entry slot_list_sort ⟨_, atL, rfl⟩ entry_list_sort (SrtO.list_sort_ord SrtO.swo_int atL small (fun h2 => SrtO.ints_sortable all h2) fun out h1 h2 => ⟨_, rfl, ?_⟩) (args_list_sort _)))
  obtain ⟨k2, k3, k4⟩ := SrtO.ints_out all h1 h2
  obtain ⟨c, hc⟩ := sortedHeap_at (vs := vs) (out := out.toArray) atL
  have pn : (out.map SrtO.iv).Perm (es.toList.map keyOf) := k3.trans perm
  refine wpAny_pure ⟨_, rfl, hQ _ s1.heap.objs.size out c (out.map SrtO.iv) (fun b u e => ?_) g1 o1 hz hc k2 (lt_of_le_nodup _ k4 (pn.nodup_iff.mpr nd)) (fun k => by rw [pn.mem_iff, ← hm k]) ?_⟩
  · have q := k1 b u e
    have lt := Heap.lt_size q
    show (sortedHeap (s1.heap.push (seqObj "list" vs.toArray 0)) s1.heap.objs.size vs out.toArray).get? b = some u
    rw [sortedHeap_old (Nat.ne_of_lt lt) (by rw [size_push']; exact Nat.lt_succ_of_lt lt)]
    exact Heap.get?_push_of_some _ q
  · rw [k3.length_eq, List.length_map]
    exact small
end
section
variable {X : Cx}
def rSortedS (w : World) : List V → Hp → VK → Prop := fun vs H Q => ∃ (a : Addr) (S : Int → Bool) (n : Nat), vs = [V.ref a] ∧ H a = some (SetO w a S n) ∧
  ∀ (ns : List Int) (p : Addr), ns.Pairwise (· < ·) → (∀ k : Int, k ∈ ns ↔ S k = true) → H p = none → Q (.ref p) (upd H p (.lst (ns.map V.int)))
theorem cr_sortedS' (hc : X.calm = true) : CallR X (.builtin "sorted") (rSortedS X.w) := by
  intro pins s σ H vs us Q I r h
  obtain ⟨a, S, n, rfl, ha, q⟩ := h
  rw [Vals.ref1 r]
  refine sorted_set_any (setO_get I ha) (I.ok.hd hc) fun s' p out c ns k g o hp hg hi hs hm hl => ?_
  have none_p : H p = none := I.hok.fresh hp
  have J : Inv X pins σ (upd H p (.lst (ns.map V.int))) { s with heap := s'.heap, gens := s'.gens, drawn := s'.drawn, toks := s'.toks } :=
    I.call (ch := []) (Un.laid k hp none_p) (I.hok.laid k hp ⟨by rw [List.length_map]; exact hl, out, c, vals_of_ints hi, hg⟩) (by rw [g]; exact I.bare) (fun _ z => nomatch z)
  have same : s' = { s with heap := s'.heap, gens := s'.gens, drawn := s'.drawn, toks := s'.toks } := by
    cases s'
    cases s
    cases o
    rfl
  rw [same]
  exact ⟨.ref p, _, J, rfl, q ns p hs hm none_p⟩
/-- set(list or tuple of ints) -/
def rSetI (K : PySem.W.Frag) (w : World) : List V → Hp → VK → Prop := fun vs H Q => ∃ (a : Addr) (ns : List Int), vs = [V.ref a] ∧ (SqL K H a (ns.map V.int) ∨ SqT K H a (ns.map V.int)) ∧ ns.length + 1 < 4096 ∧
  ∀ (p : Addr) (n : Nat), H p = none → Q (.ref p) (upd H p (SetO w p (fun j => decide (j ∈ ns)) n))
theorem cr_setI (hc : X.calm = true) : CallR X (.type "set") (rSetI X.K X.w) := by
  intro pins s σ H vs us Q I r h
  obtain ⟨a, ns, rfl, hs, hb, q⟩ := h
  rw [Vals.ref1 r]
  have fin : ∀ (h' : Heap) (tk c : Nat), SetR X.w h' s.heap.objs.size (fun j => decide (j ∈ ns)) c → c ≤ ns.length → (∀ b o, s.heap.get? b = some o → h'.get? b = some o) → EP X pins σ Q (.ref s.heap.objs.size) { s with heap := h', toks := tk } := fun h' tk c R _ k =>
    ⟨.ref _, _, I.laid (t' := tk) k (Nat.le_refl _) (setO_new R), rfl, q _ c (I.hok.fresh (Nat.le_refl _))⟩
  rcases hs with hs | hs
  · obtain ⟨its, r', pl, hz⟩ := I.list hs
    exact call_set_lstI ns (I.ok.hd hc) pl.isList (by simpa using intsAre_of r') hb fin
  · obtain ⟨its, r', pl, hz⟩ := I.tuple hs
    exact call_set_tupI ns (I.ok.hd hc) pl (by simpa using intsAre_of r') hb fin
/-- tuple(xs): the new object itself is known -/
theorem call_tupleX : CallR X (.type "tuple") (fun xs H Q => ∃ p ys, xs = [.ref p] ∧ SqL X.K H p ys ∧ ∀ l ob, ob.dict = none → H l = none → Q (.ref l) (upd H l (.frz ob (.tup ys)))) := by
  intro pins s σ H xs us Q I r h
  obtain ⟨p, ys, rfl, hq, q⟩ := h
  obtain ⟨u, rfl, rx⟩ := vals1 r
  cases rx
  obtain ⟨its, r', pl, hz⟩ := I.list hq
  have hlen := r'.length
  refine call_tuple_list pl.isList (fun h' kp => ?_) (by simp only [List.size_toArray] <;> omega)
  have I1 : Inv X pins σ H { s with heap := h' } := I.kept (t' := s.toks) kp
  have I2 : Inv X pins σ (upd H h'.objs.size (.frz { cls := .type "tuple", data := .seq its.toArray } (.tup ys))) { s with heap := h'.push { cls := .type "tuple", data := .seq its.toArray } } :=
    I1.laid (t' := s.toks) (fun b o e => Heap.get?_push_of_some _ e) (Nat.le_refl _) (show ObjOk X.prog X.w _ _ _ (.frz _ (.tup ys)) from ⟨Heap.get?_push_size _ rfl, hz, its, r', IsTup.new _ _⟩)
  exact ⟨.ref h'.objs.size, _, I2, rfl, q _ { cls := .type "tuple", data := .seq its.toArray } rfl (I1.hok.fresh (Nat.le_refl _))⟩
/-- dict(t) of a tuple of pairs whose object is known -/
theorem pairs_at {pins : List (Addr × Obj)} {σ : L2.St} {H : Hp} {s : Shared} (I : Inv X pins σ H s) {ps : List Addr} {kvs : List (Key × V)} (h : Paired (fun p kv => SqT X.K H p [kV kv.1, kv.2]) ps kvs) :
    ∃ prs : List (Key × Value), KV kvs prs ∧ prs.length = ps.length ∧ ∀ (j : Nat) (q : Key × Value), prs[j]? = some q → ∃ (b : Addr) (u : Value), ps[j]? = some b ∧ IsTup s.heap b #[u, q.2] ∧ keyIs q.1 u = true := pairs_of I h
theorem call_dictT (hcalm : X.calm = true) : CallR X (.type "dict") (fun xs H Q => ∃ (a : Addr) (ob : Obj) (ps : List Addr) (kvs : List (Key × V)), xs = [.ref a] ∧ H a = some (.frz ob (.tup (ps.map V.ref))) ∧ ob.dict = none ∧ Paired (fun p kv => SqT X.K H p [kV kv.1, kv.2]) ps kvs ∧
    ∀ p, H p = none → Q (.ref p) (upd H p (.dK (mergeK [] kvs)))) := by
  intro pins s σ H xs us Q I r q
  obtain ⟨a, ob, ps, kvs, ex, hq, hd0, hp, q⟩ := q
  subst ex
  obtain ⟨u, eu, rx⟩ := vals1 r
  subst eu
  cases rx
  obtain ⟨e1, hz, its, rv, ⟨o', ho', hc, n, hdat⟩⟩ := I.hok a _ hq
  rw [e1] at ho'
  cases ho'
  have ei := refs_at rv
  subst ei
  rw [List.length_map] at hz
  obtain ⟨prs, rel, hl, hpr⟩ := pairs_of I hp
  -- the pairs as values
  let key : Nat → Value := fun j => match ps[j]? with
    | some b => (match s.heap.get? b with
      | some ⟨_, _, .seq xs _, _⟩ => xs.getD 0 .none
      | _ => .none)
    | none => .none
  let ws : List (Value × Value) := (List.range prs.length).map fun j => (key j, ((prs[j]?).map (·.2)).getD .none)
  have wl : ws.length = prs.length := by simp [ws]
  have wat : ∀ (j : Nat) (k v : Value), ws[j]? = some (k, v) → ∃ (b : Addr) (x : Key × Value), prs[j]? = some x ∧ ps[j]? = some b ∧ IsTup s.heap b #[k, v] ∧ keyIs x.1 k = true ∧ x.2 = v := fun j k v e => by
    have hj : j < prs.length := by rw [← wl]; exact (List.getElem?_eq_some_iff.mp e).1
    obtain ⟨b, u, e1', e2, e3⟩ := hpr j prs[j] (List.getElem?_eq_getElem hj)
    have e4 : ws[j]? = some (key j, ((prs[j]?).map (·.2)).getD .none) := by
      show ((List.range prs.length).map _)[j]? = _
      rw [List.getElem?_map, List.getElem?_range hj]
      rfl
    rw [e4] at e
    have e5 := Option.some.inj e
    rw [List.getElem?_eq_getElem hj] at e5
    have e6 : key j = k := congrArg Prod.fst e5
    have e7 : prs[j].2 = v := congrArg Prod.snd e5
    obtain ⟨oo, ho, hcl, nn, hdd⟩ := id e2
    have e8 : key j = u := by
      show (match ps[j]? with
        | some b => (match s.heap.get? b with
          | some ⟨_, _, .seq xs _, _⟩ => xs.getD 0 .none
          | _ => .none)
        | none => .none) = u
      rw [e1']
      show (match s.heap.get? b with
          | some ⟨_, _, .seq xs _, _⟩ => xs.getD 0 .none
          | _ => .none) = u
      rw [ho]
      obtain ⟨c, dct, dat, sl⟩ := oo
      simp only at hdd
      subst hdd
      rfl
    exact ⟨b, prs[j], List.getElem?_eq_getElem hj, e1', by rw [← e6, e8, ← e7]; exact e2, by rw [← e6, e8]; exact e3, e7⟩
  have okk : PlainSeq "tuple" s.heap a (ps.map Value.ref).toArray ∧ PairItems s.heap (ps.map Value.ref).toArray (fun j => ps.getD j 0) ws := by
    refine ⟨⟨ob, n, e1, hc, hd0, hdat⟩, by simp [wl, hl], fun j k v e => ?_⟩
    obtain ⟨b, x, g1, g2, g3, g4, g5⟩ := wat j k v e
    have g6 : ps.getD j 0 = b := by rw [List.getD_eq_getElem?_getD, g2]; rfl
    refine ⟨?_, ?_⟩
    · show (ps.map Value.ref).toArray[j]? = some (.ref (ps.getD j 0))
      rw [g6]
      simp [g2]
    · show PairAt s.heap (ps.getD j 0) k v
      rw [g6]
      exact .inl g3
  refine PySem.call_dict_pairs (knd := mixKind X.prog X.w) (kvs := prs) (PairArg.tuple (prog := X.prog) (w := X.w) a (ps.map Value.ref).toArray (fun j => ps.getD j 0) ws) (I.ok.hd hcalm) okk ⟨wl.symm, fun j k v e => ?_⟩ (by rw [wl, hl]; exact hz) fun h' tk hd' k => ?_
  · obtain ⟨b, x, g1, g2, g3, g4, g5⟩ := wat j k v e
    obtain ⟨x1, x2⟩ := x
    cases g5
    exact ⟨x1, g1, g4⟩
  · have hm : (s.heap.objs.size == sysModules) = false := beq_eq_false_iff_ne.mpr (Nat.ne_of_gt I.big)
    have hlen : (mergeK [] kvs).length ≤ sizeLine := by
      refine Nat.le_trans (length_mergeK kvs []) ?_
      rw [List.length_nil, Nat.zero_add, rel.length, hl]
      exact hz
    have I2 : Inv X pins σ (upd H s.heap.objs.size (.dK (mergeK [] kvs))) { s with heap := h', toks := tk } :=
      I.laid (t' := tk) (fun b o e => k b o (fun z => nomatch z) e) (Nat.le_refl _) (dk_new hlen hm (KV.merge rel .nil) hd')
    exact ⟨.ref _, _, I2, rfl, q _ (I.hok.fresh (Nat.le_refl _))⟩
end
end L2.K79

set_option Elab.async false
set_option linter.all false
set_option maxRecDepth 100000
set_option maxHeartbeats 4000000
namespace L2.K79
open PySem PySem.Spec PyProof.Rows L2

/-! ### {**x, **y} -/
section
variable {P : Program} {w : World} {A : Around} {E : Value → Shared → Prop} {s : Shared}
theorem put_pairs {K : Type} [DecidableEq K] {knd : KeyKind P w K} {d : Addr} {kvs : List (K × Value)} {k : K} {key v : Value} {Q : Unit → Shared → Prop} (isK : knd.is k key = true) (hm : s.heap.DictOf knd d kvs) (hsz : kvs.length ≤ sizeLine)
    (hQ : ∀ h', h'.DictOf knd d (stored kvs k v) → Heap.SameBut d s.heap h' → Q () { s with heap := h' }) : wpAny (model P w) A (dictPut d (knd.hash k) key v) Q E s := by
  obtain ⟨o, es, ep, ho, ex, hd, keys, pairs, nodup⟩ := hm
  have small : es.size ≤ sizeLine := by
    have e1 := pairs.length
    rw [Array.length_toList] at e1
    omega
  unfold dictPut
  refine wpAny_bind (wpAny_dictFind_of isK ho hd keys ?_)
  have where_ : (es.findIdx? fun e => knd.is k e.key) = kvs.findIdx? fun kv => decide (kv.1 = k) := by
    rw [← pairs.findIdx k]; obtain ⟨l⟩ := es; simp
  cases hi : es.findIdx? fun e => knd.is k e.key with
  | some i =>
    refine wpAny_updateDict ho hd (hQ _ ⟨_, _, ep, Heap.get?_update_self _ ho (Obj.isFreed_of_dict (Obj.data_mapDict hd _)), ex.mapDict _, Obj.data_mapDict hd _, keys.modify _ _, ?_, ?_⟩ (Heap.SameBut.update ..))
    · rw [stored, if_pos (any_of_findIdx_some (where_ ▸ hi))]
      have at_ : (es.toList.findIdx? fun e => knd.is k e.key) = some i := by rw [← hi]; obtain ⟨l⟩ := es; simp
      have q := pairs.modify nodup at_ v
      obtain ⟨l⟩ := es
      simpa using q
    · rw [stored, if_pos (any_of_findIdx_some (where_ ▸ hi)), keys_map_store]; exact nodup
  | none =>
    have absent : k ∉ kvs.map (·.1) := not_mem_of_findIdx_none (where_ ▸ hi)
    have none_ : ¬ (kvs.any fun kv => decide (kv.1 = k)) = true := by
      rw [List.any_eq_true]; rintro ⟨kv, hkv, he⟩
      exact absent (List.mem_map.mpr ⟨kv, hkv, of_decide_eq_true he⟩)
    refine wpAny_updateDictKeys (hz := small) ho hd (hQ _ ⟨_, _, ep + 1, Heap.get?_update_self _ ho (Obj.isFreed_of_dict (Obj.data_mapDictKeys hd _)), ex.mapDictKeys _, Obj.data_mapDictKeys hd _, keys.push isK _, ?_, ?_⟩ (Heap.SameBut.update ..))
    · rw [stored, if_neg none_]
      have q := pairs.append isK (knd.hash k) v
      obtain ⟨l⟩ := es
      simpa using q
    · rw [stored, if_neg none_, List.map_append, List.nodup_append]
      refine ⟨nodup, by simp, fun a ha b hb => ?_⟩
      simp only [List.map_cons, List.map_nil, List.mem_singleton] at hb
      subst hb
      exact fun e => absent (e ▸ ha)
theorem merge_pairs {d o : Addr} {kvs more : List (Key × Value)} {Q : Unit → Shared → Prop} (ne : d ≠ o) (hoS : (o == sysModules) = false) (hd : s.heap.DictOf (mixKind P w) d kvs) (ho : s.heap.DictOf (mixKind P w) o more) (hsz : kvs.length + more.length ≤ sizeLine)
    (hQ : ∀ h', h'.DictOf (mixKind P w) d (merged kvs more) → Heap.SameBut d s.heap h' → Q () { s with heap := h' }) : wpAny (model P w) A (mergeMapping d (.ref o) false) Q E s := by
  obtain ⟨od, esd, epd, hod, hcd, hdd, hkd, hpd, hnd⟩ := id hd
  obtain ⟨oo, eso, epo, hoo, hco, hdo', hko, hpo, hno⟩ := id ho
  have len : more.length = eso.size := by rw [← hpo.length]; simp
  unfold mergeMapping
  refine wpAny_bind (wpAny_isInstance ho.typeIs isSubtype_dict_dict ?_)
  rw [if_pos rfl]
  refine wpAny_bind (wpAny_specialOf ho.typeIs F.slot_dict_iter.lookup ?_)
  dsimp only
  have e0 : ((some (Value.builtin "dict.__iter__") : Option Value) == some (.builtin "dict.__iter__")) = true := beq_self_eq_true _
  rw [e0]
  refine wpAny_bind (wpAny_pure ?_)
  dsimp only
  rw [if_neg (by rw [hoS]; exact Bool.false_ne_true)]
  refine wpAny_bind (wpAny_dictEntries hod hdd ?_)
  have noref : ∀ e ∈ eso.toList, ∀ a, e.key ≠ .ref a := fun e he a z => by
    obtain ⟨k, hk, _⟩ := hko e (by simpa using he)
    rcases keyIs_shape (show keyIs k e.key = true from hk) with ⟨i, t, _, ev⟩ | ⟨y, t, _, ev⟩ <;> (rw [ev] at z; cases z)
  split
  · refine wpAny_bind (wpAny_dictEntries hoo hdo' ?_)
    refine wpAny_bind ?_
    rw [← Array.forIn_toList]
    refine wpAny_forIn_list _ (fun rest _ s' => s' = s ∧ ∀ e ∈ rest, e ∈ eso.toList) _ ?_ ?_ _ _ ⟨rfl, fun e he => he⟩
    · rintro e rest b s' ⟨rfl, hr⟩
      have h1 := noref e (hr e List.mem_cons_self)
      cases he : e.key with
      | ref a => exact absurd he (h1 a)
      | _ => exact wpAny_pure ⟨rfl, fun x hx => hr x (List.mem_cons_of_mem _ hx)⟩
    · rintro b s' ⟨rfl, _⟩
      refine wpAny_bind (wpAny_dictEntries hoo hdo' ?_)
      refine wpAny_bind (wpAny_dictEpoch hoo hdo' ?_)
      refine wpAny_bind ?_
      rw [List.range_eq_range']
      refine wpAny_forIn_list _
        (fun rest _ s2 => ∃ h' i, s2 = { s' with heap := h' } ∧ rest = List.range' i (eso.size - i) ∧ i ≤ eso.size ∧ h'.DictOf (mixKind P w) d (merged kvs (more.take i)) ∧ h'.get? o = some oo ∧ Heap.SameBut d s'.heap h')
        _ ?_ ?_ _ _ ⟨s'.heap, 0, rfl, by simp, Nat.zero_le _, by simpa [merged] using hd, hoo, Heap.SameBut.refl _ _⟩
      · rintro x rest b s2 ⟨h', i, rfl, hr, hi, hd', hoo', hs'⟩
        have hlt : i < eso.size := by
          rcases Nat.lt_or_ge i eso.size with h | h
          · exact h
          · rw [Nat.sub_eq_zero_of_le h] at hr; simp at hr
        obtain ⟨rfl, hrest⟩ : x = i ∧ rest = List.range' (i + 1) (eso.size - (i + 1)) := by
          have e : eso.size - i = (eso.size - (i + 1)) + 1 := by omega
          rw [e, List.range'_succ] at hr
          injection hr with h1 h2
          exact ⟨h1, h2⟩
        refine wpAny_bind (wpAny_dictEntries hoo' hdo' ?_)
        rw [Array.getElem?_eq_getElem hlt]
        obtain ⟨kv, hkv⟩ : ∃ kv, more[x]? = some kv := ⟨more[x]'(by rw [len]; exact hlt), List.getElem?_eq_getElem _⟩
        obtain ⟨k, v⟩ := kv
        obtain ⟨hkey, hval⟩ := hpo.get? (e := eso[x]) (by simp [hlt]) hkv
        obtain ⟨k', hkey', hhash⟩ := hko eso[x] (Array.getElem_mem hlt)
        obtain rfl : k' = k := (mixKind P w).inj _ _ _ hkey' hkey
        have few : (merged kvs (more.take x)).length ≤ sizeLine := by
          have e1 := merged_length_le kvs (more.take x)
          rw [List.length_take] at e1
          omega
        dsimp only
        rw [if_neg Bool.false_ne_true, hhash, hval]
        refine wpAny_bind (wpAny_holding (put_pairs hkey hd' few fun h'' hd'' hs'' => ?_))
        have hoo'' : h''.get? o = some oo := (hs''.2 o (Ne.symm ne)).trans hoo'
        refine wpAny_bind (wpAny_dictEpoch hoo'' hdo' ?_)
        rw [if_neg (by simp)]
        exact wpAny_pure ⟨h'', x + 1, rfl, hrest, hlt, by rw [merged_take_succ kvs more x (k', v) hkv]; exact hd'', hoo'', hs'.trans hs''⟩
      · rintro b s2 ⟨h', i, rfl, hr, hi, hd', hoo', hs'⟩
        have hin : i = eso.size := by
          rcases Nat.lt_or_ge i eso.size with h | h
          · have e : eso.size - i = (eso.size - (i + 1)) + 1 := by omega
            rw [e, List.range'_succ] at hr; exact nomatch hr
          · exact Nat.le_antisymm hi h
        refine wpAny_pure (hQ h' ?_ hs')
        rw [hin, ← len, List.take_length] at hd'
        exact hd'
  · refine wpAny_bind (wpAny_dictEntries hoo hdo' ?_)
    refine wpAny_bind (wpAny_dictEpoch hoo hdo' ?_)
    refine wpAny_bind ?_
    rw [List.range_eq_range']
    refine wpAny_forIn_list _
      (fun rest _ s2 => ∃ h' i, s2 = { s with heap := h' } ∧ rest = List.range' i (eso.size - i) ∧ i ≤ eso.size ∧ h'.DictOf (mixKind P w) d (merged kvs (more.take i)) ∧ h'.get? o = some oo ∧ Heap.SameBut d s.heap h')
      _ ?_ ?_ _ _ ⟨s.heap, 0, rfl, by simp, Nat.zero_le _, by simpa [merged] using hd, hoo, Heap.SameBut.refl _ _⟩
    · rintro x rest b s2 ⟨h', i, rfl, hr, hi, hd', hoo', hs'⟩
      have hlt : i < eso.size := by
        rcases Nat.lt_or_ge i eso.size with h | h
        · exact h
        · rw [Nat.sub_eq_zero_of_le h] at hr; simp at hr
      obtain ⟨rfl, hrest⟩ : x = i ∧ rest = List.range' (i + 1) (eso.size - (i + 1)) := by
        have e : eso.size - i = (eso.size - (i + 1)) + 1 := by omega
        rw [e, List.range'_succ] at hr
        injection hr with h1 h2
        exact ⟨h1, h2⟩
      refine wpAny_bind (wpAny_dictEntries hoo' hdo' ?_)
      rw [Array.getElem?_eq_getElem hlt]
      obtain ⟨kv, hkv⟩ : ∃ kv, more[x]? = some kv := ⟨more[x]'(by rw [len]; exact hlt), List.getElem?_eq_getElem _⟩
      obtain ⟨k, v⟩ := kv
      obtain ⟨hkey, hval⟩ := hpo.get? (e := eso[x]) (by simp [hlt]) hkv
      obtain ⟨k', hkey', hhash⟩ := hko eso[x] (Array.getElem_mem hlt)
      obtain rfl : k' = k := (mixKind P w).inj _ _ _ hkey' hkey
      have few : (merged kvs (more.take x)).length ≤ sizeLine := by
        have e1 := merged_length_le kvs (more.take x)
        rw [List.length_take] at e1
        omega
      dsimp only
      rw [if_neg Bool.false_ne_true, hhash, hval]
      refine wpAny_bind (wpAny_holding (put_pairs hkey hd' few fun h'' hd'' hs'' => ?_))
      have hoo'' : h''.get? o = some oo := (hs''.2 o (Ne.symm ne)).trans hoo'
      refine wpAny_bind (wpAny_dictEpoch hoo'' hdo' ?_)
      rw [if_neg (by simp)]
      exact wpAny_pure ⟨h'', x + 1, rfl, hrest, hlt, by rw [merged_take_succ kvs more x (k', v) hkv]; exact hd'', hoo'', hs'.trans hs''⟩
    · rintro b s2 ⟨h', i, rfl, hr, hi, hd', hoo', hs'⟩
      have hin : i = eso.size := by
        rcases Nat.lt_or_ge i eso.size with h | h
        · have e : eso.size - i = (eso.size - (i + 1)) + 1 := by omega
          rw [e, List.range'_succ] at hr; exact nomatch hr
        · exact Nat.le_antisymm hi h
      refine wpAny_pure (hQ h' ?_ hs')
      rw [hin, ← len, List.take_length] at hd'
      exact hd'
end
section
variable {X : Cx} {a b : Expr} {ta tb : TE} {pos : Pos}
def tStar2 (ta tb : TE) : TE := fun σ H Q => ∀ p, H p = none → ta σ (upd H p (.dK [])) fun x H1 => ∃ q kvs, x = .ref q ∧ H1 p = some (.dK []) ∧ Rd H1 q (.dK kvs) ∧ q ≠ p ∧
  tb σ (upd H1 p (.dK (mergeK [] kvs))) fun y H2 => ∃ q' kvs', y = .ref q' ∧ H2 p = some (.dK (mergeK [] kvs)) ∧ Rd H2 q' (.dK kvs') ∧ q' ≠ p ∧ kvs.length + kvs'.length ≤ sizeLine ∧ Q (.ref p) (upd H2 p (.dK (mergeK (mergeK [] kvs) kvs')))
theorem pe_star2 (ha : PE X a ta) (hb : PE X b tb) : PE X (.Dict [none, none] [a, b] pos) (tStar2 ta tb) := by
  refine ⟨fun pins s σ H Q I h => ?_⟩
  rw [arm_eval_Dict]
  refine wpAny_bind (wpAny_standAt ?_)
  show wpAny _ _ (dictDisplay [(none, do let x ← eval a X.env; standAt pos; pure x), (none, do let x ← eval b X.env; standAt pos; pure x)]) _ _ _
  unfold dictDisplay
  simp only [List.forIn_cons, List.forIn_nil, List.isEmpty_nil, if_true, pure_bind, bind_assoc]
  refine wpAny_bind (wpAny_alloc ?_)
  have fr : H s.heap.objs.size = none := I.hok.fresh (Nat.le_refl _)
  have I0 : Inv X pins σ (upd H s.heap.objs.size (.dK [])) { s with heap := s.heap.push { cls := .type "dict", data := .dict #[] } } := I.laid (t' := s.toks) (fun b o e => Heap.get?_push_of_some _ e) (Nat.le_refl _) (dk_empty s.heap I.big)
  refine wpAny_bind (wpAny_holding (wpAny_bind (thn (ha.run pins _ σ _ _ I0 (h _ fr)) fun u s1 ⟨x, H1, I1, r1, q, kvs, ex, h1, h2, ne, h3⟩ => wpAny_bind (wpAny_standAt (wpAny_pure ?_)))))
  subst ex
  cases r1
  obtain ⟨z1, d1, vs1, rel1, dd1⟩ := dk_of I1.hok h1
  obtain ⟨z2, d2, vs2, rel2, dd2⟩ := dk_rd I1.hok h2
  have l1 : ([] : List (Key × V)).length = vs1.length := rel1.length
  have l2 := rel2.length
  refine wpAny_bind (wpAny_onRaise (wpAny_tryCatch (wpAny_onRaise (wpAny_holding (merge_pairs (Ne.symm ne) d2 dd1 dd2 (by rw [← l1, ← l2, List.length_nil]; omega) fun h' m1 sb1 => ?_)))))
  have len1 : (mergeK [] kvs).length ≤ sizeLine := Nat.le_trans (length_mergeK kvs []) (by rw [List.length_nil]; omega)
  have I2 : Inv X pins σ (upd H1 s.heap.objs.size (.dK (mergeK [] kvs))) { s1 with heap := h' } := d_write (t' := s1.toks) I1 (by rw [h1]; trivial) sb1 (by obtain ⟨o, _, _, e, _⟩ := m1; exact ⟨o, e⟩) (dk_new len1 d1 (KV.merge rel2 rel1) m1)
  refine wpAny_bind (wpAny_holding (wpAny_bind (thn (hb.run pins _ σ _ _ I2 h3) fun u s3 ⟨y, H3, I3, r3, q', kvs', ey, g1, g2, ne', lens, g3⟩ => wpAny_bind (wpAny_standAt (wpAny_pure ?_)))))
  subst ey
  cases r3
  obtain ⟨z3, d3, vs3, rel3, dd3⟩ := dk_of I3.hok g1
  obtain ⟨z4, d4, vs4, rel4, dd4⟩ := dk_rd I3.hok g2
  have l3 := rel3.length
  have l4 := rel4.length
  have l5 : (mergeK [] kvs).length ≤ kvs.length := by
    have e := length_mergeK kvs []
    rwa [List.length_nil, Nat.zero_add] at e
  refine wpAny_bind (wpAny_onRaise (wpAny_tryCatch (wpAny_onRaise (wpAny_holding (merge_pairs (Ne.symm ne') d4 dd3 dd4 (by rw [← l3, ← l4]; omega) fun h'' m2 sb2 => ?_)))))
  have len2 : (mergeK (mergeK [] kvs) kvs').length ≤ sizeLine := Nat.le_trans (length_mergeK kvs' _) (by omega)
  have I4 : Inv X pins σ (upd H3 s.heap.objs.size (.dK (mergeK (mergeK [] kvs) kvs'))) { s3 with heap := h'' } := d_write (t' := s3.toks) I3 (by rw [g1]; trivial) sb2 (by obtain ⟨o, _, _, e, _⟩ := m2; exact ⟨o, e⟩) (dk_new len2 d3 (KV.merge rel4 rel3) m2)
  exact wpAny_pure ⟨.ref s.heap.objs.size, _, I4, rfl, g3⟩
end
end L2.K79

set_option Elab.async false
set_option linter.all false
set_option maxRecDepth 100000
set_option maxHeartbeats 4000000
namespace L2.K79
open PySem PySem.Spec PyProof.Rows L2
/-! ### t[::-1] of a tuple -/
section
variable {prog : Program} {w : World} {A : Around} {E : Value → Shared → Prop} {s : Shared}
theorem fm_congr {α β : Type} {f g : α → Option β} : ∀ {l : List α}, (∀ a, a ∈ l → f a = g a) → l.filterMap f = l.filterMap g
  | [], _ => rfl
  | a :: l, h => by
    rw [List.filterMap_cons, List.filterMap_cons, h a List.mem_cons_self, fm_congr fun b hb => h b (List.mem_cons_of_mem _ hb)]
theorem back_pick (xs : Array Value) : ((List.range xs.size).filterMap fun (k : Nat) => xs[(((xs.size : Int) - 1) + (k : Int) * (-1)).toNat]?).toArray = xs.toList.reverse.toArray := by
  congr 1
  apply List.ext_getElem?
  intro i
  have e : (List.range xs.size).filterMap (fun (k : Nat) => xs[(((xs.size : Int) - 1) + (k : Int) * (-1)).toNat]?) = (List.range xs.size).map (fun k => xs.toList.getD (xs.size - 1 - k) .none) := by
    rw [← List.filterMap_eq_map]
    apply fm_congr
    intro k hk
    have hk := List.mem_range.mp hk
    have z : (((xs.size : Int) - 1) + (k : Int) * (-1)).toNat = xs.size - 1 - k := by omega
    rw [z]
    have h : xs.size - 1 - k < xs.size := by omega
    rw [Array.getElem?_eq_getElem h]
    simp [List.getD_eq_getElem?_getD, h]
  rw [e, List.getElem?_map]
  by_cases hi : i < xs.size
  · rw [List.getElem?_range hi, List.getElem?_reverse (by simpa using hi)]
    simp [List.getD_eq_getElem?_getD]
    rw [Array.getElem?_eq_getElem (by omega)]
    simp
  · rw [List.getElem?_eq_none (by simp; omega), List.getElem?_eq_none (by simp; omega)]
    rfl
theorem places_back (n : Nat) : Builtin.Slice.slicePlaces ((n : Int) - 1) (-1) (-1) = n := by
  unfold Builtin.Slice.slicePlaces
  rw [if_neg (by decide)]
  by_cases h : (n : Int) - 1 > -1
  · rw [if_pos h]
    have : -(-1 : Int) = 1 := by decide
    rw [this, Int.ediv_one]
    omega
  · rw [if_neg h]
    omega
theorem getItem_back {t sl : Addr} {items : Array Value} {u : Tok} {Q : Value → Shared → Prop} (ht : IsTup s.heap t items) (hs : s.heap.IsSliceOf sl .none .none (.int (-1) u)) (hsz : items.size ≤ sizeLine)
    (h : Q (.ref s.heap.objs.size) { s with heap := s.heap.push { cls := .type "tuple", data := .seq items.toList.reverse.toArray } }) : wpAny (model prog w) A (getItem (.ref t) (.ref sl)) Q E s := by
  have fits : sizeOk (.seq items.toList.reverse.toArray) := by
    show items.toList.reverse.toArray.size ≤ sizeLine
    rw [List.size_toArray, List.length_reverse, Array.length_toList]
    exact hsz
  obtain ⟨os, hos, hcs, hds⟩ := id hs
  have isSl : s.TypeIs (.ref sl) "slice" := ⟨os, hos, hcs⟩
  unfold getItem
  try with_reducible refine wpAny_holding ?_
  first | refine wpAny_bind (wpAny_pure ?_) | skip
  refine wpAny_bind (wpAny_sequenceKey ht.typeIs (by decide) ?_)
  refine wpAny_bind (wpAny_callSpecial?_slot (name := Str.ofString "__getitem__") ht.typeIs PyProof.Rows.slot_tuple_getitem
    (wpAny_call_entry PyProof.Rows.slot_tuple_getitem ht.typeIs entry_tuple_getitem ?_ (args_tuple_getitem _ _)))
  show wpAny _ _ (Builtin.Tuple.tupleItemsOf (.ref t) >>= _) _ _ s
  refine wpAny_bind (tupleItemsOf_ ht ?_)
  refine wpAny_bind (wpAny_typeOf isSl ?_)
  rw [if_pos (by decide)]
  have app : ∀ {Q : Int × Int × Nat → Shared → Prop} {E : Value → Shared → Prop} {A : Around}, Q ((items.size : Int) - 1, -1, items.size) s → wpAny (model prog w) A (Builtin.Slice.sliceApplied (.ref sl) (pure (items.size : Int))) Q E s := fun {Q E A} q => by
    unfold Builtin.Slice.sliceApplied Builtin.Slice.sliceFields
    refine wpAny_bind (wpAny_bind (wpAny_field hos hds (x := .none) rfl (wpAny_bind (wpAny_field hos hds (x := .none) rfl (wpAny_bind (wpAny_field hos hds (x := .int (-1) u) rfl (wpAny_pure ?_)))))))
    refine wpAny_bind (slicePart_int ?_)
    show wpAny _ _ (if ((-1 : Int) == 0) = true then _ else _) _ _ s
    rw [if_neg (by decide)]
    refine wpAny_bind (slicePart_none (wpAny_bind (slicePart_none (wpAny_bind (wpAny_pure ?_)))))
    have e : Builtin.Slice.sliceAdjust none none (-1) (items.size : Int) = ((items.size : Int) - 1, -1) := rfl
    show wpAny _ _ (match Builtin.Slice.sliceAdjust none none (-1) (items.size : Int) with | (lo, hi) => pure (lo, (-1 : Int), Builtin.Slice.slicePlaces lo hi (-1))) _ _ s
    rw [e]
    show wpAny _ _ (pure ((items.size : Int) - 1, (-1 : Int), Builtin.Slice.slicePlaces ((items.size : Int) - 1) (-1) (-1))) _ _ s
    rw [places_back]
    exact wpAny_pure q
  refine wpAny_bind (app ?_)
  have no : ¬ ((((items.size : Int) - 1) == 0 && (-1 : Int) == 1 && items.size == items.size) = true) := by
    intro q
    rw [Bool.and_eq_true, Bool.and_eq_true] at q
    exact absurd (eq_of_beq q.1.2) (by decide)
  show wpAny _ _ (if (((items.size : Int) - 1) == 0 && (-1 : Int) == 1 && items.size == items.size) = true then _ else _) _ _ s
  rw [if_neg no, back_pick]
  first
    | exact wpAny_bind (m := Builtin.Tuple.tupleExact _) (wpAny_newObj_type (wpAny_pure ⟨_, rfl, wpAny_pure h⟩) fits)
    | exact wpAny_bind (m := Builtin.Tuple.tupleExact _) (wpAny_newObj_type (wpAny_bind (wpAny_pure (wpAny_pure ⟨_, rfl, wpAny_pure h⟩))) fits)
    | exact wpAny_bind (wpAny_bind (m := Builtin.Tuple.tupleExact _) (wpAny_newObj_type (wpAny_pure (wpAny_pure ⟨_, rfl, wpAny_pure h⟩)) fits))
    | exact wpAny_bind (wpAny_bind (m := Builtin.Tuple.tupleExact _) (wpAny_newObj_type (wpAny_pure ⟨_, rfl, wpAny_pure h⟩) fits))
end
section
variable {X : Cx}
def tRevT (K : PySem.W.Frag) (te : TE) : TE := fun σ H Q => te σ H fun x H1 => ∃ a xs, x = .ref a ∧ SqT K H1 a xs ∧ ∀ p, H1 p = none → Q (.ref p) (upd H1 p (.tup xs.reverse))
theorem pe_revT {e : Expr} {te : TE} {k : Nat} {p1 p2 p3 pos : Pos} (he : PE X e te) : PE X (.Subscript e (.Slice none none (some (.UnaryOp .USub (.Constant (.int 1) k p1) p2)) p3) pos) (tRevT X.K te) := by
  refine ⟨fun pins s σ H Q I h => ?_⟩
  refine Subscript_ (thn (he.run pins s σ H _ I h) fun v s1 ⟨x, H1, I1, r1, q1⟩ => ?_)
  obtain ⟨a, xs, ex, hx, q⟩ := q1
  subst ex
  cases r1
  have hst : PO X (some (.UnaryOp .USub (.Constant (.int 1) k p1) p2)) (tPart (tUn (rU fun i => .int (-i)) (tC (.int 1)))) := po_some (pe_un un_neg pe_int)
  refine wpAny_Slice (thn (po_none.run pins s1 σ H1 (fun o H2 => o = none ∧ H2 = H1) I1 ⟨rfl, rfl⟩) fun vl s2 ⟨l, H2, I2, pl, el, e2⟩ => ?_)
  subst el e2
  refine thn (po_none.run pins s2 σ H2 (fun o H3 => o = none ∧ H3 = H2) I2 ⟨rfl, rfl⟩) fun vu s3 ⟨u, H3, I3, pu, eu, e3⟩ => ?_
  subst eu e3
  refine thn (hst.run pins s3 σ H3 (fun o H4 => o = some (-1) ∧ H4 = H3) I3 ⟨1, rfl, -1, rfl, rfl, rfl⟩) fun vs s4 ⟨o, H4, I4, ps, eo, e4⟩ => ?_
  subst eo e4
  cases pl
  cases pu
  cases ps
  rename_i tk _
  have I5 : Inv X pins σ H4 { s4 with heap := s4.heap.push { cls := .type "slice", data := .fields #[.none, .none, .int (-1) tk] } } := I4.kept (t' := s4.toks) fun b ob q => Heap.get?_push_of_some _ q
  obtain ⟨its, r, ht, hz⟩ := I5.tuple hx
  have hlen := r.length
  show wpAny (model X.prog X.w) X.A (subscriptTail e (.Slice none none (some (.UnaryOp .USub (.Constant (.int 1) k p1) p2)) p3) (.ref a) (.ref s4.heap.objs.size)) (EP X pins σ Q) X.xe { s4 with heap := s4.heap.push { cls := .type "slice", data := .fields #[.none, .none, .int (-1) tk] } }
  refine tail_any (ops := [.ref a, .ref s4.heap.objs.size]) ht.typeIs (PyProof.Rows.slot_tuple_getitem.lookup) ?_ (by with_unfolding_all rfl)
  refine getItem_back ht (Heap.IsSliceOf.new _ .none .none (.int (-1) tk)) (by rw [List.size_toArray]; omega) ?_
  refine ⟨.ref _, _, I5.laid (t' := s4.toks) (o := .tup xs.reverse) (fun b ob q => Heap.get?_push_of_some _ q) (Nat.le_refl _) ?_, rfl, q _ (I5.hok.fresh (Nat.le_refl _))⟩
  exact ⟨by rw [List.length_reverse]; exact hz, _, by simpa using r.reverse, IsTup.new _ _⟩
/-- sorted(d), ints, however many -/
theorem call_sortedDA (hcalm : X.calm = true) : CallR X (.builtin "sorted") (fun xs H Q => ∃ (a : Addr) (kvs : List (Key × V)) (ks : List Int), xs = [.ref a] ∧ Rd H a (.dK kvs) ∧ kvs.map (·.1) = ks.map Sum.inl ∧
    ∀ (ys : List Int) (p : Addr), ys.Perm ks → ys.Pairwise (· ≤ ·) → H p = none → Q (.ref p) (upd H p (.lst (ys.map V.int)))) := by
  intro pins s σ H xs us Q I r q
  obtain ⟨a, kvs, ks, ex, hd, hks, q⟩ := q
  subst ex
  obtain ⟨u, eu, rx⟩ := vals1 r
  subst eu
  cases rx
  obtain ⟨z, lo, vs, rel, dd⟩ := dk_rd I.hok hd
  obtain ⟨ep, hat⟩ := dd.dictAt
  have keys : vs.map (·.1) = ks.map Sum.inl := rel.keys.symm.trans hks
  have many : vs.length = ks.length := by
    have e := congrArg List.length keys
    rwa [List.length_map, List.length_map] at e
  have small : vs.length ≤ sizeLine := by rw [← rel.length]; exact z
  refine Calls.call_function_entry PyProof.Rows.kind_sorted PyProof.Rows.plain_sorted PyProof.Rows.entry_sorted (PyProof.Rows.args_sorted1 _) ?_
  unfold Builtin.«sorted»
  refine wpAny_bind (m := checkCount "sorted" 1 1 _) (wpAny_pure ?_)
  refine wpAny_bind (PySem.W.kdu_collect (A := X.A.in1) (PySem.W.kdl_dict (knd := mixKind X.prog X.w) (kvs := vs) (ep := ep) lo) (I.ok.hd hcalm) hat small fun h' tk acc hk hacc => ?_)
  have len : acc.toList.length = ks.length := by rw [Array.length_toList, hacc.1, many]
  have isI : IntsAre acc.toList ks := ints_each len fun j v e => by
    obtain ⟨k, x, e1, e2⟩ := hacc.2 j v (by rw [← Array.getElem?_toList]; exact e)
    have e3 : (vs.map (·.1))[j]? = some k := by rw [List.getElem?_map, e1]; rfl
    rw [keys, List.getElem?_map] at e3
    cases e4 : ks[j]? with
    | none => rw [e4] at e3; cases e3
    | some y =>
      rw [e4] at e3
      have e5 : Sum.inl y = k := Option.some.inj e3
      subst e5
      rcases keyIs_shape (show keyIs (Sum.inl y) v = true from e2) with ⟨i, t, ek, ev⟩ | ⟨z, t, ek, ev⟩
      · cases ek
        exact ⟨y, t, rfl, ev⟩
      · cases ek
  have I1 : Inv X pins σ H { s with heap := h', toks := tk } := I.kept hk
  have small2 : acc.toList.length ≤ sizeLine := by rw [len, ← many]; exact small
  refine wpAny_bind (wpAny_newList ?_ small2)
  have atL : (h'.push (seqObj "list" acc.toList.toArray 0)).get? h'.objs.size = some (seqObj "list" acc.toList.toArray 0) := Heap.get?_push_size _ rfl
  show wpAny _ _ _ _ _ { s with heap := h'.push (seqObj "list" acc.toList.toArray 0), toks := tk }
  refine wpAny_bind (wpAny_holding (wpAny_call_entry PyProof.Rows.slot_list_sort ⟨_, atL, rfl⟩ PyProof.Rows.entry_list_sort
    (SrtO.list_sort_ord (s := { s with heap := h'.push (seqObj "list" acc.toList.toArray 0), toks := tk }) SrtO.swo_int atL small2 (fun h2 => SrtO.ints_sortable isI h2) fun out g1 g2 => ⟨_, rfl, ?_⟩) (PyProof.Rows.args_list_sort _)))
  obtain ⟨k2, k3, k4⟩ := SrtO.ints_out isI g1 g2
  obtain ⟨e', he'⟩ := PyProof.Rows.sortedHeap_at (vs := acc.toList) (out := out.toArray) atL
  have lenO : ((out.map SrtO.iv).map V.int).length ≤ sizeLine := by
    rw [List.length_map, k3.length_eq, ← len]
    exact small2
  refine wpAny_pure ⟨_, rfl, .ref h'.objs.size, upd H h'.objs.size (.lst ((out.map SrtO.iv).map V.int)), I1.laid (t' := tk) (fun b u e => ?_) (Nat.le_refl _)
    (show ObjOk X.prog X.w _ _ _ (.lst _) from ⟨lenO, out, e', vals_of_ints k2, he'⟩), rfl, q _ _ k3 k4 (I1.hok.fresh (Nat.le_refl _))⟩
  have hb : b < h'.objs.size := Heap.lt_size e
  rw [PyProof.Rows.sortedHeap_old (Nat.ne_of_lt hb) (by rw [size_push']; exact Nat.lt_succ_of_lt hb)]
  exact Heap.get?_push_of_some _ e
end
end L2.K79

set_option Elab.async false
set_option linter.all false
set_option maxRecDepth 100000
set_option maxHeartbeats 4000000
namespace L2.K79
open PySem PySem.Spec PyProof.Rows L2

/-- data without the heap -/
inductive D where
  | non | bl (b : Bool) | int (i : Int) | lst (ds : List D) | tup (ds : List D) | tux (ds : List D) | dct (kvs : List (Key × V)) | ty (n : String)

def tI (ns : List Int) : D := .tup (ns.map D.int)
def lI (ns : List Int) : D := .lst (ns.map D.int)

/-- a thing that stands at an address; but a list, it may be locked -/
def NL : HO → Prop
  | .lst _ => False
  | .frz _ _ => False
  | _ => True
def Rq (H : Hp) (a : Addr) (u : HO) : Prop := H a = some u ∨ (NL u ∧ ∃ o, H a = some (.frz o u))
theorem Rq.rd {H : Hp} {a : Addr} {u : HO} (h : Rq H a u) : Rd H a u := h.elim .inl fun z => .inr z.2
theorem Rq.frz {H : Hp} {a : Addr} {o : Obj} {u : HO} (h : Rq H a (.frz o u)) : H a = some (.frz o u) := h.elim id fun z => z.1.elim
theorem Rq.lst {H : Hp} {a : Addr} {xs : List V} (h : Rq H a (.lst xs)) : H a = some (.lst xs) := h.elim id fun z => z.1.elim

mutual
inductive Rp (C : Addr → Prop) (H : Hp) : V → D → Prop
  | non : Rp C H .non .non
  | bl (b : Bool) : Rp C H (.bl b) (.bl b)
  | int (i : Int) : Rp C H (.int i) (.int i)
  | lst {a : Addr} {xs : List V} {ds : List D} : ¬ C a → Rq H a (.lst xs) → RpA C H xs ds → Rp C H (.ref a) (.lst ds)
  | tup {a : Addr} {xs : List V} {ds : List D} : ¬ C a → Rq H a (.tup xs) → RpA C H xs ds → Rp C H (.ref a) (.tup ds)
  | tux {a : Addr} {ob : Obj} {xs : List V} {ds : List D} : ¬ C a → ob.dict = none → Rq H a (.frz ob (.tup xs)) → RpA C H xs ds → Rp C H (.ref a) (.tux ds)
  | dct {a : Addr} {kvs : List (Key × V)} : ¬ C a → Rq H a (.dK kvs) → Rp C H (.ref a) (.dct kvs)
  | ty (n : String) : Rp C H (.ty n) (.ty n)
inductive RpA (C : Addr → Prop) (H : Hp) : List V → List D → Prop
  | nil : RpA C H [] []
  | cons {v : V} {vs : List V} {d : D} {ds : List D} : Rp C H v d → RpA C H vs ds → RpA C H (v :: vs) (d :: ds)
end

/-- plain things -/
def Pl : HO → Prop
  | .lst _ => True
  | .tup _ => True
  | .dK _ => True
  | .frz _ (.tup _) => True
  | _ => False
/-- what stands for data stands so again -/
def Mv (C : Addr → Prop) (H : Hp) (C' : Addr → Prop) (H' : Hp) : Prop := ∀ a u, Pl u → ¬ C a → Rq H a u → ¬ C' a ∧ Rq H' a u

mutual
theorem Rp.mv {C C' : Addr → Prop} {H H' : Hp} (m : Mv C H C' H') : ∀ (d : D) (v : V), Rp C H v d → Rp C' H' v d
  | .non, _, h => by cases h; exact .non
  | .bl b, _, h => by cases h; exact .bl b
  | .int i, _, h => by cases h; exact .int i
  | .lst ds, _, h => by
    cases h with
    | @lst a xs _ hc hr ha =>
      obtain ⟨k1, k2⟩ := m a (.lst xs) trivial hc hr
      exact .lst k1 k2 (RpA.mv m ds _ ha)
  | .tup ds, _, h => by
    cases h with
    | @tup a xs _ hc hr ha =>
      obtain ⟨k1, k2⟩ := m a (.tup xs) trivial hc hr
      exact .tup k1 k2 (RpA.mv m ds _ ha)
  | .ty n, _, h => by cases h; exact .ty n
  | .tux ds, _, h => by
    cases h with
    | @tux a ob xs _ hc hd hr ha =>
      obtain ⟨k1, k2⟩ := m a (.frz ob (.tup xs)) trivial hc hr
      exact .tux k1 hd k2 (RpA.mv m ds _ ha)
  | .dct kvs, _, h => by
    cases h with
    | @dct a _ hc hr =>
      obtain ⟨k1, k2⟩ := m a (.dK kvs) trivial hc hr
      exact .dct k1 k2
theorem RpA.mv {C C' : Addr → Prop} {H H' : Hp} (m : Mv C H C' H') : ∀ (ds : List D) (vs : List V), RpA C H vs ds → RpA C' H' vs ds
  | [], _, h => by cases h; exact .nil
  | d :: ds, _, h => by
    cases h with
    | cons h1 h2 => exact .cons (Rp.mv m d _ h1) (RpA.mv m ds _ h2)
end

abbrev Ex (H H' : Hp) : Prop := Same H H'
/-- every address of C is taken -/
def Al (C : Addr → Prop) (H : Hp) : Prop := ∀ a, C a → H a ≠ none
theorem Ex.rd {H H' : Hp} (e : Ex H H') {a : Addr} {u : HO} (h : Rq H a u) : Rq H' a u := by
  rcases h with h | h
  · exact .inl (e _ _ h)
  · exact .inr ⟨h.1, h.2.elim fun o h => ⟨o, e _ _ h⟩⟩
theorem Ex.al {C : Addr → Prop} {H H' : Hp} (e : Ex H H') (h : Al C H) : Al C H' := fun a c n => by
  cases q : H a with
  | none => exact h a c q
  | some o => rw [e a o q] at n; cases n
theorem Ex.mv {H H' : Hp} (e : Ex H H') (C : Addr → Prop) : Mv C H C H' := fun a u _ c h => ⟨c, e.rd h⟩
theorem rd_some {H : Hp} {a : Addr} {u : HO} (h : Rq H a u) : H a ≠ none := by
  rcases h with h | ⟨_, o, h⟩ <;> (rw [h]; intro z; cases z)
theorem _root_.L2.Same.al {C : Addr → Prop} {H H' : Hp} (e : Same H H') (h : Al C H) : Al C H' := Ex.al e h
theorem _root_.L2.Same.mv {H H' : Hp} (e : Same H H') (C : Addr → Prop) : Mv C H C H' := Ex.mv e C
theorem _root_.L2.Same.rq {H H' : Hp} (e : Same H H') {a : Addr} {u : HO} (h : Rq H a u) : Rq H' a u := Ex.rd e h
theorem Ex.new {H : Hp} {p : Addr} {o : HO} (h : H p = none) : Ex H (upd H p o) := fun b x e => by
  rw [upd_ne (ne_of_none e h)]
  exact e
/-- forbidding more: fresh addresses -/
theorem Mv.more {C C' : Addr → Prop} {H : Hp} (h : ∀ a, C' a → C a ∨ H a = none) : Mv C H C' H := fun a u _ c r => ⟨fun z => (h a z).elim c (rd_some r), r⟩
theorem Mv.less {C C' : Addr → Prop} {H : Hp} (h : ∀ a, C' a → C a) : Mv C H C' H := fun a u _ c r => ⟨fun z => c (h a z), r⟩
theorem Mv.trans {C1 C2 C3 : Addr → Prop} {H1 H2 H3 : Hp} (a : Mv C1 H1 C2 H2) (b : Mv C2 H2 C3 H3) : Mv C1 H1 C3 H3 := fun x u p c r =>
  let ⟨c2, r2⟩ := a x u p c r
  b x u p c2 r2
/-- a forbidden object may change -/
theorem Mv.upd {C : Addr → Prop} {H : Hp} {p : Addr} {o : HO} (h : C p) : Mv C H C (upd H p o) := fun a u _ c r => by
  have ne : a ≠ p := fun e => c (e ▸ h)
  refine ⟨c, ?_⟩
  rcases r with r | ⟨nl, x, r⟩
  · exact .inl (by rw [upd_ne ne]; exact r)
  · exact .inr ⟨nl, x, by rw [upd_ne ne]; exact r⟩

abbrev Gm := List (Option D)
/-- the slots hold this -/
structure Sat (C : Addr → Prop) (H : Hp) (σ : St) (G : Gm) : Prop where
  len : σ.length = G.length
  at_ : ∀ (i : Nat) (d : D), G[i]? = some (some d) → ∃ v, σ[i]? = some (some v) ∧ Rp C H v d
theorem Sat.mv {C C' : Addr → Prop} {H H' : Hp} {σ : St} {G : Gm} (s : Sat C H σ G) (m : Mv C H C' H') : Sat C' H' σ G := ⟨s.len, fun i d e => by
  obtain ⟨v, h1, h2⟩ := s.at_ i d e
  exact ⟨v, h1, Rp.mv m d v h2⟩⟩
theorem Sat.ex {C : Addr → Prop} {H H' : Hp} {σ : St} {G : Gm} (s : Sat C H σ G) (e : Ex H H') : Sat C H' σ G := s.mv (e.mv C)
theorem Sat.set {C : Addr → Prop} {H : Hp} {σ : St} {G : Gm} (s : Sat C H σ G) (i : Nat) {v : V} {d : D} (r : Rp C H v d) : Sat C H (σ.set i (some v)) (G.set i (some d)) := by
  refine ⟨by simp [s.len], fun j d' e => ?_⟩
  by_cases h : j = i
  · subst h
    by_cases hl : j < G.length
    · rw [List.getElem?_set_self hl] at e
      cases e
      exact ⟨v, by rw [List.getElem?_set_self (by rw [s.len]; exact hl)], r⟩
    · rw [List.getElem?_eq_none (by simpa using hl)] at e
      cases e
  · rw [List.getElem?_set_ne (Ne.symm h)] at e ⊢
    exact s.at_ j d' e
/-- fewer facts -/
def Wk (G G' : Gm) : Prop := G.length = G'.length ∧ ∀ (i : Nat) (d : D), G'[i]? = some (some d) → G[i]? = some (some d)
theorem Wk.refl (G : Gm) : Wk G G := ⟨rfl, fun _ _ h => h⟩
theorem Sat.wk {C : Addr → Prop} {H : Hp} {σ : St} {G G' : Gm} (s : Sat C H σ G) (w : Wk G G') : Sat C H σ G' := ⟨s.len.trans w.1, fun i d e => s.at_ i d (w.2 i d e)⟩
def wipeG (G : Gm) : List Nat → Gm
  | [] => G
  | v :: vs => (wipeG G vs).set v none
theorem Sat.setN {C : Addr → Prop} {H : Hp} {σ : St} {G : Gm} (s : Sat C H σ G) (i : Nat) : Sat C H (σ.set i none) (G.set i none) := by
  refine ⟨by simp [s.len], fun j d' e => ?_⟩
  by_cases h : j = i
  · subst h
    by_cases hl : j < G.length
    · rw [List.getElem?_set_self hl] at e
      cases e
    · rw [List.getElem?_eq_none (by simpa using hl)] at e
      cases e
  · rw [List.getElem?_set_ne (Ne.symm h)] at e ⊢
    exact s.at_ j d' e
theorem Sat.wipe {C : Addr → Prop} {H : Hp} {σ : St} {G : Gm} (s : Sat C H σ G) : ∀ vs : List Nat, Sat C H (L2.wipe σ vs) (wipeG G vs)
  | [] => s
  | v :: vs => (Sat.wipe s vs).setN v

/-! ### the judgements -/
def tSem (G : Gm) (d : D) : TE := fun σ H Q => ∃ C, Al C H ∧ Sat C H σ G ∧ ∀ v H', Ex H H' → Rp C H' v d → Q v H'
def tSemT (G : Gm) (b : Bool) : TT := fun σ H Q => ∃ C, Al C H ∧ Sat C H σ G ∧ ∀ H', Ex H H' → Q b H'
def tSemA (G : Gm) (ds : List D) : TA := fun σ H Q => ∃ C, Al C H ∧ Sat C H σ G ∧ ∀ vs H', Ex H H' → RpA C H' vs ds → Q vs H'
def tSemS (G : Gm) (N : Gm → Prop) (R : D → Prop) : TS := fun D σ H => ∃ C, Al C H ∧ Sat C H σ G ∧ (∀ σ' H' G', Ex H H' → Sat C H' σ' G' → N G' → D.nx σ' H') ∧ ∀ v H' d, Ex H H' → Rp C H' v d → R d → D.rt v H'
/-- for a, .. d; what comes: the items' data -/
def Xc (C : Addr → Prop) (H H' : Hp) : Prop := ∀ a u, ¬ C a → H a = some u → H' a = some u
theorem Xc.mv {C : Addr → Prop} {H H' : Hp} (e : Xc C H H') : Mv C H C H' := fun a u _ c h => ⟨c, by
  rcases h with h | ⟨nl, o, h⟩
  · exact .inl (e a _ c h)
  · exact .inr ⟨nl, o, e a _ c h⟩⟩
theorem Ex.xc {H H' : Hp} (e : Ex H H') (C : Addr → Prop) : Xc C H H' := fun a u _ h => e a u h
theorem _root_.L2.Same.xc {H H' : Hp} (e : Same H H') (C : Addr → Prop) : Xc C H H' := fun a u _ h => e a u h
def ItOk (C : Addr → Prop) (J : It) (xs : List D) (H1 : Hp) : Prop := ∀ (C' : Addr → Prop) H', (∀ a, C' a → C a ∨ H1 a = none) → Al C' H' → Xc C' H1 H' →
  (∀ i, xs.length ≤ i → J.stop i H') ∧ ∀ i d, xs[i]? = some d → J.go i H' ∧ ∀ x H'', J.yld i H' x H'' → Ex H' H'' ∧ Rp C' H'' x d
def iSem (G : Gm) (xs : List D) : TI := fun σ H R => ∃ C, Al C H ∧ Sat C H σ G ∧ ∀ J H1, Ex H H1 → ItOk C J xs H1 → R J H1

section
variable {X : Cx}
theorem _root_.L2.PE.wk {e : Expr} {t t' : TE} (h : PE X e t) (w : ∀ σ H Q, t' σ H Q → t σ H Q) : PE X e t' := ⟨fun pins s σ H Q I q => h.run pins s σ H Q I (w σ H Q q)⟩
theorem _root_.L2.PT.wk {e : Expr} {t t' : TT} (h : PT X e t) (w : ∀ σ H Q, t' σ H Q → t σ H Q) : PT X e t' := ⟨fun pins s σ H Q I q => h.run pins s σ H Q I (w σ H Q q)⟩
theorem _root_.L2.PW.wk {e : Expr} {t t' : TT} (h : PW X e t) (w : ∀ σ H Q, t' σ H Q → t σ H Q) : PW X e t' := ⟨fun wh pins s σ H Q I q => h.run wh pins s σ H Q I (w σ H Q q)⟩
theorem _root_.L2.PA.wk {e : List Expr} {t t' : TA} (h : PA X e t) (w : ∀ σ H Q, t' σ H Q → t σ H Q) : PA X e t' := ⟨fun p pins s σ H Q I q => h.run p pins s σ H Q I (w σ H Q q)⟩
theorem _root_.L2.PS.wk {e : Stmt} {t t' : TS} (h : PS X e t) (w : ∀ D σ H, t' D σ H → t D σ H) : PS X e t' := ⟨fun pins s σ H D I q => h.run pins s σ H D I (w D σ H q)⟩
theorem _root_.L2.PSs.wk {e : List Stmt} {t t' : TS} (h : PSs X e t) (w : ∀ D σ H, t' D σ H → t D σ H) : PSs X e t' := ⟨fun pins s σ H D I q => h.run pins s σ H D I (w D σ H q)⟩
theorem _root_.L2.PI.wk {tg e : Expr} {t t' : TI} (h : PI X tg e t) (w : ∀ σ H Q, t' σ H Q → t σ H Q) : PI X tg e t' := ⟨fun pins s σ H R I q => h.run pins s σ H R I (w σ H R q)⟩
theorem _root_.L2.PTs.wk {e : List Expr} {t t' : TT} (h : PTs X e t) (w : ∀ σ H Q, t' σ H Q → t σ H Q) : PTs X e t' := ⟨fun pins s σ H Q I q => h.run pins s σ H Q I (w σ H Q q)⟩
theorem _root_.L2.PE.all {ι : Sort _} {e : Expr} {t : ι → TE} {p : ι → Prop} (h : ∀ x, p x → PE X e (t x)) : PE X e (fun σ H Q => ∃ x, p x ∧ t x σ H Q) := ⟨fun pins s σ H Q I ⟨x, px, q⟩ => (h x px).run pins s σ H Q I q⟩
theorem _root_.L2.PTs.all {ι : Sort _} {e : List Expr} {t : ι → TT} {p : ι → Prop} (h : ∀ x, p x → PTs X e (t x)) : PTs X e (fun σ H Q => ∃ x, p x ∧ t x σ H Q) := ⟨fun pins s σ H Q I ⟨x, px, q⟩ => (h x px).run pins s σ H Q I q⟩
theorem _root_.L2.PSs.all {ι : Sort _} {e : List Stmt} {t : ι → TS} {p : ι → Prop} (h : ∀ x, p x → PSs X e (t x)) : PSs X e (fun D σ H => ∃ x, p x ∧ t x D σ H) := ⟨fun pins s σ H Q I ⟨x, px, q⟩ => (h x px).run pins s σ H Q I q⟩
theorem _root_.L2.PI.all {ι : Sort _} {tg e : Expr} {t : ι → TI} {p : ι → Prop} (h : ∀ x, p x → PI X tg e (t x)) : PI X tg e (fun σ H Q => ∃ x, p x ∧ t x σ H Q) := ⟨fun pins s σ H Q I ⟨x, px, q⟩ => (h x px).run pins s σ H Q I q⟩
theorem _root_.L2.PE.or {e : Expr} {t t' : TE} (h : PE X e t) (h' : PE X e t') : PE X e (fun σ H Q => t σ H Q ∨ t' σ H Q) := ⟨fun pins s σ H Q I q => q.elim (h.run pins s σ H Q I) (h'.run pins s σ H Q I)⟩
end
abbrev JE (X : Cx) (e : Expr) (G : Gm) (d : D) : Prop := PE X e (tSem G d)
abbrev JT (X : Cx) (e : Expr) (G : Gm) (b : Bool) : Prop := PT X e (tSemT G b)
abbrev JW (X : Cx) (e : Expr) (G : Gm) (b : Bool) : Prop := PW X e (tSemT G b)
abbrev JA (X : Cx) (e : List Expr) (G : Gm) (ds : List D) : Prop := PA X e (tSemA G ds)
abbrev JS (X : Cx) (e : Stmt) (G : Gm) (N : Gm → Prop) (R : D → Prop) : Prop := PS X e (tSemS G N R)
abbrev JB (X : Cx) (e : List Stmt) (G : Gm) (N : Gm → Prop) (R : D → Prop) : Prop := PSs X e (tSemS G N R)
abbrev JI (X : Cx) (tg e : Expr) (G : Gm) (xs : List D) : Prop := PI X tg e (iSem G xs)
abbrev JTs (X : Cx) (e : List Expr) (G : Gm) (b : Bool) : Prop := PTs X e (tSemT G b)

section
variable {X : Cx} {G : Gm} {pos : Pos} {a b c : Expr}
/-! ### names, constants -/
theorem je_var (i : Nat) {x : Str} {d : D} (hG : G[i]? = some (some d) := by rfl) (hN : X.N[i]? = some x := by rfl) (hv : Vis X.env.scope x := by first | exact Or.inl rfl | exact Or.inr (Or.inl rfl) | exact Or.inr (Or.inr rfl)) (hd : (x == ("__debug__" : Str)) = false := by decide)
    (hcd : (x == ("__classdict__" : Str)) = false := by decide) : JE X (.Name x pos) G d :=
  (pe_var hN hv hd hcd).wk fun σ H Q ⟨C, al, s, q⟩ => by
    obtain ⟨v, h1, h2⟩ := s.at_ i d hG
    exact ⟨v, h1, q v H (Same.refl H) h2⟩
theorem je_int {i : Int} {j : Nat} : JE X (.Constant (.int i) j pos) G (.int i) := pe_int.wk fun σ H Q ⟨C, al, s, q⟩ => q _ H (Same.refl H) (.int i)
theorem je_bl {b : Bool} {j : Nat} : JE X (.Constant (.bool b) j pos) G (.bl b) := pe_bl.wk fun σ H Q ⟨C, al, s, q⟩ => q _ H (Same.refl H) (.bl b)
theorem je_non {j : Nat} : JE X (.Constant .none j pos) G .non := pe_non.wk fun σ H Q ⟨C, al, s, q⟩ => q _ H (Same.refl H) .non
theorem je_globI {x : Str} {i : Int} (hm : ∃ t, X.mg x = some (.int i t)) (hg : Gl X x := by rfl) (hd : (x == ("__debug__" : Str)) = false := by decide) : JE X (.Name x pos) G (.int i) := by
  obtain ⟨t, hm⟩ := hm
  exact (pe_glob (v := .int i) hg hm ⟨t, rfl⟩ hd).wk fun σ H Q ⟨C, al, s, q⟩ => q _ H (Same.refl H) (.int i)

/-! ### two and one -/
theorem rp_int {C : Addr → Prop} {H : Hp} {v : V} {i : Int} (h : Rp C H v (.int i)) : v = .int i := by cases h; rfl
theorem rp_bl {C : Addr → Prop} {H : Hp} {v : V} {b : Bool} (h : Rp C H v (.bl b)) : v = .bl b := by cases h; rfl
theorem rp_non {C : Addr → Prop} {H : Hp} {v : V} (h : Rp C H v .non) : v = .non := by cases h; rfl
/-- reading two expressions -/
theorem two {da db : D} {σ : St} {H : Hp} {R : V → V → Hp → Prop} {C : Addr → Prop} (al : Al C H) (s : Sat C H σ G) (q : ∀ x y H', Ex H H' → Rp C H' x da → Rp C H' y db → R x y H') :
    tSem G da σ H fun x H1 => tSem G db σ H1 fun y H2 => R x y H2 :=
  ⟨C, al, s, fun x H1 e1 r1 => ⟨C, e1.al al, s.ex e1, fun y H2 e2 r2 => q x y H2 (e1.trans e2) (Rp.mv (e2.mv C) _ _ r1) r2⟩⟩
theorem je_op {op : Operator} {r : R2} {da db d : D} (ho : OpR X (binaryOp op) r) (ha : JE X a G da) (hb : JE X b G db)
    (hr : ∀ C x y H, Al C H → Rp C H x da → Rp C H y db → ∀ Q : VK, (∀ v H', Ex H H' → Rp C H' v d → Q v H') → r x y H Q) : JE X (.BinOp a op b pos) G d :=
  (pe_op ho ha hb).wk fun σ H Q ⟨C, al, s, q⟩ => two al s fun x y H' e r1 r2 => hr C x y H' (e.al al) r1 r2 Q fun v H'' e2 r => q v H'' (e.trans e2) r
theorem je_cmp {op : CmpOp} {r : R2} {da db d : D} (ho : OpR X (compareOp op) r) (hm : behindInMarks op b = false) (ha : JE X a G da) (hb : JE X b G db)
    (hr : ∀ C x y H, Al C H → Rp C H x da → Rp C H y db → ∀ Q : VK, (∀ v H', Ex H H' → Rp C H' v d → Q v H') → r x y H Q) : JE X (.Compare a [op] [b] pos) G d :=
  (pe_cmpR ho ha hb hm).wk fun σ H Q ⟨C, al, s, q⟩ => two al s fun x y H' e r1 r2 => hr C x y H' (e.al al) r1 r2 Q fun v H'' e2 r => q v H'' (e.trans e2) r
theorem je_add {i j : Int} (ha : JE X a G (.int i)) (hb : JE X b G (.int j)) : JE X (.BinOp a .Add b pos) G (.int (i + j)) :=
  je_op op_add ha hb fun C x y H al r1 r2 Q q => ⟨i, j, rp_int r1, rp_int r2, q _ H (Same.refl H) (.int _)⟩
theorem je_sub {i j : Int} (ha : JE X a G (.int i)) (hb : JE X b G (.int j)) : JE X (.BinOp a .Sub b pos) G (.int (i - j)) :=
  je_op op_sub ha hb fun C x y H al r1 r2 Q q => ⟨i, j, rp_int r1, rp_int r2, q _ H (Same.refl H) (.int _)⟩
theorem je_mul {i j : Int} (hc : CMul i j) (ha : JE X a G (.int i)) (hb : JE X b G (.int j)) : JE X (.BinOp a .Mult b pos) G (.int (i * j)) :=
  je_op op_mul ha hb fun C x y H al r1 r2 Q q => ⟨i, j, rp_int r1, rp_int r2, hc, q _ H (Same.refl H) (.int _)⟩
theorem je_div {i j : Int} (hc : CDiv i j) (ha : JE X a G (.int i)) (hb : JE X b G (.int j)) : JE X (.BinOp a .FloorDiv b pos) G (.int (i / j)) :=
  je_op op_fdiv ha hb fun C x y H al r1 r2 Q q => ⟨i, j, rp_int r1, rp_int r2, hc, q _ H (Same.refl H) (.int _)⟩
theorem je_mod {i j : Int} (hc : 0 < j) (ha : JE X a G (.int i)) (hb : JE X b G (.int j)) : JE X (.BinOp a .Mod b pos) G (.int (i % j)) :=
  je_op op_mod ha hb fun C x y H al r1 r2 Q q => ⟨i, j, rp_int r1, rp_int r2, hc, q _ H (Same.refl H) (.int _)⟩
theorem je_un {op : UnaryOp} {r : V → Hp → VK → Prop} {da d : D} (ho : UnR X (unaryOp op) r) (ha : JE X a G da)
    (hr : ∀ C x H, Al C H → Rp C H x da → ∀ Q : VK, (∀ v H', Ex H H' → Rp C H' v d → Q v H') → r x H Q) : JE X (.UnaryOp op a pos) G d :=
  (pe_un ho ha).wk fun σ H Q ⟨C, al, s, q⟩ => ⟨C, al, s, fun x H1 e1 r1 => hr C x H1 (e1.al al) r1 Q fun v H' e2 r => q v H' (e1.trans e2) r⟩
theorem je_neg {i : Int} (ha : JE X a G (.int i)) : JE X (.UnaryOp .USub a pos) G (.int (-i)) :=
  je_un un_neg ha fun C x H al r1 Q q => ⟨i, rp_int r1, q _ H (Same.refl H) (.int _)⟩
theorem je_lt {i j : Int} (ha : JE X a G (.int i)) (hb : JE X b G (.int j)) : JE X (.Compare a [.Lt] [b] pos) G (.bl (decide (i < j))) :=
  je_cmp op_lt (nomark _) ha hb fun C x y H al r1 r2 Q q => ⟨i, j, rp_int r1, rp_int r2, q _ H (Same.refl H) (.bl _)⟩
theorem je_le {i j : Int} (ha : JE X a G (.int i)) (hb : JE X b G (.int j)) : JE X (.Compare a [.LtE] [b] pos) G (.bl (decide (i ≤ j))) :=
  je_cmp op_le (nomark _) ha hb fun C x y H al r1 r2 Q q => ⟨i, j, rp_int r1, rp_int r2, q _ H (Same.refl H) (.bl _)⟩
theorem je_gt {i j : Int} (ha : JE X a G (.int i)) (hb : JE X b G (.int j)) : JE X (.Compare a [.Gt] [b] pos) G (.bl (decide (j < i))) :=
  je_cmp op_gt (nomark _) ha hb fun C x y H al r1 r2 Q q => ⟨i, j, rp_int r1, rp_int r2, q _ H (Same.refl H) (.bl _)⟩
theorem je_ge {i j : Int} (ha : JE X a G (.int i)) (hb : JE X b G (.int j)) : JE X (.Compare a [.GtE] [b] pos) G (.bl (decide (j ≤ i))) :=
  je_cmp op_ge (nomark _) ha hb fun C x y H al r1 r2 Q q => ⟨i, j, rp_int r1, rp_int r2, q _ H (Same.refl H) (.bl _)⟩
theorem je_eqI {i j : Int} (ha : JE X a G (.int i)) (hb : JE X b G (.int j)) : JE X (.Compare a [.Eq] [b] pos) G (.bl (decide (i = j))) :=
  je_cmp op_eq (nomark _) ha hb fun C x y H al r1 r2 Q q => by
    cases r1; cases r2
    exact ⟨rfl, q _ H (Same.refl H) (by rw [show decide (V.int i = V.int j) = decide (i = j) by rw [dec_int, Bool.beq_eq_decide_eq]]; exact .bl _)⟩
theorem je_neI {i j : Int} (ha : JE X a G (.int i)) (hb : JE X b G (.int j)) : JE X (.Compare a [.NotEq] [b] pos) G (.bl (!decide (i = j))) :=
  je_cmp op_ne (nomark _) ha hb fun C x y H al r1 r2 Q q => by
    cases r1; cases r2
    exact ⟨rfl, q _ H (Same.refl H) (by rw [show decide (V.int i = V.int j) = decide (i = j) by rw [dec_int, Bool.beq_eq_decide_eq]]; exact .bl _)⟩
theorem je_neB {i j : Bool} (ha : JE X a G (.bl i)) (hb : JE X b G (.bl j)) : JE X (.Compare a [.NotEq] [b] pos) G (.bl (!decide (i = j))) :=
  je_cmp op_ne (nomark _) ha hb fun C x y H al r1 r2 Q q => by
    cases r1; cases r2
    exact ⟨rfl, q _ H (Same.refl H) (by rw [show decide (V.bl i = V.bl j) = decide (i = j) by rw [dec_bl, Bool.beq_eq_decide_eq]]; exact .bl _)⟩
theorem je_isnotB {i j : Bool} (ha : JE X a G (.bl i)) (hb : JE X b G (.bl j)) : JE X (.Compare a [.IsNot] [b] pos) G (.bl (!decide (i = j))) :=
  je_cmp op_isnot_bl (nomark _) ha hb fun C x y H al r1 r2 Q q => ⟨i, j, rp_bl r1, rp_bl r2, q _ H (Same.refl H) (.bl _)⟩
theorem je_chain {r r' : R2} {op op' : CmpOp} {i j k : Int} {b1 b2 : Bool} (ho : OpR X (compareOp op) r) (ho' : OpR X (compareOp op') r') (ha : JE X a G (.int i)) (hb : JE X b G (.int j)) (hc : JE X c G (.int k))
    (h1 : ∀ H (Q : VK), Q (.bl b1) H → r (.int i) (.int j) H Q) (h2 : ∀ H (Q : VK), Q (.bl b2) H → r' (.int j) (.int k) H Q) (hm : behindInMarks op b = false) (hm' : behindInMarks op' c = false) (P : PE X (.Compare a [op, op'] [b, c] pos) (tChain r r' (tSem G (.int i)) (tSem G (.int j)) (tSem G (.int k)))) : JE X (.Compare a [op, op'] [b, c] pos) G (.bl (b1 && b2)) :=
  P.wk fun σ H Q ⟨C, al, s, q⟩ => two al s fun x y H2 e r1 r2 => by
    cases r1; cases r2
    refine h1 _ _ ⟨b1, rfl, ?_⟩
    cases b1 with
    | true => exact iteT ⟨C, e.al al, s.ex e, fun z H3 e3 r3 => by
        cases r3
        exact h2 _ _ (q _ H3 (e.trans e3) (by rw [Bool.true_and]; exact .bl _))⟩
    | false => exact iteF (q _ H2 e (.bl _))
end
end L2.K79

set_option Elab.async false
set_option linter.all false
set_option maxRecDepth 100000
set_option maxHeartbeats 4000000
namespace L2.K79
open PySem PySem.Spec PyProof.Rows L2

/-! ### lists of data -/
section
variable {C : Addr → Prop} {H : Hp}
theorem RpA.length : ∀ {vs : List V} {ds : List D}, RpA C H vs ds → vs.length = ds.length
  | _, [], h => by cases h; rfl
  | _, d :: ds, h => by cases h with | cons h1 h2 => simp [RpA.length h2]
theorem RpA.get : ∀ {vs : List V} {ds : List D} {i : Nat} {d : D}, RpA C H vs ds → ds[i]? = some d → ∃ v, vs[i]? = some v ∧ Rp C H v d
  | _, [], i, d, h, e => by simp at e
  | _, x :: ds, 0, d, h, e => by
    cases h with
    | cons h1 h2 =>
      simp at e; subst e
      exact ⟨_, rfl, h1⟩
  | _, x :: ds, i + 1, d, h, e => by
    cases h with
    | cons h1 h2 =>
      obtain ⟨v, q1, q2⟩ := RpA.get (i := i) (d := d) h2 (by simpa using e)
      exact ⟨v, by simpa using q1, q2⟩
theorem RpA.append : ∀ {vs ws : List V} {ds es : List D}, RpA C H vs ds → RpA C H ws es → RpA C H (vs ++ ws) (ds ++ es)
  | _, _, [], _, h, g => by cases h; exact g
  | _, _, d :: ds, _, h, g => by cases h with | cons h1 h2 => exact .cons h1 (RpA.append h2 g)
theorem RpA.one {v : V} {d : D} (h : Rp C H v d) : RpA C H [v] [d] := .cons h .nil
theorem RpA.drop : ∀ {vs : List V} {ds : List D} (n : Nat), RpA C H vs ds → RpA C H (vs.drop n) (ds.drop n)
  | _, _, 0, h => h
  | _, [], n + 1, h => by cases h; exact .nil
  | _, d :: ds, n + 1, h => by cases h with | cons h1 h2 => exact RpA.drop n h2
theorem RpA.take : ∀ {vs : List V} {ds : List D} (n : Nat), RpA C H vs ds → RpA C H (vs.take n) (ds.take n)
  | _, _, 0, h => .nil
  | _, [], n + 1, h => by cases h; exact .nil
  | _, d :: ds, n + 1, h => by cases h with | cons h1 h2 => exact .cons h1 (RpA.take n h2)
theorem RpA.reverse : ∀ {vs : List V} {ds : List D}, RpA C H vs ds → RpA C H vs.reverse ds.reverse
  | _, [], h => by cases h; exact .nil
  | _, d :: ds, h => by
    cases h with
    | cons h1 h2 =>
      rw [List.reverse_cons, List.reverse_cons]
      exact RpA.append (RpA.reverse h2) (.one h1)
theorem rpA_int : ∀ {vs : List V} {ns : List Int}, RpA C H vs (ns.map D.int) → vs = ns.map V.int
  | _, [], h => by cases h; rfl
  | _, n :: ns, h => by
    cases h with
    | cons h1 h2 =>
      cases h1
      rw [rpA_int h2]
      rfl
theorem rpA_of_int : ∀ (ns : List Int), RpA C H (ns.map V.int) (ns.map D.int)
  | [] => .nil
  | n :: ns => .cons (.int n) (rpA_of_int ns)
theorem rpA_bl : ∀ {vs : List V} {ns : List Bool}, RpA C H vs (ns.map D.bl) → vs = ns.map V.bl
  | _, [], h => by cases h; rfl
  | _, n :: ns, h => by
    cases h with
    | cons h1 h2 =>
      cases h1
      rw [rpA_bl h2]
      rfl
end

/-! ### the forgetting of slots -/
theorem wipe_get (σ : St) (i : Nat) : ∀ vs : List Nat, (L2.wipe σ vs)[i]? = if i ∈ vs ∧ i < σ.length then some none else σ[i]?
  | [] => by simp [L2.wipe]
  | v :: vs => by
    unfold L2.wipe
    by_cases h : v = i
    · subst h
      by_cases hl : v < σ.length
      · rw [List.getElem?_set_self (by rw [wipe_length]; exact hl), if_pos ⟨by simp, hl⟩]
      · rw [List.getElem?_eq_none (by simp [wipe_length]; omega), if_neg (fun z => hl z.2), List.getElem?_eq_none (by omega)]
    · rw [List.getElem?_set_ne h, wipe_get σ i vs]
      by_cases hm : i ∈ vs
      · by_cases hl : i < σ.length
        · rw [if_pos ⟨hm, hl⟩, if_pos ⟨by simp [hm], hl⟩]
        · rw [if_neg (fun z => hl z.2), if_neg (fun z => hl z.2)]
      · rw [if_neg (fun z => hm z.1), if_neg (fun z => by
          rcases List.mem_cons.mp z.1 with e | e
          · exact h e.symm
          · exact hm e)]
theorem wipe_wipe (σ : St) (vs : List Nat) : L2.wipe (L2.wipe σ vs) vs = L2.wipe σ vs := by
  apply List.ext_getElem?
  intro i
  rw [wipe_get, wipe_length, wipe_get]
  split <;> rfl
theorem wipe_set (σ : St) (vs : List Nat) {i : Nat} (x : Option V) (h : i ∈ vs) : L2.wipe (σ.set i x) vs = L2.wipe σ vs := by
  apply List.ext_getElem?
  intro j
  rw [wipe_get, wipe_get, List.length_set]
  by_cases hj : j ∈ vs ∧ j < σ.length
  · rw [if_pos hj, if_pos hj]
  · rw [if_neg hj, if_neg hj]
    by_cases e : i = j
    · subst e
      rw [List.getElem?_eq_none (by simp; exact Nat.not_lt.mp (fun z => hj ⟨h, z⟩)), List.getElem?_eq_none (Nat.not_lt.mp (fun z => hj ⟨h, z⟩))]
    · rw [List.getElem?_set_ne e]

/-! ### targets -/
def GOk (g : TG) (vs : List Nat) (G : Gm) (d : D) (G' : Gm) : Prop := ∀ C v σ H Q, Sat C H σ G → Rp C H v d → (∀ σ', Sat C H σ' G' → L2.wipe σ' vs = L2.wipe σ vs → Q σ' H) → g v σ H Q
def GF (g : TG) (G : Gm) (d : D) (G' : Gm) : Prop := ∀ C v σ H Q, Sat C H σ G → Rp C H v d → (∀ σ', Sat C H σ' G' → Q σ' H) → g v σ H Q
theorem gok_name {i : Nat} {vs : List Nat} {G : Gm} {d : D} (h : i ∈ vs) : GOk (gName i) vs G d (G.set i (some d)) := fun C v σ H Q s r q => q _ (s.set i r) (wipe_set σ vs _ h)
theorem gf_name {i : Nat} {G : Gm} {d : D} : GF (gName i) G d (G.set i (some d)) := fun C v σ H Q s r q => q _ (s.set i r)
theorem gok_pair {K : PySem.W.Frag} {i j : Nat} {vs : List Nat} {G : Gm} {d e : D} (hi : i ∈ vs) (hj : j ∈ vs) : GOk (gTup K 2 (gCons (gName i) (gCons (gName j) gNil))) vs G (.tup [d, e]) ((G.set i (some d)).set j (some e)) := fun C v σ H Q s r q => by
  cases r with
  | tup hc hr ha =>
    cases ha with
    | cons h1 h2 =>
      cases h2 with
      | cons h3 h4 =>
        cases h4
        exact ⟨_, _, rfl, .inl hr.rd, rfl, _, _, rfl, _, _, rfl, rfl, q _ ((s.set i h1).set j h3) (by rw [wipe_set _ _ _ hj, wipe_set _ _ _ hi])⟩
theorem gf_pair {K : PySem.W.Frag} {i j : Nat} {G : Gm} {d e : D} : GF (gTup K 2 (gCons (gName i) (gCons (gName j) gNil))) G (.tup [d, e]) ((G.set i (some d)).set j (some e)) := fun C v σ H Q s r q => by
  cases r with
  | tup hc hr ha =>
    cases ha with
    | cons h1 h2 =>
      cases h2 with
      | cons h3 h4 =>
        cases h4
        exact ⟨_, _, rfl, .inl hr.rd, rfl, _, _, rfl, _, _, rfl, rfl, q _ ((s.set i h1).set j h3)⟩

section
variable {X : Cx} {G : Gm} {pos : Pos} {a b c e : Expr} {es : List Expr}
/-! ### tests -/
theorem jt_of {k : Bool} (h : JE X a G (.bl k)) (he : ∀ whole, isTrue a X.env whole = (do let v ← whole; standAt a.pos; holding [v] (truthy v)) := by intro _; rfl) : JT X a G k :=
  (pt_val h he).wk fun σ H Q ⟨C, al, s, q⟩ => ⟨C, al, s, fun v H' e r => ⟨k, rp_bl r, q H' e⟩⟩
/-- a comparison as a test -/
theorem jt_cmpR {op : CmpOp} {r : R2} {da db : D} {k : Bool} (ho : OpR X (compareOp op) r) (hm : behindInMarks op b = false) (ha : JE X a G da) (hb : JE X b G db)
    (hr : ∀ C x y H, Al C H → Rp C H x da → Rp C H y db → ∀ Q : VK, (∀ v H', Ex H H' → Rp C H' v (.bl k) → Q v H') → r x y H Q) : JT X (.Compare a [op] [b] pos) G k :=
  (pt_cmpR ho ha hb hm).wk fun σ H Q ⟨C, al, s, q⟩ => two al s fun x y H' e r1 r2 => hr C x y H' (e.al al) r1 r2 _ fun v H'' e2 r => ⟨k, rp_bl r, q H'' (e.trans e2)⟩
theorem jt_not {k : Bool} (h : JT X a G k) : JT X (.UnaryOp .Not a pos) G (!k) := (pt_not h).wk fun σ H Q ⟨C, al, s, q⟩ => ⟨C, al, s, fun H' e => q H' e⟩
theorem jw_and1 {k : Bool} (h : JT X a G k) : JW X (.BoolOp .And [a] pos) G k := (pw_and1 h).wk fun σ H Q q => q
theorem jw_or1 {k : Bool} (h : JT X a G k) : JW X (.BoolOp .Or [a] pos) G k := (pw_or1 h).wk fun σ H Q q => q
theorem pw_ex {k : Prop} {e : Expr} {t : TT} (h : k → PW X e t) : PW X e (fun σ H Q => k ∧ t σ H Q) := ⟨fun wh pins s σ H Q I q => (h q.1).run wh pins s σ H Q I q.2⟩
theorem jw_and {k l : Bool} (h : JT X a G k) (hb : k = true → JW X (.BoolOp .And (b :: es) pos) G l) : JW X (.BoolOp .And (a :: b :: es) pos) G (k && l) :=
  (pw_and h (pw_ex hb)).wk fun σ H Q ⟨C, al, s, q⟩ => ⟨C, al, s, fun H1 e1 => by
    cases k with
    | true => exact iteT ⟨rfl, C, e1.al al, s.ex e1, fun H2 e2 => q H2 (e1.trans e2)⟩
    | false => exact iteF (q H1 e1)⟩
theorem jw_or {k l : Bool} (h : JT X a G k) (hb : k = false → JW X (.BoolOp .Or (b :: es) pos) G l) : JW X (.BoolOp .Or (a :: b :: es) pos) G (k || l) :=
  (pw_or h (pw_ex hb)).wk fun σ H Q ⟨C, al, s, q⟩ => ⟨C, al, s, fun H1 e1 => by
    cases k with
    | true => exact iteT (q H1 e1)
    | false => exact iteF ⟨rfl, C, e1.al al, s.ex e1, fun H2 e2 => q H2 (e1.trans e2)⟩⟩
theorem jw_pt {k : Bool} (h : JW X a G k) : JT X a G k := h.pt
/-! ### values by truth values -/
theorem pe_ex {k : Prop} {e : Expr} {t : TE} (h : k → PE X e t) : PE X e (fun σ H Q => k ∧ t σ H Q) := ⟨fun pins s σ H Q I q => (h q.1).run pins s σ H Q I q.2⟩
theorem je_one {op : BoolOp} {d : D} (h : JE X a G d) : JE X (.BoolOp op [a] pos) G d := pe_one h
theorem je_and {k l : Bool} (h : JE X a G (.bl k)) (hb : k = true → JE X (.BoolOp .And (b :: es) pos) G (.bl l)) : JE X (.BoolOp .And (a :: b :: es) pos) G (.bl (k && l)) :=
  (pe_and h (pe_ex hb)).wk fun σ H Q ⟨C, al, s, q⟩ => ⟨C, al, s, fun v H1 e1 r => ⟨k, rp_bl r, by
    cases k with
    | true => exact iteT ⟨rfl, C, e1.al al, s.ex e1, fun v H2 e2 r2 => q v H2 (e1.trans e2) r2⟩
    | false => exact iteF (q _ H1 e1 (.bl _))⟩⟩
theorem je_or {k l : Bool} (h : JE X a G (.bl k)) (hb : k = false → JE X (.BoolOp .Or (b :: es) pos) G (.bl l)) : JE X (.BoolOp .Or (a :: b :: es) pos) G (.bl (k || l)) :=
  (pe_or h (pe_ex hb)).wk fun σ H Q ⟨C, al, s, q⟩ => ⟨C, al, s, fun v H1 e1 r => ⟨k, rp_bl r, by
    cases k with
    | true => exact iteT (q _ H1 e1 (.bl _))
    | false => exact iteF ⟨rfl, C, e1.al al, s.ex e1, fun v H2 e2 r2 => q v H2 (e1.trans e2) r2⟩⟩⟩
theorem je_not {k : Bool} (h : JE X a G (.bl k)) : JE X (.UnaryOp .Not a pos) G (.bl (!k)) := (pe_not h).wk fun σ H Q ⟨C, al, s, q⟩ => ⟨C, al, s, fun v H1 e1 r => ⟨k, rp_bl r, q _ H1 e1 (.bl _)⟩⟩
theorem je_if {k : Bool} {d : D} (h : JT X c G k) (ha : k = true → JE X a G d) (hb : k = false → JE X b G d) : JE X (.IfExp c a b pos) G d :=
  (pe_ifExp h (pe_ex ha) (pe_ex hb)).wk fun σ H Q ⟨C, al, s, q⟩ => ⟨C, al, s, fun H1 e1 => by
    cases k with
    | true => exact iteT ⟨rfl, C, e1.al al, s.ex e1, fun v H2 e2 r2 => q v H2 (e1.trans e2) r2⟩
    | false => exact iteF ⟨rfl, C, e1.al al, s.ex e1, fun v H2 e2 r2 => q v H2 (e1.trans e2) r2⟩⟩
theorem je_chainI {r r' : R2} {op op' : CmpOp} {i j k : Int} {b1 b2 : Bool} (ho : OpR X (compareOp op) r) (ho' : OpR X (compareOp op') r') (ha : JE X a G (.int i)) (hb : JE X b G (.int j)) (hc : JE X c G (.int k))
    (h1 : ∀ H (Q : VK), Q (.bl b1) H → r (.int i) (.int j) H Q) (h2 : ∀ H (Q : VK), Q (.bl b2) H → r' (.int j) (.int k) H Q) (hm : behindInMarks op b = false) (hm' : behindInMarks op' c = false) (hl : lastMarks [op, op'] [b, c] = false := by with_unfolding_all rfl) : JE X (.Compare a [op, op'] [b, c] pos) G (.bl (b1 && b2)) :=
  je_chain ho ho' ha hb hc h1 h2 hm hm' (pe_chain ho ho' ha hb hc hl)
/-- a ≤ b ≤ c -/
theorem je_lele {i j k : Int} (ha : JE X a G (.int i)) (hb : JE X b G (.int j)) (hc : JE X c G (.int k)) (hl : lastMarks [.LtE, .LtE] [b, c] = false := by with_unfolding_all rfl) : JE X (.Compare a [.LtE, .LtE] [b, c] pos) G (.bl (decide (i ≤ j) && decide (j ≤ k))) :=
  je_chainI op_le op_le ha hb hc (fun H Q q => ⟨i, j, rfl, rfl, q⟩) (fun H Q q => ⟨j, k, rfl, rfl, q⟩) (nomark _) (nomark _) hl
/-- a < b ≤ c -/
theorem je_ltle {i j k : Int} (ha : JE X a G (.int i)) (hb : JE X b G (.int j)) (hc : JE X c G (.int k)) (hl : lastMarks [.Lt, .LtE] [b, c] = false := by with_unfolding_all rfl) : JE X (.Compare a [.Lt, .LtE] [b, c] pos) G (.bl (decide (i < j) && decide (j ≤ k))) :=
  je_chainI op_lt op_le ha hb hc (fun H Q q => ⟨i, j, rfl, rfl, q⟩) (fun H Q q => ⟨j, k, rfl, rfl, q⟩) (nomark _) (nomark _) hl

/-! ### arguments, displays -/
theorem ja_nil : JA X [] G [] := pa_nil.wk fun σ H Q ⟨C, al, s, q⟩ => q _ H (Same.refl H) .nil
theorem ja_cons {d : D} {ds : List D} (h : JE X e G d) (hr : JA X es G ds) (hs : starEach (e :: es) X.env = (false, eval e X.env) :: starEach es X.env := by rfl) : JA X (e :: es) G (d :: ds) :=
  (pa_cons h hr hs).wk fun σ H Q ⟨C, al, s, q⟩ => ⟨C, al, s, fun x H1 e1 r1 => ⟨C, e1.al al, s.ex e1, fun xs H2 e2 r2 => q _ H2 (e1.trans e2) (.cons (Rp.mv (e2.mv C) _ _ r1) r2)⟩⟩
theorem fresh_C {C : Addr → Prop} {H : Hp} {p : Addr} (al : Al C H) (h : H p = none) : ¬ C p := fun c => al p c h
/-- a new tuple, list -/
theorem rp_newT {C : Addr → Prop} {H : Hp} {p : Addr} {vs : List V} {ds : List D} (al : Al C H) (h : H p = none) (r : RpA C H vs ds) : Rp C (upd H p (.tup vs)) (.ref p) (.tup ds) :=
  .tup (fresh_C al h) (.inl upd_same) (RpA.mv ((Ex.new h).mv C) _ _ r)
theorem rp_newL {C : Addr → Prop} {H : Hp} {p : Addr} {vs : List V} {ds : List D} (al : Al C H) (h : H p = none) (r : RpA C H vs ds) : Rp C (upd H p (.lst vs)) (.ref p) (.lst ds) :=
  .lst (fresh_C al h) (.inl upd_same) (RpA.mv ((Ex.new h).mv C) _ _ r)
theorem sz {n : Nat} (h : n ≤ 100000) : n ≤ sizeLine := Nat.le_trans h (by decide)
theorem szl {n : Nat} (h : n < 100000) : n < sizeLine := Nat.lt_of_lt_of_le h (by decide)
theorem je_tup {ds : List D} {k : Nat} (h : JA X es G ds) (hl : ds.length ≤ 100000 := by decide) : JE X (.Tuple es k pos) G (.tup ds) :=
  (pe_tup h).wk fun σ H Q ⟨C, al, s, q⟩ => ⟨C, al, s, fun xs H1 e1 r1 => ⟨by rw [r1.length]; exact sz hl, fun p hp => q _ _ (e1.trans (Ex.new hp)) (rp_newT (e1.al al) hp r1)⟩⟩
theorem je_lst {ds : List D} (h : JA X es G ds) (hl : ds.length ≤ 100000 := by decide) : JE X (.List es pos) G (.lst ds) :=
  (pe_lst h).wk fun σ H Q ⟨C, al, s, q⟩ => ⟨C, al, s, fun xs H1 e1 r1 => ⟨by rw [r1.length]; exact sz hl, fun p hp => q _ _ (e1.trans (Ex.new hp)) (rp_newL (e1.al al) hp r1)⟩⟩

/-! ### built-ins called by name -/
theorem je_cB {x : Str} {p : Pos} {id : String} {r : List V → Hp → VK → Prop} {ds : List D} {d : D} (hc : CallR X (.builtin id) r) (hm : X.mg x = none) (hv : bootBuiltins x = some (.builtin id)) (ha : JA X (e :: es) G ds)
    (hr : ∀ C vs H, Al C H → RpA C H vs ds → ∀ Q : VK, (∀ v H', Ex H H' → Rp C H' v d → Q v H') → r vs H Q) (hg : Gl X x := by rfl) (hn : x ≠ "__name__" := by decide) (hdb : (x == ("__debug__" : Str)) = false := by decide)
    (he : starEach (e :: es) X.env = (false, eval e X.env) :: starEach es X.env := by rfl) (hpl : (backTo pos (starEach es X.env)).any (·.1) = false := by rfl) : JE X (.Call (.Name x p) (e :: es) [] pos) G d :=
  (pe_callB hc hg hm hv ha hn hdb he hpl).wk fun σ H Q ⟨C, al, s, q⟩ => ⟨C, al, s, fun vs H1 e1 r1 => hr C vs H1 (e1.al al) r1 Q fun v H2 e2 r2 => q v H2 (e1.trans e2) r2⟩
theorem je_cT {x : Str} {p : Pos} {id : String} {r : List V → Hp → VK → Prop} {ds : List D} {d : D} (hc : CallR X (.type id) r) (hm : X.mg x = none) (hv : bootBuiltins x = some (.type id)) (ha : JA X (e :: es) G ds)
    (hr : ∀ C vs H, Al C H → RpA C H vs ds → ∀ Q : VK, (∀ v H', Ex H H' → Rp C H' v d → Q v H') → r vs H Q) (hg : Gl X x := by rfl) (hn : x ≠ "__name__" := by decide) (hdb : (x == ("__debug__" : Str)) = false := by decide)
    (he : starEach (e :: es) X.env = (false, eval e X.env) :: starEach es X.env := by rfl) (hpl : (backTo pos (starEach es X.env)).any (·.1) = false := by rfl) : JE X (.Call (.Name x p) (e :: es) [] pos) G d :=
  (pe_callTy hc hg hm hv ha hn hdb he hpl).wk fun σ H Q ⟨C, al, s, q⟩ => ⟨C, al, s, fun vs H1 e1 r1 => hr C vs H1 (e1.al al) r1 Q fun v H2 e2 r2 => q v H2 (e1.trans e2) r2⟩

/-! ### defs of the program's own -/
/-- a promise about data -/
def spJ (R : List D → D → Prop) : Sp := fun vs H Q _ => ∃ C ds r, Al C H ∧ RpA C H vs ds ∧ R ds r ∧ ∀ v H', Ex H H' → Rp C H' v r → Q v H'
/-- a def that may be called -/
structure Cal (P : Program) (w : World) (K : PySem.W.Frag) (mg : Str → Option Value) (base : Heap) (k : Nat) (x : Str) (ps : List Str) (sp : Sp) : Prop where
  ex : ∃ f fd, FnOk P w K mg base CX0 k f fd ps sp ∧ mg x = some (.ref f) ∧ PySem.W.keepIn K (.ref f) = true ∧ Binds K fd ps []
theorem je_call {x : Str} {p : Pos} {k : Nat} {ps : List Str} {R : List D → D → Prop} {ds : List D} {r : D} (F : Cal X.prog X.w X.K X.mg X.base k x ps (spJ R)) (hr : Room k X.A) (ha : JA X (e :: es) G ds) (h : R ds r)
    (hg : Gl X x := by rfl) (hdb : (x == ("__debug__" : Str)) = false := by decide) (he : starEach (e :: es) X.env = (false, eval e X.env) :: starEach es X.env := by rfl) (hpl : (backTo pos (starEach es X.env)).any (·.1) = false := by rfl) :
    JE X (.Call (.Name x p) (e :: es) [] pos) G r := by
  obtain ⟨f, fd, F, hm, hk, hb⟩ := F.ex
  exact (pe_call (E := E0) F hr hg hm hk hb .nil pass0 ha hdb he hpl).wk fun σ H Q ⟨C, al, s, q⟩ => ⟨C, al, s, fun vs H1 e1 r1 => ⟨C, ds, r, e1.al al, by rw [List.append_nil]; exact r1, h, fun v H2 e2 r2 => q v H2 (e1.trans e2) r2⟩⟩
end
end L2.K79

set_option Elab.async false
set_option linter.all false
set_option maxRecDepth 100000
set_option maxHeartbeats 4000000
namespace L2.K79
open PySem PySem.Spec PyProof.Rows L2

section
variable {X : Cx} {G : Gm} {pos : Pos} {a b c e : Expr} {es : List Expr}
/-! ### sequences -/
theorem rpA_refl_mv {C : Addr → Prop} {H H' : Hp} {vs : List V} {ds : List D} (e : Ex H H') (r : RpA C H vs ds) : RpA C H' vs ds := RpA.mv (e.mv C) _ _ r
theorem je_lenT {x : Str} {p : Pos} {ds : List D} (hm : X.mg "len" = none) (ha : JE X e G (.tup ds)) (he : starEach [e] X.env = (false, eval e X.env) :: starEach [] X.env := by rfl) (hg : Gl X "len" := by rfl) (hpl : (backTo pos (starEach [] X.env)).any (·.1) = false := by rfl) : JE X (.Call (.Name "len" p) [e] [] pos) G (.int (ds.length : Nat)) :=
  je_cB call_len_seq hm PySem.boot_len (ja_cons ha ja_nil he) (fun C vs H al r Q q => by
    cases r with
    | cons h1 h2 =>
      cases h2
      cases h1 with
      | tup hc hr ht => exact ⟨_, _, rfl, .inr (.inl hr.rd), q _ H (Same.refl H) (by rw [ht.length]; exact .int _)⟩) hg (by decide) (by decide) he hpl
theorem je_lenL {p : Pos} {ds : List D} (hm : X.mg "len" = none) (ha : JE X e G (.lst ds)) (he : starEach [e] X.env = (false, eval e X.env) :: starEach [] X.env := by rfl) (hg : Gl X "len" := by rfl) (hpl : (backTo pos (starEach [] X.env)).any (·.1) = false := by rfl) : JE X (.Call (.Name "len" p) [e] [] pos) G (.int (ds.length : Nat)) :=
  je_cB call_len_seq hm PySem.boot_len (ja_cons ha ja_nil he) (fun C vs H al r Q q => by
    cases r with
    | cons h1 h2 =>
      cases h2
      cases h1 with
      | lst hc hr ht => exact ⟨_, _, rfl, .inl (.inl hr.rd), q _ H (Same.refl H) (by rw [ht.length]; exact .int _)⟩) hg (by decide) (by decide) he hpl
theorem je_lenTI {p : Pos} {ns : List Int} (hm : X.mg "len" = none) (ha : JE X e G (tI ns)) (he : starEach [e] X.env = (false, eval e X.env) :: starEach [] X.env := by rfl) (hg : Gl X "len" := by rfl) (hpl : (backTo pos (starEach [] X.env)).any (·.1) = false := by rfl) : JE X (.Call (.Name "len" p) [e] [] pos) G (.int (ns.length : Nat)) := by
  have h := je_lenT (x := "len") (p := p) (pos := pos) hm ha he hg hpl
  rw [List.length_map] at h
  exact h
theorem je_lenLI {p : Pos} {ns : List Int} (hm : X.mg "len" = none) (ha : JE X e G (lI ns)) (he : starEach [e] X.env = (false, eval e X.env) :: starEach [] X.env := by rfl) (hg : Gl X "len" := by rfl) (hpl : (backTo pos (starEach [] X.env)).any (·.1) = false := by rfl) : JE X (.Call (.Name "len" p) [e] [] pos) G (.int (ns.length : Nat)) := by
  have h := je_lenL (p := p) (pos := pos) hm ha he hg hpl
  rw [List.length_map] at h
  exact h
/-- tuple(list), list(list or tuple) -/
theorem je_tupleL {p : Pos} {ds : List D} (hm : X.mg "tuple" = none) (ha : JE X e G (.lst ds)) (he : starEach [e] X.env = (false, eval e X.env) :: starEach [] X.env := by rfl) (hg : Gl X "tuple" := by rfl) (hpl : (backTo pos (starEach [] X.env)).any (·.1) = false := by rfl) : JE X (.Call (.Name "tuple" p) [e] [] pos) G (.tup ds) :=
  je_cT call_tuple_of hm (by decide +kernel) (ja_cons ha ja_nil he) (fun C vs H al r Q q => by
    cases r with
    | cons h1 h2 =>
      cases h2
      cases h1 with
      | lst hc hr ht => exact ⟨_, _, rfl, .inl ⟨.inl hr.rd, fun l hl => q _ _ (Ex.new hl) (rp_newT al hl ht)⟩⟩) hg (by decide) (by decide) he hpl
theorem je_listT {p : Pos} {ds : List D} (hm : X.mg "list" = none) (ha : JE X e G (.tup ds)) (he : starEach [e] X.env = (false, eval e X.env) :: starEach [] X.env := by rfl) (hg : Gl X "list" := by rfl) (hpl : (backTo pos (starEach [] X.env)).any (·.1) = false := by rfl) : JE X (.Call (.Name "list" p) [e] [] pos) G (.lst ds) :=
  je_cT call_list_of hm (by decide +kernel) (ja_cons ha ja_nil he) (fun C vs H al r Q q => by
    cases r with
    | cons h1 h2 =>
      cases h2
      cases h1 with
      | tup hc hr ht => exact ⟨_, _, rfl, .inr (.inl hr.rd), fun l hl => q _ _ (Ex.new hl) (rp_newL al hl ht)⟩) hg (by decide) (by decide) he hpl
theorem je_abs {p : Pos} {i : Int} (hm : X.mg "abs" = none) (ha : JE X e G (.int i)) (he : starEach [e] X.env = (false, eval e X.env) :: starEach [] X.env := by rfl) (hg : Gl X "abs" := by rfl) (hpl : (backTo pos (starEach [] X.env)).any (·.1) = false := by rfl) : JE X (.Call (.Name "abs" p) [e] [] pos) G (.int (if i < 0 then -i else i)) :=
  je_cB call_abs hm (by decide +kernel) (ja_cons ha ja_nil he) (fun C vs H al r Q q => by
    cases r with
    | cons h1 h2 =>
      cases h2
      cases h1
      exact ⟨_, rfl, q _ H (Same.refl H) (.int _)⟩) hg (by decide) (by decide) he hpl
/-- all of a list of truth values -/
theorem je_all {p : Pos} {bs : List Bool} (hcalm : X.calm = true) (hm : X.mg "all" = none) (ha : JE X e G (.lst (bs.map D.bl))) (he : starEach [e] X.env = (false, eval e X.env) :: starEach [] X.env := by rfl) (hg : Gl X "all" := by rfl) (hpl : (backTo pos (starEach [] X.env)).any (·.1) = false := by rfl) : JE X (.Call (.Name "all" p) [e] [] pos) G (.bl (bs.all id)) :=
  je_cB (cr_all hcalm) hm (by decide +kernel) (ja_cons ha ja_nil he) (fun C vs H al r Q q => by
    cases r with
    | cons h1 h2 =>
      cases h2
      cases h1 with
      | lst hc hr ht =>
        rw [rpA_bl ht] at hr
        exact ⟨_, _, rfl, .inl hr.rd, q _ H (Same.refl H) (.bl _)⟩) hg (by decide) (by decide) he hpl
/-- sorted of a list of ints -/
theorem pair_lt {ns ms : List Int} (p : ns.Perm ms) (h : ns.Pairwise (· ≤ ·)) (h' : ms.Pairwise (· ≤ ·)) : ns = ms := p.eq_of_pairwise (fun a b _ _ h1 h2 => Int.le_antisymm h1 h2) h h'
/-- xs[i] -/
theorem je_ixT {ds : List D} {i : Int} {d : D} (ha : JE X a G (.tup ds)) (hb : JE X b G (.int i)) (h : atI ds i = some d) (hs : PlainIx b := by exact fun _ _ => rfl) : JE X (.Subscript a b pos) G d :=
  (pe_ix ix_tup ha hb hs).wk fun σ H Q ⟨C, al, s, q⟩ => two al s fun x y H' e r1 r2 => by
    cases r2
    cases r1 with
    | @tup p xs _ hc hr ht =>
      obtain ⟨j, h1, h2, h3, h4, h5⟩ := atI_get h
      obtain ⟨v, q1, q2⟩ := ht.get h2
      refine ⟨p, xs, i, v, rfl, rfl, .inl hr.rd, ?_, q v H' e q2⟩
      unfold atI at h ⊢
      rw [ht.length]
      cases hx : ixN ds.length i with
      | none => rw [hx] at h; cases h
      | some j' =>
        have := (ixN_seq hx).1
        rw [h1] at this
        cases this
        exact q1
theorem je_ixL {ds : List D} {i : Int} {d : D} (ha : JE X a G (.lst ds)) (hb : JE X b G (.int i)) (h : atI ds i = some d) (hs : PlainIx b := by exact fun _ _ => rfl) : JE X (.Subscript a b pos) G d :=
  (pe_ix ix_list ha hb hs).wk fun σ H Q ⟨C, al, s, q⟩ => two al s fun x y H' e r1 r2 => by
    cases r2
    cases r1 with
    | @lst p xs _ hc hr ht =>
      obtain ⟨j, h1, h2, h3, h4, h5⟩ := atI_get h
      obtain ⟨v, q1, q2⟩ := ht.get h2
      refine ⟨p, xs, i, v, rfl, rfl, .inl hr.rd, ?_, q v H' e q2⟩
      unfold atI at h ⊢
      rw [ht.length]
      cases hx : ixN ds.length i with
      | none => rw [hx] at h; cases h
      | some j' =>
        have := (ixN_seq hx).1
        rw [h1] at this
        cases this
        exact q1
/-- xs + ys -/
theorem je_catL {ds es : List D} (hl : ds.length + es.length ≤ 100000) (ha : JE X a G (.lst ds)) (hb : JE X b G (.lst es)) : JE X (.BinOp a .Add b pos) G (.lst (ds ++ es)) :=
  je_op op_cat ha hb fun C x y H al r1 r2 Q q => by
    cases r1 with
    | lst hc hr ht =>
      cases r2 with
      | lst hc' hr' ht' => exact ⟨_, _, _, _, rfl, rfl, hr.lst, hr'.lst, by rw [ht.length, ht'.length]; exact sz hl, fun p hp => q _ _ (Ex.new hp) (rp_newL al hp (ht.append ht'))⟩
theorem je_catT {ds es : List D} (hl : ds.length + es.length ≤ 100000) (ha : JE X a G (.tup ds)) (hb : JE X b G (.tup es)) : JE X (.BinOp a .Add b pos) G (.tup (ds ++ es)) :=
  je_op op_catA ha hb fun C x y H al r1 r2 Q q => by
    cases r1 with
    | @tup p1 xs _ hc hr ht =>
      cases r2 with
      | @tup p2 ys _ hc' hr' ht' =>
        refine ⟨p1, p2, xs, ys, rfl, rfl, .inl hr.rd, .inl hr'.rd, by rw [ht.length, ht'.length]; exact sz hl, fun e => ?_, fun _ e => ?_, fun _ _ p hp => q _ _ (Ex.new hp) (rp_newT al hp (ht.append ht'))⟩
        · subst e
          have : ds = [] := List.length_eq_zero_iff.mp (by rw [← ht.length]; rfl)
          subst this
          exact q _ H (Same.refl H) (.tup hc' hr' ht')
        · subst e
          have : es = [] := List.length_eq_zero_iff.mp (by rw [← ht'.length]; rfl)
          subst this
          rw [List.append_nil] at q
          exact q _ H (Same.refl H) (.tup hc hr ht)
/-! ### slices of tuples -/
theorem cut_all {ds : List D} {lo hi : Option Int} (h : HT.sIx ds.length 0 lo = 0 ∧ HT.sIx ds.length ds.length hi = ds.length) : (ds.drop (HT.sIx ds.length 0 lo)).take (HT.sIx ds.length ds.length hi - HT.sIx ds.length 0 lo) = ds := by
  rw [h.1, h.2, List.drop_zero, Nat.sub_zero, List.take_length]
def tSemO (G : Gm) (o : Option Int) : TO := fun σ H Q => ∃ C, Al C H ∧ Sat C H σ G ∧ ∀ H', Ex H H' → Q o H'
theorem po_no : PO X none (tSemO G none) := ⟨fun pins s σ H Q I ⟨C, al, st, q⟩ => po_none.run pins s σ H Q I (q H (Same.refl H))⟩
theorem po_at {i : Int} (h : JE X a G (.int i)) : PO X (some a) (tSemO G (some i)) := ⟨fun pins s σ H Q I ⟨C, al, st, q⟩ => (po_some h).run pins s σ H Q I ⟨C, al, st, fun v H' e r => ⟨i, rp_int r, q H' e⟩⟩⟩
theorem je_slT {ds : List D} {lo hi : Option Expr} {l h : Option Int} {p2 : Pos} (ha : JE X a G (.tup ds)) (hl : PO X lo (tSemO G l)) (hh : PO X hi (tSemO G h)) :
    JE X (.Subscript a (.Slice lo hi none p2) pos) G (.tup ((ds.drop (HT.sIx ds.length 0 l)).take (HT.sIx ds.length ds.length h - HT.sIx ds.length 0 l))) :=
  (pe_slice sl_tupA ha hl hh).wk fun σ H Q ⟨C, al, s, q⟩ => ⟨C, al, s, fun x H1 e1 r1 => ⟨C, e1.al al, s.ex e1, fun H2 e2 => ⟨C, (e1.trans e2).al al, s.ex (e1.trans e2), fun H3 e3 => by
    have r3 := Rp.mv ((e2.trans e3).mv C) _ _ r1
    have al3 := (e1.trans (e2.trans e3)).al al
    cases r3 with
    | @tup p xs _ hc hr ht =>
      have hlen := ht.length
      refine ⟨p, xs, rfl, .inl hr.rd, fun w => ?_, fun w p' hp' => ?_⟩
      · rw [hlen] at w
        rw [cut_all w] at q
        exact q _ H3 (e1.trans (e2.trans e3)) (.tup hc hr ht)
      · refine q _ _ ((e1.trans (e2.trans e3)).trans (Ex.new hp')) (rp_newT al3 hp' ?_)
        unfold cutV
        rw [hlen]
        exact (ht.drop _).take _⟩⟩⟩

/-! ### statements -/
variable {st : Stmt} {sts els : List Stmt} {N N' : Gm → Prop} {R : D → Prop}
theorem tS_mono {D : Ends} {σ : L2.St} {H : Hp} (h : tSemS G N R D σ H) (w : ∀ G, N G → N' G) : ∀ {D' : Ends}, True → tSemS G N R D σ H := fun _ => h
theorem jb_nil (q : N G) : JB X [] G N R := pss_nil.wk fun D σ H ⟨C, al, s, n, r⟩ => n σ H G (Same.refl H) s q
theorem jb_cons {N1 : Gm → Prop} (h1 : JS X st G N1 R) (h2 : ∀ G', N1 G' → JB X sts G' N R) : JB X (st :: sts) G N R :=
  (pss_cons h1 (PSs.all h2)).wk fun D σ H ⟨C, al, s, n, r⟩ => ⟨C, al, s, fun σ' H' G' e s' n1 => ⟨G', n1, C, e.al al, s', fun σ2 H2 G2 e2 s2 n2 => n σ2 H2 G2 (e.trans e2) s2 n2, fun v H2 d e2 => r v H2 d (e.trans e2)⟩, r⟩
theorem jb_one (h1 : JS X st G N R) : JB X [st] G N R := pss_one h1
theorem js_ret {d : D} (he : JE X e G d) (q : R d) : JS X (.Return (some e) pos) G N R := (ps_ret he).wk fun D σ H ⟨C, al, s, n, r⟩ => ⟨C, al, s, fun v H' e rp => r v H' d e rp q⟩
theorem js_retN (q : R .non) : JS X (.Return none pos) G N R := ps_retN.wk fun D σ H ⟨C, al, s, n, r⟩ => r _ H .non (Same.refl H) .non q
theorem js_expr {d : D} (he : JE X e G d) (q : N G) (hs : swapsWith e none pos.line X.env = pure false := by rfl) : JS X (.Expr e pos) G N R :=
  (ps_expr he hs).wk fun D σ H ⟨C, al, s, n, r⟩ => ⟨C, al, s, fun v H' e rp => n σ H' G e (s.ex e) q⟩
theorem js_set (i : Nat) {x : Str} {d : D} {pos' : Pos} (hN : X.N.Nodup) (he : JE X e G d) (q : N (G.set i (some d))) (hi : X.N[i]? = some x := by rfl) (hx : Loc X.env.scope x := by first | exact .inl rfl | exact .inr rfl) (hs : swapsWith e (some (.Name x pos')) pos.line X.env = pure false := by rfl)
    (hf : X.fn x = true ∨ X.env.scope.names.lookup x = some .local := by first | exact .inl rfl | exact .inr rfl | assumption) : JS X (.Assign [.Name x pos'] e pos) G N R :=
  (ps_set hN hi hx he hs hf).wk fun D σ H ⟨C, al, s, n, r⟩ => ⟨C, al, s, fun v H' e rp => n _ H' _ e ((s.ex e).set i rp) q⟩
theorem jb_let (i : Nat) {x : Str} {d : D} {pos' : Pos} (hN : X.N.Nodup) (he : JE X e G d) (q : JB X sts (G.set i (some d)) N R) (hi : X.N[i]? = some x := by rfl) (hx : Loc X.env.scope x := by first | exact .inl rfl | exact .inr rfl) (hs : swapsWith e (some (.Name x pos')) pos.line X.env = pure false := by rfl)
    (hf : X.fn x = true ∨ X.env.scope.names.lookup x = some .local := by first | exact .inl rfl | exact .inr rfl | assumption) : JB X (.Assign [.Name x pos'] e pos :: sts) G N R :=
  jb_cons (N1 := fun G' => G' = G.set i (some d)) (js_set i hN he rfl hi hx hs hf) fun G' e => by rw [e]; exact q
theorem js_if {k : Bool} (hc : JT X c G k) (h1 : k = true → JB X sts G N R) (h2 : k = false → JB X els G N R) : JS X (.If c sts els pos) G N R :=
  (ps_if hc (PSs.all (p := fun _ : Unit => k = true) fun _ => h1) (PSs.all (p := fun _ : Unit => k = false) fun _ => h2)).wk fun D σ H ⟨C, al, s, n, r⟩ => ⟨C, al, s, fun H1 e1 => by
    cases k with
    | true => exact iteT ⟨(), rfl, C, e1.al al, s.ex e1, fun σ' H' G' e => n σ' H' G' (e1.trans e), fun v H' d e => r v H' d (e1.trans e)⟩
    | false => exact iteF ⟨(), rfl, C, e1.al al, s.ex e1, fun σ' H' G' e => n σ' H' G' (e1.trans e), fun v H' d e => r v H' d (e1.trans e)⟩⟩
/-- if .. : leaves; the rest only where the test fails -/
theorem jb_if {k : Bool} (hc : JT X c G k) (h1 : k = true → JB X sts G (fun G' => G' = G) R) (h2 : k = false → JB X els G (fun G' => G' = G) R) {rest : List Stmt} (q : JB X rest G N R) : JB X (.If c sts els pos :: rest) G N R :=
  jb_cons (js_if hc h1 h2) fun G' e => by rw [e]; exact q
theorem jb_ifret {k : Bool} (hc : JT X c G k) (h1 : k = true → JB X sts G (fun _ => False) R) {rest : List Stmt} (q : k = false → JB X rest G N R) : JB X (.If c sts [] pos :: rest) G N R :=
  jb_cons (N1 := fun G' => G' = G ∧ k = false) (js_if hc (fun h => PSs.wk (h1 h) fun D σ H ⟨C, al, s, n, r⟩ => ⟨C, al, s, fun _ _ _ _ _ z => z.elim, r⟩) fun h => jb_nil ⟨rfl, h⟩) fun G' e => by rw [e.1]; exact q e.2
/-- for -/
theorem js_for {tg iter : Expr} {body : List Stmt} {g : TG} (xs : List D) (Gi : Nat → Gm) (Gx : Nat → D → Gm) (hp : PassesOwn (model X.prog X.w) X.A X.env X.xe) (hcalm : X.calm = true) (hi : JI X tg iter G xs) (hg : PG X tg g) (h0 : Wk G (Gi 0))
    (hgo : ∀ i d, xs[i]? = some d → GF g (Gi i) d (Gx i d)) (hb : ∀ i d, xs[i]? = some d → JB X body (Gx i d) (fun G' => Wk G' (Gi (i + 1))) R) (q : N (Gi xs.length)) (hs : ∀ x, foldedSetIterable iter X.env x = pure x := by intro _; rfl) : JS X (.For tg iter body [] pos) G N R :=
  (ps_for hp hcalm hi hg (PSs.all (ι := Nat × D) (p := fun p => xs[p.1]? = some p.2) fun p hp => hb p.1 p.2 hp) hs).wk fun D σ H ⟨C, al, s, n, r⟩ => ⟨C, al, s, fun J H1 e1 it => by
    refine ⟨fun i m σ' H' => m = xs.length - i ∧ i ≤ xs.length ∧ Sat C H' σ' (Gi i) ∧ Ex H1 H', ⟨xs.length, rfl, Nat.zero_le _, (s.ex e1).wk h0, Same.refl H1⟩, ?_⟩
    rintro i m σ' H' ⟨rfl, hi', s', e'⟩
    obtain ⟨stop, go⟩ := it C H' (fun a h => .inl h) ((e1.trans e').al al) (e'.xc C)
    by_cases hlt : i < xs.length
    · obtain ⟨g1, g2⟩ := go i xs[i] (List.getElem?_eq_getElem hlt)
      refine .inr ⟨g1, fun σ2 H2 => i + 1 ≤ xs.length ∧ Sat C H2 σ2 (Gi (i + 1)) ∧ Ex H1 H2, fun σ2 H2 w => ⟨xs.length - (i + 1), by omega, rfl, w⟩, fun x H2 y => ?_⟩
      obtain ⟨e2, rx⟩ := g2 x H2 y
      refine hgo i xs[i] (List.getElem?_eq_getElem hlt) C x σ' H2 _ (s'.ex e2) rx fun σ3 s3 => ?_
      refine ⟨(i, xs[i]), List.getElem?_eq_getElem hlt, C, (e1.trans (e'.trans e2)).al al, s3, fun σ4 H4 G4 e4 s4 w4 => ⟨hlt, s4.wk w4, e'.trans (e2.trans e4)⟩, fun v H4 d e4 rp => r v H4 d (e1.trans (e'.trans (e2.trans e4))) rp⟩
    · have e : i = xs.length := by omega
      subst e
      exact .inl ⟨stop _ (Nat.le_refl _), n σ' H' _ (e1.trans e') s' q⟩⟩
end

/-! ### what a for walks -/
section
variable {X : Cx} {G : Gm} {pos : Pos} {tg a b e : Expr}
theorem ji_list {ds : List D} (h : JE X e G (.lst ds)) : JI X tg e G ds := (pi_list h).wk fun σ H R ⟨C, al, s, q⟩ => ⟨C, al, s, fun v H1 e1 r1 => by
  cases r1 with
  | @lst p xs _ hc hr ht =>
    refine ⟨p, rfl, ⟨xs, .inl hr.rd⟩, q _ H1 e1 fun C' H' hC al' e => ?_⟩
    have mm := (Mv.more hC).trans e.mv
    obtain ⟨_, hr'⟩ := mm p (.lst xs) trivial hc hr
    have ht' : RpA C' H' xs ds := RpA.mv mm _ _ ht
    refine ⟨fun i hi => ⟨xs, .inl hr'.rd, by rw [ht.length]; exact hi⟩, fun i d hd => ?_⟩
    obtain ⟨v, h1, h2⟩ := ht'.get hd
    refine ⟨⟨xs, v, .inl hr'.rd, h1⟩, fun x H'' y => ?_⟩
    obtain ⟨rfl, y⟩ := y
    have := y xs (.inl hr'.rd)
    rw [h1] at this
    cases this
    exact ⟨Same.refl _, h2⟩⟩
theorem ji_tup {ds : List D} (h : JE X e G (.tup ds)) : JI X tg e G ds := (pi_tup h).wk fun σ H R ⟨C, al, s, q⟩ => ⟨C, al, s, fun v H1 e1 r1 => by
  cases r1 with
  | @tup p xs _ hc hr ht =>
    refine ⟨p, rfl, ⟨xs, .inl hr.rd⟩, q _ H1 e1 fun C' H' hC al' e => ?_⟩
    have mm := (Mv.more hC).trans e.mv
    obtain ⟨_, hr'⟩ := mm p (.tup xs) trivial hc hr
    have ht' : RpA C' H' xs ds := RpA.mv mm _ _ ht
    refine ⟨fun i hi => ⟨xs, .inl hr'.rd, by rw [ht.length]; exact hi⟩, fun i d hd => ?_⟩
    obtain ⟨v, h1, h2⟩ := ht'.get hd
    refine ⟨⟨xs, v, .inl hr'.rd, h1⟩, fun x H'' y => ?_⟩
    obtain ⟨rfl, y⟩ := y
    have := y xs (.inl hr'.rd)
    rw [h1] at this
    cases this
    exact ⟨Same.refl _, h2⟩⟩
theorem itok_rng {C : Addr → Prop} {H1 : Hp} (lo : Int) (n : Nat) : ItOk C (Itr lo n) ((List.range n).map fun i => D.int (lo + (i : Nat))) H1 := fun C' H' hC al e => by
  refine ⟨fun i hi => by
    show n ≤ i
    simpa using hi, fun i d hd => ?_⟩
  rw [List.getElem?_map] at hd
  cases hr : (List.range n)[i]? with
  | none => rw [hr] at hd; cases hd
  | some j =>
    rw [hr] at hd
    obtain ⟨h1, h2⟩ := List.getElem?_eq_some_iff.mp hr
    rw [List.getElem_range] at h2
    subst h2
    cases hd
    refine ⟨by
      show i < n
      simpa using h1, fun x H'' y => ?_⟩
    obtain ⟨rfl, rfl⟩ := y
    exact ⟨Same.refl _, .int _⟩
theorem ji_rng1 {p : Pos} {n : Int} (hm : X.mg "range" = none) (ha : JE X a G (.int n)) (h1 : -(2 ^ 62) ≤ n ∧ n < 2 ^ 62) (he : starEach [a] X.env = (false, eval a X.env) :: starEach [] X.env := by rfl) (hg : Gl X "range" := by rfl) (hs : starEach [a] X.env = [(false, eval a X.env)] := by rfl) :
    JI X tg (.Call (.Name "range" p) [a] [] pos) G ((List.range n.toNat).map fun i => D.int (0 + (i : Nat))) :=
  (pi_range1 hg hm (ja_cons ha ja_nil he) hs).wk fun σ H R ⟨C, al, s, q⟩ => ⟨C, al, s, fun vs H1 e1 r1 => by
    cases r1 with
    | cons k1 k2 =>
      cases k2
      cases k1
      exact ⟨n, rfl, h1.1, h1.2, q _ H1 e1 (itok_rng 0 _)⟩⟩
theorem ji_rng2 {p : Pos} {m n : Int} (hm : X.mg "range" = none) (ha : JE X a G (.int m)) (hb : JE X b G (.int n)) (h1 : -(2 ^ 62) ≤ m ∧ m < 2 ^ 62 ∧ -(2 ^ 62) ≤ n ∧ n < 2 ^ 62) (he : starEach [a, b] X.env = (false, eval a X.env) :: starEach [b] X.env := by rfl) (he2 : starEach [b] X.env = (false, eval b X.env) :: starEach [] X.env := by rfl) (hg : Gl X "range" := by rfl) (hs : starEach [a, b] X.env = [(false, eval a X.env), (false, eval b X.env)] := by rfl) (hs2 : starEach [b] X.env = [(false, eval b X.env)] := by rfl) :
    JI X tg (.Call (.Name "range" p) [a, b] [] pos) G ((List.range (n - m).toNat).map fun i => D.int (m + (i : Nat))) :=
  (pi_range2 hg hm (ja_cons ha (ja_cons hb ja_nil he2) he) hs hs2).wk fun σ H R ⟨C, al, s, q⟩ => ⟨C, al, s, fun vs H1 e1 r1 => by
    cases r1 with
    | cons k1 k2 =>
      cases k2 with
      | cons k3 k4 =>
        cases k4
        cases k1
        cases k3
        exact ⟨m, n, rfl, h1, q _ H1 e1 (itok_rng m _)⟩⟩
theorem zip_get {ds es : List D} {i : Nat} {d : D} (h : (List.zipWith (fun x y => D.tup [x, y]) ds es)[i]? = some d) : ∃ x y, ds[i]? = some x ∧ es[i]? = some y ∧ d = .tup [x, y] := by
  rw [List.getElem?_zipWith] at h
  cases h1 : ds[i]? with
  | none => rw [h1] at h; simp at h
  | some x =>
    cases h2 : es[i]? with
    | none => rw [h1, h2] at h; simp at h
    | some y =>
      rw [h1, h2] at h
      simp at h
      exact ⟨x, y, rfl, rfl, h.symm⟩
theorem ji_zip {p tpos : Pos} {elts : List Expr} {kk : Nat} {ds es : List D} (hm : X.mg "zip" = none) (ha : JE X a G (.tup ds)) (hb : JE X b G (.tup es)) (he : starEach [a, b] X.env = (false, eval a X.env) :: starEach [b] X.env := by rfl) (he2 : starEach [b] X.env = (false, eval b X.env) :: starEach [] X.env := by rfl) (hg : Gl X "zip" := by rfl) (hpl : (backTo pos (starEach [b] X.env)).any (·.1) = false := by rfl) :
    JI X (.Tuple elts kk tpos) (.Call (.Name "zip" p) [a, b] [] pos) G (List.zipWith (fun x y => D.tup [x, y]) ds es) :=
  (RZ.pi_zipA hg hm (ja_cons ha (ja_cons hb ja_nil he2) he) he hpl).wk fun σ H R ⟨C, al, s, q⟩ => ⟨C, al, s, fun vs H1 e1 r1 => by
    cases r1 with
    | cons k1 k2 =>
      cases k2 with
      | cons k3 k4 =>
        cases k4
        cases k1 with
        | @tup p1 xs _ hc hr ht =>
          cases k3 with
          | @tup p2 ys _ hc' hr' ht' =>
            refine ⟨p1, p2, xs, ys, rfl, .inr ⟨.inl hr.rd, .inl hr'.rd, q _ H1 e1 fun C' H' hC al' e => ?_⟩⟩
            have mm := (Mv.more hC).trans e.mv
            obtain ⟨_, kr⟩ := mm p1 (.tup xs) trivial hc hr
            obtain ⟨_, kr'⟩ := mm p2 (.tup ys) trivial hc' hr'
            have kt : RpA C' H' xs ds := RpA.mv mm _ _ ht
            have kt' : RpA C' H' ys es := RpA.mv mm _ _ ht'
            refine ⟨fun i hi => ⟨xs, ys, .inl kr.rd, .inl kr'.rd, ?_⟩, fun i d hd => ?_⟩
            · rw [List.length_zipWith] at hi
              rw [ht.length, ht'.length]
              omega
            · obtain ⟨x, y, h1, h2, rfl⟩ := zip_get hd
              obtain ⟨v, g1, g2⟩ := kt.get h1
              obtain ⟨u, g3, g4⟩ := kt'.get h2
              refine ⟨⟨xs, ys, v, u, .inl kr.rd, .inl kr'.rd, g1, g3⟩, fun z H'' yy => ?_⟩
              obtain ⟨T, x', y', rfl, hT, rfl, f1, f2⟩ := yy
              have q1 := f1 xs (.inl kr.rd)
              have q2 := f2 ys (.inl kr'.rd)
              rw [g1] at q1
              rw [g3] at q2
              cases q1
              cases q2
              exact ⟨Ex.new hT, rp_newT al' hT (.cons g2 (.cons g4 .nil))⟩⟩
end
end L2.K79

set_option Elab.async false
set_option linter.all false
set_option maxRecDepth 100000
set_option maxHeartbeats 4000000
namespace L2.K79
open PySem PySem.Spec PyProof.Rows L2

section
variable {α : Type} {G : Gm}
def tTx (l : List α) (Gx : α → Gm) (p : α → Bool) : TT := fun σ H Q => ∃ x, x ∈ l ∧ tSemT (Gx x) (p x) σ H Q
def tEx (l : List α) (Gx : α → Gm) (p : α → Bool) (f : α → D) : TE := fun σ H Q => ∃ x, (x ∈ l ∧ p x = true) ∧ tSem (Gx x) (f x) σ H Q
theorem Mv.newC {C : Addr → Prop} {H : Hp} {p : Addr} (h : H p = none) : Mv C H (fun a => C a ∨ a = p) H := Mv.more fun a z => z.elim .inl fun e => .inr (e ▸ h)
/-- an object that H does not know may change -/
theorem Ex.mut {H H' : Hp} {p : Addr} {o : HO} (e : Ex H H') (h : H p = none) : Ex H (upd H' p o) := fun a u ha => by
  rw [upd_ne (ne_of_none ha h)]
  exact e a u ha
theorem lc_next {l : List α} {p : α → Bool} {f : α → D} {i : Nat} (h : i < l.length) : (((l.take (i + 1)).filter p).map f) = ((l.take i).filter p).map f ++ (if p l[i] = true then [f l[i]] else []) := by
  rw [List.take_add_one, List.getElem?_eq_getElem h]
  show ((l.take i ++ [l[i]]).filter p).map f = _
  rw [List.filter_append, List.map_append]
  congr 1
  by_cases hp : p l[i] = true
  · rw [if_pos hp, List.filter_cons_of_pos hp]; rfl
  · rw [if_neg hp, List.filter_cons_of_neg hp]; rfl
/-- the turns of a comprehension -/
theorem turns_lc {l : List α} {emb : α → D} {Gx : α → Gm} {p : α → Bool} {f : α → D} {g : TG} {vs : List Nat} (hl : l.length ≤ 100000) (hgo : ∀ x, x ∈ l → GOk g vs (wipeG G vs) (emb x) (Gx x))
    {C : Addr → Prop} {σ : L2.St} {H H1 : Hp} {J : It} (al : Al C H) (s : Sat C H σ G) (e1 : Ex H H1) (it : ItOk C J (l.map emb) H1) {Dl : Addr} (hD : H1 Dl = none) {Qd : Hp → Prop}
    (q : ∀ acc H', H' Dl = some (.lst acc) → Ex H1 H' → RpA (fun a => C a ∨ a = Dl) H' acc ((l.filter p).map f) → Qd H') :
    ∃ W : Nat → Nat → Hp → Prop, (∃ m, W 0 m (upd H1 Dl (.lst []))) ∧ ∀ i m H, W i m H →
  (J.stop i H ∧ Qd H) ∨ (J.go i H ∧ ∃ Nx : Hp → Prop, (∀ H', Nx H' → ∃ m', m' < m ∧ W (i + 1) m' H') ∧ ∀ x H', J.yld i H x H' → g x (L2.wipe σ vs) H' fun σ2 H2 => L2.wipe σ2 vs = L2.wipe σ vs ∧ tTx l Gx p σ2 H2 fun b H3 =>
    if b = true then tEx l Gx p f σ2 H3 fun y H4 => ∃ acc, H4 Dl = some (.lst acc) ∧ acc.length < sizeLine ∧ Nx (upd H4 Dl (.lst (acc ++ [y]))) else Nx H3) := by
  let C' : Addr → Prop := fun a => C a ∨ a = Dl
  have s1 : Sat C' H1 σ G := (s.ex e1).mv (Mv.newC hD)
  refine ⟨fun i m H' => m = l.length - i ∧ i ≤ l.length ∧ ∃ acc, H' Dl = some (.lst acc) ∧ Ex H1 H' ∧ acc.length ≤ i ∧ RpA C' H' acc (((l.take i).filter p).map f),
    ⟨l.length, rfl, Nat.zero_le _, [], upd_same, Ex.new hD, Nat.le_refl _, .nil⟩, ?_⟩
  rintro i m H' ⟨rfl, hi, acc, hacc, e', hn, ra⟩
  have al' : Al C' H' := fun a z => z.elim (fun c => (e1.trans e').al al a c) fun e => by rw [e, hacc]; intro z; cases z
  obtain ⟨stop, go⟩ := it C' H' (fun a z => z.elim .inl fun e => .inr (e ▸ hD)) al' (e'.xc C')
  by_cases hlt : i < l.length
  · have hx : (l.map emb)[i]? = some (emb l[i]) := by rw [List.getElem?_map, List.getElem?_eq_getElem hlt]; rfl
    have hm : l[i] ∈ l := List.getElem_mem hlt
    obtain ⟨g1, g2⟩ := go i _ hx
    refine .inr ⟨g1, fun H2 => i + 1 ≤ l.length ∧ ∃ acc, H2 Dl = some (.lst acc) ∧ Ex H1 H2 ∧ acc.length ≤ i + 1 ∧ RpA C' H2 acc (((l.take (i + 1)).filter p).map f), fun H2 w => ⟨l.length - (i + 1), by omega, rfl, w⟩, fun x H2 y => ?_⟩
    obtain ⟨e2, rx⟩ := g2 x H2 y
    have s2 : Sat C' H2 (L2.wipe σ vs) (wipeG G vs) := (s1.ex (e'.trans e2)).wipe vs
    refine hgo l[i] hm C' x _ H2 _ s2 rx fun σ3 s3 hw => ⟨hw.trans (wipe_wipe σ vs), l[i], hm, C', e2.al al', s3, fun H3 e3 => ?_⟩
    cases hp : p l[i] with
    | true =>
      refine iteT ⟨l[i], ⟨hm, hp⟩, C', (e2.trans e3).al al', s3.ex e3, fun v H4 e4 rv => ?_⟩
      have e5 : Ex H' H4 := e2.trans (e3.trans e4)
      refine ⟨acc, e5 _ _ hacc, szl (by omega), hlt, acc ++ [v], upd_same, Ex.mut (e'.trans e5) hD, by rw [List.length_append, List.length_singleton]; omega, ?_⟩
      rw [lc_next hlt, if_pos hp]
      exact ((RpA.mv (e5.mv C') _ _ ra).append (.one rv)).mv (Mv.upd (.inr rfl)) _ _
    | false =>
      refine iteF ⟨hlt, acc, (e2.trans e3) _ _ hacc, e'.trans (e2.trans e3), by omega, ?_⟩
      rw [lc_next hlt, if_neg (by rw [hp]; exact Bool.false_ne_true), List.append_nil]
      exact RpA.mv ((e2.trans e3).mv C') _ _ ra
  · have e : i = l.length := by omega
    subst e
    rw [List.take_length] at ra
    exact .inl ⟨stop _ (by rw [List.length_map]; exact Nat.le_refl _), q acc H' hacc e' ra⟩
theorem sem_lc {l : List α} {emb : α → D} {Gx : α → Gm} {p : α → Bool} {f : α → D} {g : TG} {vs : List Nat} (hl : l.length ≤ 100000) (hgo : ∀ x, x ∈ l → GOk g vs (wipeG G vs) (emb x) (Gx x))
    {σ : L2.St} {H : Hp} {Q : VK} (h : tSem G (.lst ((l.filter p).map f)) σ H Q) : tLc (iSem G (l.map emb)) g (tTx l Gx p) (tEx l Gx p f) vs σ H Q := by
  obtain ⟨C, al, s, q⟩ := h
  refine ⟨C, al, s, fun J H1 e1 it => fun Dl hD => turns_lc hl hgo al s e1 it hD fun acc H' hacc e' ra => ?_⟩
  exact q _ H' (e1.trans e') (.lst (fun c => (e1.al al) Dl c hD) (.inl hacc) (RpA.mv (Mv.less fun a c => .inl c) _ _ ra))

section
variable {X : Cx} {elt tg iter : Expr} {ifs : List Expr} {scope : Scope} {own : List (Str × Nat)} {pos : Pos}
/-- [elt for tg in iter if ..] -/
theorem je_lc {l : List α} {emb : α → D} {Gx : α → Gm} {p : α → Bool} {f : α → D} {g : TG} (own : List (Str × Nat)) (hc : X.calm = true) (hN : X.N.Nodup) (hi : JI X tg iter G (l.map emb)) (ok : BlkOk X.N X.env.scope scope own) (hl : l.length ≤ 100000)
    (hg : ∀ (s : Shared) (H : Hp) (C : Addr) (cl : List (Str × Addr)) (fp : List Addr), PG (X.blk s H scope (compEnvC scope cl C X.env) fp) tg g) (hgo : ∀ x, x ∈ l → GOk g (own.map (·.2)) (wipeG G (own.map (·.2))) (emb x) (Gx x))
    (ht : ∀ x, x ∈ l → ∀ (s : Shared) (H : Hp) (C : Addr) (cl : List (Str × Addr)) (fp : List Addr), JTs (X.blk s H scope (compEnvC scope cl C X.env) fp) ifs (Gx x) (p x))
    (he : ∀ x, x ∈ l → p x = true → ∀ (s : Shared) (H : Hp) (C : Addr) (cl : List (Str × Addr)) (fp : List Addr), JE (X.blk s H scope (compEnvC scope cl C X.env) fp) elt (Gx x) (f x)) (hs : ∀ x, foldedSetIterable iter X.env x = pure x := by intro _; rfl) :
    JE X (.ListComp elt [⟨tg, iter, ifs, 0⟩] scope pos) G (.lst ((l.filter p).map f)) :=
  (pe_lc (own := own) hc hN hi ok hg (fun s H C cl fp => PTs.all fun x hx => ht x hx s H C cl fp) (fun s H C cl fp => PE.all fun x hx => he x hx.1 hx.2 s H C cl fp) hs).wk fun σ H Q h => sem_lc hl hgo h
theorem js_setLc {l : List α} {emb : α → D} {Gx : α → Gm} {p : α → Bool} {f : α → D} {g : TG} {N : Gm → Prop} {R : D → Prop} {i : Nat} {y : Str} {py spos : Pos} (own : List (Str × Nat)) (hc : X.calm = true) (hN : X.N.Nodup) (hi : JI X tg iter G (l.map emb)) (ok : BlkOk X.N X.env.scope scope own) (hl : l.length ≤ 100000)
    (hg : ∀ (s : Shared) (H : Hp) (C : Addr) (cl : List (Str × Addr)) (fp : List Addr), PG (X.blk s H scope (compEnvC scope cl C X.env) fp) tg g) (hgo : ∀ x, x ∈ l → GOk g (own.map (·.2)) (wipeG G (own.map (·.2))) (emb x) (Gx x))
    (ht : ∀ x, x ∈ l → ∀ (s : Shared) (H : Hp) (C : Addr) (cl : List (Str × Addr)) (fp : List Addr), JTs (X.blk s H scope (compEnvC scope cl C X.env) fp) ifs (Gx x) (p x))
    (he : ∀ x, x ∈ l → p x = true → ∀ (s : Shared) (H : Hp) (C : Addr) (cl : List (Str × Addr)) (fp : List Addr), JE (X.blk s H scope (compEnvC scope cl C X.env) fp) elt (Gx x) (f x))
    (q : N (G.set i (some (.lst ((l.filter p).map f))))) (hy : X.N[i]? = some y) (hyl : X.env.scope.names.lookup y = some .local)
    (hsw : swapsWith (.ListComp elt [⟨tg, iter, ifs, 0⟩] scope pos) (some (.Name y py)) spos.line X.env = pure true) (hs : ∀ x, foldedSetIterable iter X.env x = pure x := by intro _; rfl) :
    JS X (.Assign [.Name y py] (.ListComp elt [⟨tg, iter, ifs, 0⟩] scope pos) spos) G N R :=
  (ps_setLc (own := own) hc hN hy hyl hsw hi ok hg (fun s H C cl fp => PTs.all fun x hx => ht x hx s H C cl fp) (fun s H C cl fp => PE.all fun x hx => he x hx.1 hx.2 s H C cl fp) hs).wk fun D σ H ⟨C, al, s, n, r⟩ =>
    sem_lc (Q := fun v H1 => gName i v σ H1 D.nx) hl hgo ⟨C, al, s, fun v H' e rp => n _ H' _ e ((s.ex e).set i rp) q⟩
theorem jts_nil : JTs X [] G true := pts_nil.wk fun σ H Q ⟨C, al, s, q⟩ => q H (Same.refl H)
theorem jts_one {c : Expr} {k : Bool} (h : JT X c G k) : JTs X [c] G k := pts_one h
end
end

/-! ### two clauses -/
section
variable {α β : Type} {G : Gm} {X : Cx} {elt tg iter tg1 iter1 : Expr} {ifs1 : List Expr} {scope : Scope} {pos : Pos}
/-- [elt for tg in iter for tg1 in iter1 if ..], both over written lists of ints -/
theorem je_lc2 {l m : List Int} {p : Int → Int → Bool} {f : Int → Int → D} {i j : Nat} (own : List (Str × Nat)) (hij : i ≠ j) (hown : own.map (·.2) = [i, j]) (hc : X.calm = true) (hN : X.N.Nodup) (hi : JI X tg iter G (l.map D.int)) (ok : BlkOk X.N X.env.scope scope own) (hl : l.length ≤ 300) (hm : m.length ≤ 300)
    (hg : ∀ (s : Shared) (H : Hp) (C : Addr) (cl : List (Str × Addr)) (fp : List Addr), PG (X.blk s H scope (compEnvC scope cl C X.env) fp) tg (gName i))
    (hi1 : ∀ x, x ∈ l → ∀ (s : Shared) (H : Hp) (C : Addr) (cl : List (Str × Addr)) (fp : List Addr), JI (X.blk s H scope (compEnvC scope cl C X.env) fp) tg1 iter1 ((wipeG G [i, j]).set i (some (.int x))) (m.map D.int))
    (hg1 : ∀ (s : Shared) (H : Hp) (C : Addr) (cl : List (Str × Addr)) (fp : List Addr), PG (X.blk s H scope (compEnvC scope cl C X.env) fp) tg1 (gName j))
    (ht1 : ∀ x y, x ∈ l → y ∈ m → ∀ (s : Shared) (H : Hp) (C : Addr) (cl : List (Str × Addr)) (fp : List Addr), JTs (X.blk s H scope (compEnvC scope cl C X.env) fp) ifs1 (((wipeG G [i, j]).set i (some (.int x))).set j (some (.int y))) (p x y))
    (he : ∀ x y, x ∈ l → y ∈ m → p x y = true → ∀ (s : Shared) (H : Hp) (C : Addr) (cl : List (Str × Addr)) (fp : List Addr), JE (X.blk s H scope (compEnvC scope cl C X.env) fp) elt (((wipeG G [i, j]).set i (some (.int x))).set j (some (.int y))) (f x y))
    (hs : ∀ x, foldedSetIterable iter X.env x = pure x := by intro _; rfl) (hs1 : ∀ env x, foldedSetIterable iter1 env x = pure x := by intro _ _; rfl) :
    JE X (.ListComp elt [⟨tg, iter, [], 0⟩, ⟨tg1, iter1, ifs1, 0⟩] scope pos) G (.lst (l.flatMap fun x => (m.filter (p x)).map (f x))) := by
  have e0 := pe_lc2 (own := own) (vs1 := [j]) (tt := tYes) (elt := elt) (pos := pos) (ifs := []) (ifs1 := ifs1) hc hN hi ok (by rw [hown]; simp) hg (fun _ _ _ _ _ => pts_nil)
    (fun s H C cl fp => PI.all (p := fun x => x ∈ l) fun x hx => hi1 x hx s H C cl fp) hg1
    (fun s H C cl fp => PTs.all (ι := Int × Int) (p := fun p => p.1 ∈ l ∧ p.2 ∈ m) fun x hx => ht1 x.1 x.2 hx.1 hx.2 s H C cl fp)
    (fun s H C cl fp => PE.all (ι := Int × Int) (p := fun q => (q.1 ∈ l ∧ q.2 ∈ m) ∧ p q.1 q.2 = true) fun x hx => he x.1 x.2 hx.1.1 hx.1.2 hx.2 s H C cl fp) hs hs1
  rw [hown] at e0
  refine e0.wk fun σ H Q ⟨C, al, s, q⟩ => ⟨C, al, s, fun J H1 e1 it => fun Dl hD => ?_⟩
  let C' : Addr → Prop := fun a => C a ∨ a = Dl
  let K : List Int → List D := fun l => l.flatMap fun x => (m.filter (p x)).map (f x)
  have s1 : Sat C' H1 σ G := (s.ex e1).mv (Mv.newC hD)
  have alC : ∀ {H' : Hp} {acc : List V}, Ex H1 H' → H' Dl = some (.lst acc) → Al C' H' := fun {H' acc} e' hacc => fun a z => z.elim (fun c => (e1.trans e').al al a c) fun e => by rw [e, hacc]; intro z; cases z
  have kn : ∀ i, i < l.length → K (l.take (i + 1)) = K (l.take i) ++ (m.filter (p (l[i]?.getD 0))).map (f (l[i]?.getD 0)) := fun i hlt => by
    show (l.take (i + 1)).flatMap _ = _
    rw [List.take_add_one, List.getElem?_eq_getElem hlt, List.flatMap_append]
    show _ ++ [l[i]].flatMap _ = _
    rw [List.flatMap_cons, List.flatMap_nil, List.append_nil]
    rfl
  refine ⟨fun i' n H' => n = l.length - i' ∧ i' ≤ l.length ∧ ∃ acc, H' Dl = some (.lst acc) ∧ Ex H1 H' ∧ acc.length ≤ i' * m.length ∧ RpA C' H' acc (K (l.take i')), ⟨l.length, rfl, Nat.zero_le _, [], upd_same, Ex.new hD, Nat.zero_le _, by rw [List.take_zero]; exact .nil⟩, ?_⟩
  rintro i' n H' ⟨rfl, hi', acc, hacc, e', hn, ra⟩
  obtain ⟨stop, go⟩ := it C' H' (fun a z => z.elim .inl fun e => .inr (e ▸ hD)) (alC e' hacc) (e'.xc C')
  by_cases hlt : i' < l.length
  · have hx : (l.map D.int)[i']? = some (.int l[i']) := by rw [List.getElem?_map, List.getElem?_eq_getElem hlt]; rfl
    have hmem : l[i'] ∈ l := List.getElem_mem hlt
    have kn' := kn i' hlt
    rw [List.getElem?_eq_getElem hlt, Option.getD_some] at kn'
    obtain ⟨g1, g2⟩ := go i' _ hx
    refine .inr ⟨g1, fun H2 => i' + 1 ≤ l.length ∧ ∃ acc, H2 Dl = some (.lst acc) ∧ Ex H1 H2 ∧ acc.length ≤ (i' + 1) * m.length ∧ RpA C' H2 acc (K (l.take (i' + 1))), fun H2 w => ⟨l.length - (i' + 1), by omega, rfl, w⟩, fun x H2 y => ?_⟩
    obtain ⟨e2, rx⟩ := g2 x H2 y
    cases rx
    have s2 : Sat C' H2 ((L2.wipe σ [i, j]).set i (some (.int l[i']))) ((wipeG G [i, j]).set i (some (.int l[i']))) := ((s1.ex (e'.trans e2)).wipe [i, j]).set i (.int _)
    refine ⟨by rw [wipe_set _ _ _ (by simp), wipe_wipe], ?_⟩
    unfold tYes
    dsimp only
    rw [if_pos rfl]
    refine ⟨l[i'], hmem, C', e2.al (alC e' hacc), s2, fun J1 H4 e4 it1 => ?_⟩
    have e14 : Ex H1 H4 := e'.trans (e2.trans e4)
    have hacc4 : H4 Dl = some (.lst acc) := (e2.trans e4) _ _ hacc
    refine ⟨fun j' n H5 => n = m.length - j' ∧ j' ≤ m.length ∧ ∃ acc', H5 Dl = some (.lst acc') ∧ Ex H1 H5 ∧ (∀ a u, a ≠ Dl → H4 a = some u → H5 a = some u) ∧ acc'.length ≤ i' * m.length + j' ∧ RpA C' H5 acc' (K (l.take i') ++ ((m.take j').filter (p l[i'])).map (f l[i'])),
      ⟨m.length, rfl, Nat.zero_le _, acc, hacc4, e14, fun _ _ _ h => h, by omega, by rw [List.take_zero]; show RpA C' H4 acc (K (l.take i') ++ []); rw [List.append_nil]; exact RpA.mv ((e2.trans e4).mv C') _ _ ra⟩, ?_⟩
    rintro j' n H5 ⟨rfl, hj', acc', hacc', e5, k5, hn', ra'⟩
    have al5 : Al C' H5 := alC e5 hacc'
    obtain ⟨stop1, go1⟩ := it1 C' H5 (fun a z => .inl z) al5 fun a u c h => k5 a u (fun e => c (.inr e)) h
    by_cases hlt' : j' < m.length
    · have hx' : (m.map D.int)[j']? = some (.int m[j']) := by rw [List.getElem?_map, List.getElem?_eq_getElem hlt']; rfl
      have hmem' : m[j'] ∈ m := List.getElem_mem hlt'
      obtain ⟨g3, g4⟩ := go1 j' _ hx'
      refine .inr ⟨g3, fun H6 => j' + 1 ≤ m.length ∧ ∃ acc', H6 Dl = some (.lst acc') ∧ Ex H1 H6 ∧ (∀ a u, a ≠ Dl → H4 a = some u → H6 a = some u) ∧ acc'.length ≤ i' * m.length + (j' + 1) ∧ RpA C' H6 acc' (K (l.take i') ++ ((m.take (j' + 1)).filter (p l[i'])).map (f l[i'])), fun H6 w => ⟨m.length - (j' + 1), by omega, rfl, w⟩, fun x H6 y => ?_⟩
      obtain ⟨e6, rx⟩ := g4 x H6 y
      cases rx
      have s5 : Sat C' H6 ((L2.wipe ((L2.wipe σ [i, j]).set i (some (.int l[i']))) [j]).set j (some (.int m[j']))) (((wipeG G [i, j]).set i (some (.int l[i']))).set j (some (.int m[j']))) := by
        have h1 : Sat C' H6 ((L2.wipe σ [i, j]).set i (some (.int l[i']))) ((wipeG G [i, j]).set i (some (.int l[i']))) := ((s1.ex (e5.trans e6)).wipe [i, j]).set i (.int _)
        have h2 := (h1.wipe [j]).set j (.int m[j'])
        have h3 : (wipeG ((wipeG G [i, j]).set i (some (D.int l[i']))) [j]).set j (some (D.int m[j'])) = ((wipeG G [i, j]).set i (some (.int l[i']))).set j (some (.int m[j'])) := by
          show (((wipeG G [i, j]).set i (some (D.int l[i']))).set j none).set j (some (D.int m[j'])) = _
          rw [List.set_set]
        rw [h3] at h2
        exact h2
      refine ⟨by rw [wipe_set _ _ _ (by simp), wipe_wipe], (l[i'], m[j']), ⟨hmem, hmem'⟩, C', e6.al al5, s5, fun H7 e7 => ?_⟩
      have kf : ∀ {H'' : Hp}, Ex H5 H'' → ∀ a u, a ≠ Dl → H4 a = some u → H'' a = some u := fun e a u ne h => e a u (k5 a u ne h)
      have bnd : i' * m.length + j' < 100000 := by
        have : i' * m.length ≤ 300 * 300 := Nat.mul_le_mul (by omega) hm
        omega
      have tk : (((m.take (j' + 1)).filter (p l[i'])).map (f l[i'])) = ((m.take j').filter (p l[i'])).map (f l[i']) ++ (if p l[i'] m[j'] = true then [f l[i'] m[j']] else []) := lc_next hlt'
      cases hp : p l[i'] m[j'] with
      | true =>
        refine iteT ⟨(l[i'], m[j']), ⟨⟨hmem, hmem'⟩, hp⟩, C', (e6.trans e7).al al5, s5.ex e7, fun v H8 e8 rv => ?_⟩
        have e58 : Ex H5 H8 := e6.trans (e7.trans e8)
        refine ⟨acc', e58 _ _ hacc', szl (by omega), hlt', acc' ++ [v], upd_same, Ex.mut (e5.trans e58) hD, fun a u ne h => by rw [upd_ne ne]; exact kf e58 a u ne h, by rw [List.length_append, List.length_singleton]; omega, ?_⟩
        rw [tk, if_pos hp, ← List.append_assoc]
        exact ((RpA.mv (e58.mv C') _ _ ra').append (.one rv)).mv (Mv.upd (.inr rfl)) _ _
      | false =>
        refine iteF ⟨hlt', acc', (e6.trans e7) _ _ hacc', e5.trans (e6.trans e7), kf (e6.trans e7), by omega, ?_⟩
        rw [tk, if_neg (by rw [hp]; exact Bool.false_ne_true), List.append_nil]
        exact RpA.mv ((e6.trans e7).mv C') _ _ ra'
    · have e : j' = m.length := by omega
      subst e
      refine .inl ⟨stop1 _ (by rw [List.length_map]; exact Nat.le_refl _), hlt, acc', hacc', e5, by rw [Nat.succ_mul]; exact hn', ?_⟩
      rw [kn']
      rw [List.take_length] at ra'
      exact ra'
  · have e : i' = l.length := by omega
    subst e
    rw [List.take_length] at ra
    exact .inl ⟨stop _ (by rw [List.length_map]; exact Nat.le_refl _), q _ H' (e1.trans e') (.lst (fun c => (e1.al al) Dl c hD) (.inl hacc) (RpA.mv (Mv.less fun a c => .inl c) _ _ ra))⟩
end
end L2.K79

set_option Elab.async false
set_option linter.all false
set_option maxRecDepth 100000
set_option maxHeartbeats 4000000
namespace L2.K79
open PySem PySem.Spec PyProof.Rows L2

/-! ### sorted lists of ints -/
def srt (ns : List Int) : List Int := ns.mergeSort (fun a b => decide (a ≤ b))
theorem srt_perm (ns : List Int) : (srt ns).Perm ns := List.mergeSort_perm ns _
theorem srt_le (ns : List Int) : (srt ns).Pairwise (· ≤ ·) := by
  have h := List.pairwise_mergeSort (le := fun (a b : Int) => decide (a ≤ b)) (fun a b c h1 h2 => by simp at *; omega) (fun a b => by simp; omega) ns
  exact h.imp fun h => of_decide_eq_true h
theorem srt_eq {ns ms : List Int} (p : ms.Perm ns) (h : ms.Pairwise (· ≤ ·)) : ms = srt ns := pair_lt (p.trans (srt_perm ns).symm) h (srt_le ns)
theorem srt_length (ns : List Int) : (srt ns).length = ns.length := (srt_perm ns).length_eq
theorem mem_srt {ns : List Int} {x : Int} : x ∈ srt ns ↔ x ∈ ns := (srt_perm ns).mem_iff
/-- put into a rising list -/
def ins (x : Int) : List Int → List Int
  | [] => [x]
  | y :: r => if x < y then x :: y :: r else if x = y then y :: r else y :: ins x r
def sdu (ns : List Int) : List Int := ns.foldr ins []
theorem mem_ins {x z : Int} : ∀ {l : List Int}, z ∈ ins x l ↔ z = x ∨ z ∈ l
  | [] => by simp [ins]
  | y :: r => by
    unfold ins
    split
    · simp
    · split
      · rename_i h; subst h; simp
      · rw [List.mem_cons, mem_ins (l := r), List.mem_cons]
        constructor
        · rintro (h | h | h)
          · exact .inr (.inl h)
          · exact .inl h
          · exact .inr (.inr h)
        · rintro (h | h | h)
          · exact .inr (.inl h)
          · exact .inl h
          · exact .inr (.inr h)
theorem lt_ins {x : Int} : ∀ {l : List Int}, l.Pairwise (· < ·) → (ins x l).Pairwise (· < ·)
  | [], _ => by simp [ins]
  | y :: r, h => by
    obtain ⟨h1, h2⟩ := List.pairwise_cons.mp h
    unfold ins
    split
    · rename_i hlt
      refine List.pairwise_cons.mpr ⟨fun z hz => ?_, h⟩
      rcases List.mem_cons.mp hz with e | hz
      · omega
      · have := h1 z hz; omega
    · split
      · exact h
      · refine List.pairwise_cons.mpr ⟨fun z hz => ?_, lt_ins h2⟩
        rcases mem_ins.mp hz with e | hz
        · omega
        · exact h1 z hz
theorem mem_sdu {z : Int} : ∀ {ns : List Int}, z ∈ sdu ns ↔ z ∈ ns
  | [] => by simp [sdu]
  | n :: ns => by
    show z ∈ ins n (sdu ns) ↔ _
    rw [mem_ins, mem_sdu (ns := ns), List.mem_cons]
theorem sdu_lt : ∀ ns : List Int, (sdu ns).Pairwise (· < ·)
  | [] => List.Pairwise.nil
  | n :: ns => lt_ins (sdu_lt ns)
theorem lt_ext : ∀ {l m : List Int}, l.Pairwise (· < ·) → m.Pairwise (· < ·) → (∀ z, z ∈ l ↔ z ∈ m) → l = m
  | [], [], _, _, _ => rfl
  | [], y :: m, _, _, h => absurd ((h y).mpr List.mem_cons_self) (by simp)
  | x :: l, [], _, _, h => absurd ((h x).mp List.mem_cons_self) (by simp)
  | x :: l, y :: m, hl, hm, h => by
    obtain ⟨l1, l2⟩ := List.pairwise_cons.mp hl
    obtain ⟨m1, m2⟩ := List.pairwise_cons.mp hm
    have e : x = y := by
      rcases List.mem_cons.mp ((h x).mp List.mem_cons_self) with e | hx
      · exact e
      · rcases List.mem_cons.mp ((h y).mpr List.mem_cons_self) with e | hy
        · exact e.symm
        · have := m1 x hx
          have := l1 y hy
          omega
    subst e
    congr 1
    refine lt_ext l2 m2 fun z => ⟨fun hz => ?_, fun hz => ?_⟩
    · rcases List.mem_cons.mp ((h z).mp (List.mem_cons_of_mem _ hz)) with e | q
      · have := l1 z hz; omega
      · exact q
    · rcases List.mem_cons.mp ((h z).mpr (List.mem_cons_of_mem _ hz)) with e | q
      · have := m1 z hz; omega
      · exact q
theorem sdu_eq {ns ms : List Int} (h : ms.Pairwise (· < ·)) (hm : ∀ z, z ∈ ms ↔ z ∈ ns) : ms = sdu ns := lt_ext h (sdu_lt ns) fun z => (hm z).trans mem_sdu.symm

/-! ### dicts from ints to ints -/
def kz (l : List (Int × Int)) : List (Key × V) := l.map fun p => (Sum.inl p.1, V.int p.2)
def dZ (l : List (Int × Int)) : D := .dct (kz l)
def pD (p : Int × Int) : D := .tup [.int p.1, .int p.2]
def tS (s : List (Int × Int)) : D := .tux (s.map pD)
def zput (l : List (Int × Int)) (k v : Int) : List (Int × Int) := if l.any (fun p => p.1 == k) then l.map (fun p => if p.1 = k then (p.1, v) else p) else l ++ [(k, v)]
def zmerge (a b : List (Int × Int)) : List (Int × Int) := b.foldl (fun acc p => zput acc p.1 p.2) a
def zget (l : List (Int × Int)) (k : Int) : Option Int := (l.find? fun p => p.1 == k).map (·.2)
theorem inl_eq {a b : Int} : ((Sum.inl a : Key) = Sum.inl b) ↔ a = b := ⟨fun h => Sum.inl.inj h, fun h => by rw [h]⟩
theorem kz_put (l : List (Int × Int)) (k v : Int) : putK (kz l) (Sum.inl k) (.int v) = kz (zput l k v) := by
  unfold putK zput kz
  have e : ((l.map fun p => ((Sum.inl p.1 : Key), V.int p.2)).any fun kv => decide (kv.1 = Sum.inl k)) = l.any (fun p => p.1 == k) := by
    rw [List.any_map]
    congr 1
    funext p
    show decide ((Sum.inl p.1 : Key) = Sum.inl k) = (p.1 == k)
    rw [key_ll]
  rw [e]
  split
  · rw [List.map_map, List.map_map]
    apply List.map_congr_left
    intro p _
    show (if (Sum.inl p.1 : Key) = Sum.inl k then ((Sum.inl p.1 : Key), V.int v) else (Sum.inl p.1, V.int p.2)) = _
    by_cases h : p.1 = k
    · rw [if_pos (inl_eq.mpr h)]
      simp [h]
    · rw [if_neg (fun z => h (inl_eq.mp z))]
      simp [h]
  · rw [List.map_append]
    rfl
theorem kz_merge : ∀ (b a : List (Int × Int)), mergeK (kz a) (kz b) = kz (zmerge a b)
  | [], _ => rfl
  | p :: b, a => by
    show mergeK (putK (kz a) (Sum.inl p.1) (.int p.2)) (kz b) = kz (zmerge (zput a p.1 p.2) b)
    rw [kz_put, kz_merge b]
theorem kz_get (l : List (Int × Int)) (k : Int) : valV (kz l) (Sum.inl k) = (zget l k).map V.int := by
  unfold valV zget kz
  rw [List.find?_map]
  have e : ((fun kv : Key × V => decide (kv.1 = Sum.inl k)) ∘ fun p : Int × Int => ((Sum.inl p.1 : Key), V.int p.2)) = fun p => p.1 == k := by
    funext p
    show decide ((Sum.inl p.1 : Key) = Sum.inl k) = (p.1 == k)
    rw [key_ll]
  rw [e]
  cases l.find? (fun p => p.1 == k) <;> rfl
theorem zmerge_length : ∀ (b a : List (Int × Int)), (zmerge a b).length ≤ a.length + b.length
  | [], _ => Nat.le_refl _
  | p :: b, a => by
    show (zmerge (zput a p.1 p.2) b).length ≤ _
    have h := zmerge_length b (zput a p.1 p.2)
    have h2 : (zput a p.1 p.2).length ≤ a.length + 1 := by
      unfold zput
      split <;> simp
    simp only [List.length_cons]
    omega
/-- the keys: as they come first -/
theorem zput_keys (l : List (Int × Int)) (k v : Int) (z : Int) : z ∈ (zput l k v).map (·.1) ↔ z ∈ l.map (·.1) ∨ z = k := by
  unfold zput
  split
  · rename_i h
    rw [List.map_map]
    have e : (List.map ((fun x : Int × Int => x.1) ∘ fun p : Int × Int => if p.1 = k then (p.1, v) else p) l) = l.map (·.1) := by
      apply List.map_congr_left
      intro p _
      show (if p.1 = k then (p.1, v) else p).1 = p.1
      split <;> rfl
    rw [e]
    constructor
    · exact .inl
    · rintro (h1 | rfl)
      · exact h1
      · obtain ⟨p, hp, hk⟩ := List.any_eq_true.mp h
        exact List.mem_map.mpr ⟨p, hp, eq_of_beq hk⟩
  · rw [List.map_append, List.mem_append]
    simp
theorem zmerge_keys (z : Int) : ∀ (b a : List (Int × Int)), z ∈ (zmerge a b).map (·.1) ↔ z ∈ a.map (·.1) ∨ z ∈ b.map (·.1)
  | [], a => by simp [zmerge]
  | p :: b, a => by
    show z ∈ (zmerge (zput a p.1 p.2) b).map (·.1) ↔ _
    rw [zmerge_keys z b, zput_keys, List.map_cons, List.mem_cons]
    constructor
    · rintro ((h | h) | h)
      · exact .inl h
      · exact .inr (.inl h)
      · exact .inr (.inr h)
    · rintro (h | h | h)
      · exact .inl (.inl h)
      · exact .inl (.inr h)
      · exact .inr h
theorem zput_nodup {l : List (Int × Int)} {k v : Int} (h : (l.map (·.1)).Nodup) : ((zput l k v).map (·.1)).Nodup := by
  unfold zput
  split
  · rw [List.map_map]
    have e : (List.map ((fun x : Int × Int => x.1) ∘ fun p : Int × Int => if p.1 = k then (p.1, v) else p) l) = l.map (·.1) := by
      apply List.map_congr_left
      intro p _
      show (if p.1 = k then (p.1, v) else p).1 = p.1
      split <;> rfl
    rw [e]
    exact h
  · rename_i hn
    rw [List.map_append, List.nodup_append]
    refine ⟨h, by simp, fun a ha b hb => ?_⟩
    simp only [List.map_cons, List.map_nil, List.mem_singleton] at hb
    subst hb
    rintro rfl
    obtain ⟨p, hp, e⟩ := List.mem_map.mp ha
    exact hn (List.any_eq_true.mpr ⟨p, hp, beq_iff_eq.mpr e⟩)
theorem zmerge_nodup : ∀ (b a : List (Int × Int)), (a.map (·.1)).Nodup → ((zmerge a b).map (·.1)).Nodup
  | [], _, h => h
  | p :: b, a, h => zmerge_nodup b (zput a p.1 p.2) (zput_nodup h)
theorem zget_of {l : List (Int × Int)} {k : Int} (h : k ∈ l.map (·.1)) : ∃ v, zget l k = some v := by
  unfold zget
  cases e : l.find? (fun p => p.1 == k) with
  | some p => exact ⟨p.2, rfl⟩
  | none =>
    obtain ⟨p, hp, hk⟩ := List.mem_map.mp h
    have := List.find?_eq_none.mp e p hp
    exact absurd (beq_iff_eq.mpr hk) this
theorem zget_mem {l : List (Int × Int)} {k v : Int} (h : zget l k = some v) : (k, v) ∈ l := by
  unfold zget at h
  cases e : l.find? (fun p => p.1 == k) with
  | none => rw [e] at h; cases h
  | some p =>
    rw [e] at h
    cases h
    have h1 := List.find?_some e
    have h2 := List.mem_of_find?_eq_some e
    have : p.1 = k := eq_of_beq h1
    subst this
    exact h2
/-- the strip of a dict -/
def zstrip (l : List (Int × Int)) : List (Int × Int) := (srt (l.map (·.1))).map fun k => (k, (zget l k).getD 0)

section
variable {X : Cx} {G : Gm} {pos : Pos} {a b c e : Expr} {es : List Expr} {α : Type}
/-! ### tuples, known and not -/
theorem rp_weak {C : Addr → Prop} {H : Hp} {v : V} {ds : List D} (h : Rp C H v (.tux ds)) : Rp C H v (.tup ds) := by
  cases h with
  | tux hc hd hr ha => exact .tup hc (.inr ⟨trivial, _, hr.frz⟩) ha
theorem je_weak {ds : List D} (h : JE X e G (.tux ds)) : JE X e G (.tup ds) := h.wk fun σ H Q ⟨C, al, s, q⟩ => ⟨C, al, s, fun v H' e r => q v H' e (rp_weak r)⟩
theorem je_tupleX {p : Pos} {ds : List D} (hm : X.mg "tuple" = none) (ha : JE X e G (.lst ds)) (he : starEach [e] X.env = (false, eval e X.env) :: starEach [] X.env := by rfl) (hg : Gl X "tuple" := by rfl) (hpl : (backTo pos (starEach [] X.env)).any (·.1) = false := by rfl) : JE X (.Call (.Name "tuple" p) [e] [] pos) G (.tux ds) :=
  je_cT call_tupleX hm (by decide +kernel) (ja_cons ha ja_nil he) (fun C vs H al r Q q => by
    cases r with
    | cons h1 h2 =>
      cases h2
      cases h1 with
      | lst hc hr ht => exact ⟨_, _, rfl, .inl hr.rd, fun l ob hd hl => q _ _ (Ex.new hl) (.tux (fresh_C al hl) hd (.inl upd_same) (RpA.mv ((Ex.new hl).mv C) _ _ ht))⟩) hg (by decide) (by decide) he hpl
theorem je_rev {ds : List D} {k : Nat} {p1 p2 p3 : Pos} (ha : JE X a G (.tup ds)) : JE X (.Subscript a (.Slice none none (some (.UnaryOp .USub (.Constant (.int 1) k p1) p2)) p3) pos) G (.tup ds.reverse) :=
  (pe_revT ha).wk fun σ H Q ⟨C, al, s, q⟩ => ⟨C, al, s, fun v H1 e1 r1 => by
    cases r1 with
    | tup hc hr ht => exact ⟨_, _, rfl, .inl hr.rd, fun p hp => q _ _ (e1.trans (Ex.new hp)) (rp_newT (e1.al al) hp ht.reverse)⟩⟩
theorem je_ty {x : Str} {n : String} (hm : X.mg x = none) (hv : bootBuiltins x = some (.type n)) (hg : Gl X x := by rfl) (hn : x ≠ "__name__" := by decide) (hd : (x == ("__debug__" : Str)) = false := by decide) : JE X (.Name x pos) G (.ty n) :=
  (pe_bltn (v := .ty n) hg hm hv rfl hn hd).wk fun σ H Q ⟨C, al, s, q⟩ => q _ H (Same.refl H) (.ty n)
/-- isinstance(v, T) -/
def DTy : D → String → Prop
  | .int _, t => t = "int"
  | .bl _, t => t = "bool"
  | .tup _, t => t = "tuple"
  | _, _ => False
theorem tyx_of {K : PySem.W.Frag} {C : Addr → Prop} {H : Hp} {v : V} {d : D} {t : String} (r : Rp C H v d) (h : DTy d t) : TyX K H v (.type t) := by
  cases r with
  | int i => obtain rfl : t = "int" := h; exact .base (.int i)
  | bl b => obtain rfl : t = "bool" := h; exact .base (.bl b)
  | tup hc hr ha =>
    obtain rfl : t = "tuple" := h
    rcases hr with hr | ⟨_, o, hr⟩
    · exact .base (.tup hr)
    · exact .fTuple hr
  | _ => exact h.elim
theorem je_isi {p : Pos} {d : D} {t n : String} {k : Bool} (hm : X.mg "isinstance" = none) (ha : JE X a G d) (hb : JE X b G (.ty n)) (ht : DTy d t) (hk : kitB t n = some k) (he : starEach [a, b] X.env = (false, eval a X.env) :: starEach [b] X.env := by rfl) (he2 : starEach [b] X.env = (false, eval b X.env) :: starEach [] X.env := by rfl) (hg : Gl X "isinstance" := by rfl) (hpl : (backTo pos (starEach [b] X.env)).any (·.1) = false := by rfl) :
    JE X (.Call (.Name "isinstance" p) [a, b] [] pos) G (.bl k) :=
  je_cB call_isi hm (by decide +kernel) (ja_cons ha (ja_cons hb ja_nil he2) he) (fun C vs H al r Q q => by
    cases r with
    | cons h1 h2 =>
      cases h2 with
      | cons h3 h4 =>
        cases h4
        cases h3
        exact ⟨_, _, .type t, .type n, k, rfl, .ty n, tyx_of h1 ht, kit_ty hk, q _ H (Same.refl H) (.bl _)⟩) hg (by decide) (by decide) he hpl
/-! ### sorted, set -/
theorem je_sortedL {p : Pos} {ns : List Int} (hm : X.mg "sorted" = none) (ha : JE X e G (lI ns)) (he : starEach [e] X.env = (false, eval e X.env) :: starEach [] X.env := by rfl) (hg : Gl X "sorted" := by rfl) (hpl : (backTo pos (starEach [] X.env)).any (·.1) = false := by rfl) : JE X (.Call (.Name "sorted" p) [e] [] pos) G (lI (srt ns)) :=
  je_cB cr_sortedI hm (by decide +kernel) (ja_cons ha ja_nil he) (fun C vs H al r Q q => by
    cases r with
    | cons h1 h2 =>
      cases h2
      cases h1 with
      | lst hc hr ht =>
        rw [rpA_int ht] at hr
        refine ⟨_, ns, rfl, .inl hr.rd, fun ns' p hp hs hf => ?_⟩
        rw [srt_eq hp hs]
        exact q _ _ (Ex.new hf) (rp_newL al hf (rpA_of_int _))) hg (by decide) (by decide) he hpl
theorem je_sortedD {p : Pos} {l : List (Int × Int)} (hcalm : X.calm = true) (hm : X.mg "sorted" = none) (ha : JE X e G (dZ l)) (he : starEach [e] X.env = (false, eval e X.env) :: starEach [] X.env := by rfl) (hg : Gl X "sorted" := by rfl) (hpl : (backTo pos (starEach [] X.env)).any (·.1) = false := by rfl) : JE X (.Call (.Name "sorted" p) [e] [] pos) G (lI (srt (l.map (·.1)))) :=
  je_cB (call_sortedDA hcalm) hm (by decide +kernel) (ja_cons ha ja_nil he) (fun C vs H al r Q q => by
    cases r with
    | cons h1 h2 =>
      cases h2
      cases h1 with
      | dct hc hr =>
        refine ⟨_, _, l.map (·.1), rfl, hr.rd, by unfold kz; rw [List.map_map, List.map_map]; rfl, fun ns' p hp hs hf => ?_⟩
        rw [srt_eq hp hs]
        exact q _ _ (Ex.new hf) (rp_newL al hf (rpA_of_int _))) hg (by decide) (by decide) he hpl
/-- sorted(set(e)), e a list of ints, a tuple of ints -/
theorem je_sset {p p2 pos2 : Pos} {ns : List Int} {d : D} (hd : d = lI ns ∨ d = tI ns ∨ d = .tux (ns.map D.int)) (hcalm : X.calm = true) (hm : X.mg "sorted" = none) (hm2 : X.mg "set" = none) (ha : JE X e G d) (hl : ns.length ≤ 4000) (he : starEach [e] X.env = (false, eval e X.env) :: starEach [] X.env := by rfl) (hg2 : Gl X "set" := by rfl) (hpl2 : (backTo pos2 (starEach [] X.env)).any (·.1) = false := by rfl)
    (he2 : starEach [.Call (.Name "set" p2) [e] [] pos2] X.env = (false, eval (.Call (.Name "set" p2) [e] [] pos2) X.env) :: starEach [] X.env := by rfl) (hg : Gl X "sorted" := by rfl) (hpl : (backTo pos (starEach [] X.env)).any (·.1) = false := by rfl) :
    JE X (.Call (.Name "sorted" p) [.Call (.Name "set" p2) [e] [] pos2] [] pos) G (lI (sdu ns)) :=
  (pe_callB (cr_sortedS' hcalm) hg hm (by decide +kernel) (pa_cons (pe_callTy (cr_setI hcalm) hg2 hm2 (by decide +kernel) (ja_cons ha ja_nil he) (by decide) (by decide) he hpl2) pa_nil he2) (by decide) (by decide) he2 hpl).wk fun σ H Q ⟨C, al, s, q⟩ => by
    refine ⟨C, al, s, fun vs H1 e1 r1 => ?_⟩
    have al1 := e1.al al
    have fin : ∀ (a : Addr), (SqL X.K H1 a (ns.map V.int) ∨ SqT X.K H1 a (ns.map V.int)) → rSetI X.K X.w [.ref a] H1 (fun x H1 => tNil σ H1 fun xs H2 => rSortedS X.w (x :: xs) H2 Q) := fun a hs => by
      refine ⟨a, ns, rfl, hs, by omega, fun p n hp => ?_⟩
      refine ⟨p, _, n, rfl, upd_same, fun ms p' h1 h2 h3 => ?_⟩
      have e : ms = sdu ns := sdu_eq h1 fun z => (h2 z).trans (by simp)
      subst e
      have e3 : Ex H1 (upd H1 p (SetO X.w p (fun j => decide (j ∈ ns)) n)) := Ex.new hp
      exact q _ _ (e1.trans (e3.trans (Ex.new h3))) (rp_newL (e3.al al1) h3 (rpA_of_int _))
    cases r1 with
    | cons h1 h2 =>
      cases h2
      rcases hd with rfl | rfl | rfl
      · cases h1 with
        | lst hc hr ht =>
          rw [rpA_int ht] at hr
          exact fin _ (.inl (.inl hr.rd))
      · cases h1 with
        | tup hc hr ht =>
          rw [rpA_int ht] at hr
          exact fin _ (.inr (.inl hr.rd))
      · cases h1 with
        | tux hc ho hr ht =>
          rw [rpA_int ht] at hr
          exact fin _ (.inr (.inl (.inr ⟨_, hr.frz⟩)))
/-! ### in -/
theorem inV_int (x : Int) : ∀ ns : List Int, inV (.int x) (ns.map V.int) = decide (x ∈ ns)
  | [] => by simp [inV]
  | n :: ns => by
    have ih := inV_int x ns
    unfold inV at ih ⊢
    rw [List.map_cons, List.any_cons, ih]
    show ((n == x) || decide (x ∈ ns)) = _
    by_cases h : n = x
    · subst h; simp
    · have h2 : ¬ x = n := fun e => h e.symm
      simp [h, h2]
theorem flat_int : ∀ ns : List Int, (ns.map V.int).all flatV = true
  | [] => rfl
  | n :: ns => by rw [List.map_cons, List.all_cons, flat_int ns]; rfl
theorem in_sem {neg : Bool} {C : Addr → Prop} {H : Hp} {x y : V} {i : Int} {ns : List Int} {d : D} (hd : d = lI ns ∨ d = tI ns) (r1 : Rp C H x (.int i)) (r2 : Rp C H y d) {Q : VK} (q : Q (.bl (if neg then !decide (i ∈ ns) else decide (i ∈ ns))) H) : rIn X.K neg x y H Q := by
  cases r1
  rcases hd with rfl | rfl
  · cases r2 with
    | lst hc hr ht =>
      rw [rpA_int ht] at hr
      exact ⟨_, _, rfl, .inl (.inl hr.rd), rfl, flat_int ns, by rw [inV_int]; exact q⟩
  · cases r2 with
    | tup hc hr ht =>
      rw [rpA_int ht] at hr
      exact ⟨_, _, rfl, .inr (.inl hr.rd), rfl, flat_int ns, by rw [inV_int]; exact q⟩
theorem je_in {i : Int} {ns : List Int} {d : D} (hd : d = lI ns ∨ d = tI ns) (ha : JE X a G (.int i)) (hb : JE X b G d) (hm : behindInMarks .In b = false := by rfl) : JE X (.Compare a [.In] [b] pos) G (.bl (decide (i ∈ ns))) :=
  je_cmp op_in_seq hm ha hb fun C x y H al r1 r2 Q q => in_sem hd r1 r2 (q _ H (Same.refl H) (.bl _))
theorem je_nin {i : Int} {ns : List Int} {d : D} (hd : d = lI ns ∨ d = tI ns) (ha : JE X a G (.int i)) (hb : JE X b G d) (hm : behindInMarks .NotIn b = false := by rfl) : JE X (.Compare a [.NotIn] [b] pos) G (.bl (!decide (i ∈ ns))) :=
  je_cmp op_notIn_seq hm ha hb fun C x y H al r1 r2 Q q => in_sem hd r1 r2 (q _ H (Same.refl H) (.bl _))
/-! ### dicts -/
theorem paired_of {C : Addr → Prop} {H : Hp} {K : PySem.W.Frag} {kv : α → Key × V} {f : α → D} (hf : ∀ (x : α) (v : V), Rp C H v (f x) → ∃ p, v = .ref p ∧ SqT K H p [kV (kv x).1, (kv x).2]) : ∀ {l : List α} {xs : List V}, RpA C H xs (l.map f) → ∃ ps : List Addr, xs = ps.map V.ref ∧ Paired (fun p kv => SqT K H p [kV kv.1, kv.2]) ps (l.map kv)
  | [], xs, h => by cases h; exact ⟨[], rfl, .nil⟩
  | x :: l, xs, h => by
    cases h with
    | cons h1 h2 =>
      obtain ⟨p, rfl, hp⟩ := hf x _ h1
      obtain ⟨ps, rfl, hps⟩ := paired_of hf h2
      exact ⟨p :: ps, rfl, .cons hp hps⟩
theorem rp_pair {C : Addr → Prop} {H : Hp} {K : PySem.W.Frag} {v : V} {k x : Int} (h : Rp C H v (.tup [.int k, .int x])) : ∃ p, v = .ref p ∧ SqT K H p [kV (Sum.inl k), .int x] := by
  cases h with
  | tup hc hr ha =>
    cases ha with
    | cons h1 h2 =>
      cases h2 with
      | cons h3 h4 =>
        cases h4; cases h1; cases h3
        exact ⟨_, rfl, .inl hr.rd⟩
theorem rp_pairB {C : Addr → Prop} {H : Hp} {K : PySem.W.Frag} {v : V} {k : Int} {x : Bool} (h : Rp C H v (.tup [.int k, .bl x])) : ∃ p, v = .ref p ∧ SqT K H p [kV (Sum.inl k), .bl x] := by
  cases h with
  | tup hc hr ha =>
    cases ha with
    | cons h1 h2 =>
      cases h2 with
      | cons h3 h4 =>
        cases h4; cases h1; cases h3
        exact ⟨_, rfl, .inl hr.rd⟩
theorem rp_newD {C : Addr → Prop} {H : Hp} {p : Addr} {kvs : List (Key × V)} (al : Al C H) (h : H p = none) : Rp C (upd H p (.dK kvs)) (.ref p) (.dct kvs) := .dct (fresh_C al h) (.inl upd_same)
/-- dict([(k, v) ..]) -/
theorem je_dictL {p : Pos} {l : List α} {k v : α → Int} (hcalm : X.calm = true) (hm : X.mg "dict" = none) (ha : JE X e G (.lst (l.map fun x => .tup [.int (k x), .int (v x)]))) (he : starEach [e] X.env = (false, eval e X.env) :: starEach [] X.env := by rfl) (hg : Gl X "dict" := by rfl) (hpl : (backTo pos (starEach [] X.env)).any (·.1) = false := by rfl) : JE X (.Call (.Name "dict" p) [e] [] pos) G (dZ (zmerge [] (l.map fun x => (k x, v x)))) :=
  je_cT (call_dictP hcalm) hm (by decide +kernel) (ja_cons ha ja_nil he) (fun C vs H al r Q q => by
    cases r with
    | cons h1 h2 =>
      cases h2
      cases h1 with
      | lst hc hr ht =>
        obtain ⟨ps, rfl, hps⟩ := paired_of (K := X.K) (kv := fun x => (Sum.inl (k x), V.int (v x))) (fun x v r => rp_pair r) ht
        refine ⟨_, ps, _, rfl, .inl hr.rd, hps, fun p hp => ?_⟩
        have e : mergeK [] (l.map fun x => ((Sum.inl (k x) : Key), V.int (v x))) = kz (zmerge [] (l.map fun x => (k x, v x))) := by
          rw [← kz_merge]
          congr 1
          unfold kz
          rw [List.map_map]
          rfl
        rw [e]
        exact q _ _ (Ex.new hp) (rp_newD al hp)) hg (by decide) (by decide) he hpl
theorem je_dictB {p : Pos} {l : List α} {k : α → Int} (hcalm : X.calm = true) (hm : X.mg "dict" = none) (ha : JE X e G (.lst (l.map fun x => .tup [.int (k x), .bl true]))) (he : starEach [e] X.env = (false, eval e X.env) :: starEach [] X.env := by rfl) (hg : Gl X "dict" := by rfl) (hpl : (backTo pos (starEach [] X.env)).any (·.1) = false := by rfl) : JE X (.Call (.Name "dict" p) [e] [] pos) G (.dct (mergeK [] (l.map fun x => (Sum.inl (k x), V.bl true)))) :=
  je_cT (call_dictP hcalm) hm (by decide +kernel) (ja_cons ha ja_nil he) (fun C vs H al r Q q => by
    cases r with
    | cons h1 h2 =>
      cases h2
      cases h1 with
      | lst hc hr ht =>
        obtain ⟨ps, rfl, hps⟩ := paired_of (K := X.K) (kv := fun x => (Sum.inl (k x), V.bl true)) (fun x v r => rp_pairB r) ht
        exact ⟨_, ps, _, rfl, .inl hr.rd, hps, fun p hp => q _ _ (Ex.new hp) (rp_newD al hp)⟩) hg (by decide) (by decide) he hpl
/-- dict(strip) -/
theorem je_dictS {p : Pos} {s : List (Int × Int)} (hcalm : X.calm = true) (hm : X.mg "dict" = none) (ha : JE X e G (tS s)) (he : starEach [e] X.env = (false, eval e X.env) :: starEach [] X.env := by rfl) (hg : Gl X "dict" := by rfl) (hpl : (backTo pos (starEach [] X.env)).any (·.1) = false := by rfl) : JE X (.Call (.Name "dict" p) [e] [] pos) G (dZ (zmerge [] s)) :=
  je_cT (call_dictT hcalm) hm (by decide +kernel) (ja_cons ha ja_nil he) (fun C vs H al r Q q => by
    cases r with
    | cons h1 h2 =>
      cases h2
      cases h1 with
      | tux hc hd hr ht =>
        obtain ⟨ps, rfl, hps⟩ := paired_of (K := X.K) (kv := fun x : Int × Int => (Sum.inl x.1, V.int x.2)) (fun x v r => rp_pair r) ht
        refine ⟨_, _, ps, _, rfl, hr.frz, hd, hps, fun p hp => ?_⟩
        have e : mergeK [] (s.map fun x => ((Sum.inl x.1 : Key), V.int x.2)) = kz (zmerge [] s) := kz_merge s []
        rw [e]
        exact q _ _ (Ex.new hp) (rp_newD al hp)) hg (by decide) (by decide) he hpl
theorem dget_of {C : Addr → Prop} {H : Hp} {v : V} {l : List (Int × Int)} {n : Int} (h : Rp C H v (dZ l)) : ∃ a, v = .ref a ∧ Rd H a (.dK (kz l)) ∧ DGet H a (.int n) ((zget l n).map V.int) := by
  cases h with
  | dct hc hr => exact ⟨_, rfl, hr.rd, .inl ⟨_, Sum.inl n, hr.rd, rfl, (kz_get l n).symm⟩⟩
theorem je_dget {l : List (Int × Int)} {n v : Int} (hu : X.A.units + 1 < cLine) (ha : JE X a G (dZ l)) (hb : JE X b G (.int n)) (h : zget l n = some v) (hs : NoSl b := by exact fun _ _ => rfl) : JE X (.Subscript a b pos) G (.int v) :=
  (pe_dget hu ha hb hs).wk fun σ H Q ⟨C, al, s, q⟩ => two al s fun x y H' e r1 r2 => by
    obtain ⟨a, rfl, _, g⟩ := dget_of (n := n) r1
    rw [h] at g
    cases r2
    exact ⟨a, _, rfl, g, q _ H' e (.int _)⟩
theorem je_dget2 {apos : Pos} {l : List (Int × Int)} {n m : Int} (hu : X.A.units + 1 < cLine) (ha : JE X a G (dZ l)) (hb : JE X b G (.int n)) (hc : JE X c G (.int m)) (hm : M2 X a "get" apos b c pos := by exact ⟨rfl, rfl, rfl, rfl⟩) : JE X (.Call (.Attribute a "get" apos) [b, c] [] pos) G (.int ((zget l n).getD m)) :=
  (pe_dget2 hu ha hb hc hm).wk fun σ H Q ⟨C, al, s, q⟩ => ⟨C, al, s, fun x H1 e1 r1 => by
    obtain ⟨a, ex, hd, g⟩ := dget_of (n := n) r1
    refine ⟨a, ex, .inl ⟨_, hd⟩, C, e1.al al, s.ex e1, fun y H2 e2 r2 => ⟨C, (e1.trans e2).al al, s.ex (e1.trans e2), fun z H3 e3 r3 => ?_⟩⟩
    have r4 := Rp.mv ((e2.trans e3).mv C) _ _ r1
    obtain ⟨a', ex', _, g'⟩ := dget_of (n := n) r4
    rw [ex] at ex'
    cases ex'
    cases r2
    cases r3
    refine ⟨_, g', q _ H3 (e1.trans (e2.trans e3)) ?_⟩
    cases zget l n <;> exact .int _⟩
theorem je_din {kvs : List (Key × V)} {n : Int} (hu : X.A.units + 1 < cLine) (ha : JE X a G (.int n)) (hb : JE X b G (.dct kvs)) (h1 : behindInMarks .In b = false := by rfl) : JE X (.Compare a [.In] [b] pos) G (.bl (valV kvs (Sum.inl n)).isSome) :=
  (pe_cmp (pc_din hu ha hb) h1).wk fun σ H Q ⟨C, al, s, q⟩ => two al s fun x y H' e r1 r2 => by
    cases r1
    cases r2 with
    | dct hc hr => exact ⟨_, _, rfl, .inl ⟨_, Sum.inl n, hr.rd, rfl, rfl⟩, q _ H' e (.bl _)⟩
/-- {**x, **y} -/
theorem je_star2 {l m : List (Int × Int)} (hl : l.length + m.length ≤ 100000) (ha : JE X a G (dZ l)) (hb : JE X b G (dZ m)) : JE X (.Dict [none, none] [a, b] pos) G (dZ (zmerge (zmerge [] l) m)) :=
  (pe_star2 ha hb).wk fun σ H Q ⟨C, al, s, q⟩ => fun p hp => by
    let C' : Addr → Prop := fun a => C a ∨ a = p
    have s1 : Sat C' (upd H p (.dK [])) σ G := (s.mv (Mv.newC hp)).mv (Mv.upd (.inr rfl))
    have al1 : Al C' (upd H p (.dK [])) := fun a z => by
      by_cases e : a = p
      · rw [e, upd_same]; intro z; cases z
      · rw [upd_ne e]; exact al a (z.resolve_right e)
    refine ⟨C', al1, s1, fun x H1 e1 r1 => ?_⟩
    cases r1 with
    | dct hc hr =>
      have h1 : H1 p = some (.dK []) := e1 _ _ upd_same
      refine ⟨_, _, rfl, h1, hr.rd, fun e => hc (.inr e), ?_⟩
      refine ⟨C', fun a z => ?_, (s1.ex e1).mv (Mv.upd (.inr rfl)), fun y H2 e2 r2 => ?_⟩
      · by_cases e : a = p
        · rw [e, upd_same]; intro z; cases z
        · rw [upd_ne e]; exact e1.al al1 a z
      · cases r2 with
        | dct hc' hr' =>
          refine ⟨_, _, rfl, e2 _ _ upd_same, hr'.rd, fun e => hc' (.inr e), by unfold kz; rw [List.length_map, List.length_map]; exact sz hl, ?_⟩
          have e : mergeK (mergeK [] (kz l)) (kz m) = kz (zmerge (zmerge [] l) m) := by
            rw [show mergeK [] (kz l) = kz (zmerge [] l) from kz_merge l [], kz_merge]
          rw [e]
          refine q _ _ (Ex.mut (fun a u ha => ?_) hp) (.dct (fun c => al p c hp) (.inl upd_same))
          have ne : a ≠ p := ne_of_none ha hp
          have k1 := e1 a u (by rw [upd_ne ne]; exact ha)
          exact e2 a u (by rw [upd_ne ne]; exact k1)
/-- {k: v} -/
theorem je_disp1 {k v : Int} (ha : JE X a G (.int k)) (hb : JE X b G (.int v)) : JE X (.Dict [some a] [b] pos) G (dZ [(k, v)]) :=
  (pe_disp (pps_cons ha hb pps_nil) (by rfl) (by rfl) (fun z => by cases z) (by simp)).wk fun σ H Q ⟨C, al, s, q⟩ => fun p hp => by
    let C' : Addr → Prop := fun a => C a ∨ a = p
    have s1 : Sat C' (upd H p (.dK [])) σ G := (s.mv (Mv.newC hp)).mv (Mv.upd (.inr rfl))
    have al1 : Al C' (upd H p (.dK [])) := fun a z => by
      by_cases e : a = p
      · rw [e, upd_same]; intro z; cases z
      · rw [upd_ne e]; exact al a (z.resolve_right e)
    refine ⟨C', al1, s1, fun x H1 e1 r1 => ⟨C', e1.al al1, s1.ex e1, fun y H2 e2 r2 => ?_⟩⟩
    cases r1
    cases r2
    have h2 : H2 p = some (.dK []) := (e1.trans e2) _ _ upd_same
    refine ⟨h2, [(Sum.inl k, V.int v)], rfl, by simp, ?_⟩
    refine q _ _ (Ex.mut (fun a u ha => ?_) hp) (.dct (fun c => al p c hp) (.inl upd_same))
    have ne : a ≠ p := ne_of_none ha hp
    exact e2 a u (e1 a u (by rw [upd_ne ne]; exact ha))
end
end L2.K79

set_option Elab.async false
set_option linter.all false
set_option maxRecDepth 100000
set_option maxHeartbeats 4000000
namespace L2.K79
open PySem PySem.Spec PyProof.Rows L2

/-! ### == of data -/
mutual
def D.py : D → PyData
  | .int i => .int i
  | .bl b => .bool b
  | .non => .none
  | .lst ds => .list (pys ds)
  | .tup ds => .tuple (pys ds)
  | .tux ds => .tuple (pys ds)
  | .dct _ => .none
  | .ty _ => .none
def pys : List D → List PyData
  | [] => []
  | d :: ds => D.py d :: pys ds
end
theorem pys_map : ∀ ds : List D, pys ds = ds.map D.py
  | [] => by simp only [pys, List.map_nil]
  | d :: ds => by simp only [pys, List.map_cons, pys_map ds]
theorem py_int (i : Int) : (D.int i).py = .int i := by simp only [D.py]
theorem py_lst (ds : List D) : (D.lst ds).py = .list (ds.map D.py) := by simp only [D.py, pys_map]
theorem py_tup (ds : List D) : (D.tup ds).py = .tuple (ds.map D.py) := by simp only [D.py, pys_map]
theorem py_tux (ds : List D) : (D.tux ds).py = .tuple (ds.map D.py) := by simp only [D.py, pys_map]
def okD : Nat → D → Bool
  | _, .int _ => true
  | n + 1, .lst ds => ds.all (okD n)
  | n + 1, .tup ds => ds.all (okD n)
  | n + 1, .tux ds => ds.all (okD n)
  | _, _ => false
theorem lay_all {xs : List PyData} (h : ∀ x ∈ xs, x.canLay0 = true) : PyData.canLayAll0 xs = true := by
  induction xs with
  | nil => simp [PyData.canLayAll0]
  | cons x xs ih => simp [PyData.canLayAll0, h x List.mem_cons_self, ih fun y hy => h y (List.mem_cons_of_mem _ hy)]
theorem depth_all {n : Nat} {xs : List PyData} (h : ∀ x ∈ xs, x.depth ≤ n) : PyData.depthAll xs ≤ n := by
  induction xs with
  | nil => simp [PyData.depthAll]
  | cons x xs ih =>
    have h1 := h x List.mem_cons_self
    have h2 := ih fun y hy => h y (List.mem_cons_of_mem _ hy)
    simp only [PyData.depthAll]
    omega
theorem ok_lay : ∀ (n : Nat) (d : D), okD n d = true → d.py.canLay0 = true ∧ d.py.depth ≤ n
  | 0, .int i, _ => by rw [py_int]; simp [PyData.canLay0, PyData.depth]
  | n + 1, .int i, _ => by rw [py_int]; simp [PyData.canLay0, PyData.depth]
  | n + 1, .lst ds, h => by
    have h' : ∀ x ∈ ds, okD n x = true := by simpa [okD] using h
    rw [py_lst]
    refine ⟨?_, ?_⟩
    · simp only [PyData.canLay0]
      refine lay_all fun y hy => ?_
      obtain ⟨x, hx, rfl⟩ := List.mem_map.mp hy
      exact (ok_lay n x (h' x hx)).1
    · simp only [PyData.depth]
      refine Nat.succ_le_succ (depth_all fun y hy => ?_)
      obtain ⟨x, hx, rfl⟩ := List.mem_map.mp hy
      exact (ok_lay n x (h' x hx)).2
  | n + 1, .tup ds, h => by
    have h' : ∀ x ∈ ds, okD n x = true := by simpa [okD] using h
    rw [py_tup]
    refine ⟨?_, ?_⟩
    · simp only [PyData.canLay0]
      refine lay_all fun y hy => ?_
      obtain ⟨x, hx, rfl⟩ := List.mem_map.mp hy
      exact (ok_lay n x (h' x hx)).1
    · simp only [PyData.depth]
      refine Nat.succ_le_succ (depth_all fun y hy => ?_)
      obtain ⟨x, hx, rfl⟩ := List.mem_map.mp hy
      exact (ok_lay n x (h' x hx)).2
  | n + 1, .tux ds, h => by
    have h' : ∀ x ∈ ds, okD n x = true := by simpa [okD] using h
    rw [py_tux]
    refine ⟨?_, ?_⟩
    · simp only [PyData.canLay0]
      refine lay_all fun y hy => ?_
      obtain ⟨x, hx, rfl⟩ := List.mem_map.mp hy
      exact (ok_lay n x (h' x hx)).1
    · simp only [PyData.depth]
      refine Nat.succ_le_succ (depth_all fun y hy => ?_)
      obtain ⟨x, hx, rfl⟩ := List.mem_map.mp hy
      exact (ok_lay n x (h' x hx)).2
/-- data of ints alone -/
inductive IP : PyData → Prop
  | int (i : Int) : IP (.int i)
  | list {xs : List PyData} : (∀ x, x ∈ xs → IP x) → IP (.list xs)
  | tuple {xs : List PyData} : (∀ x, x ∈ xs → IP x) → IP (.tuple xs)
theorem ip_of : ∀ (n : Nat) (d : D), okD n d = true → IP d.py
  | 0, .int i, _ => by rw [py_int]; exact .int i
  | n + 1, .int i, _ => by rw [py_int]; exact .int i
  | n + 1, .lst ds, h => by
    have h' : ∀ x ∈ ds, okD n x = true := by simpa [okD] using h
    rw [py_lst]
    exact .list fun y hy => by obtain ⟨x, hx, rfl⟩ := List.mem_map.mp hy; exact ip_of n x (h' x hx)
  | n + 1, .tup ds, h => by
    have h' : ∀ x ∈ ds, okD n x = true := by simpa [okD] using h
    rw [py_tup]
    exact .tuple fun y hy => by obtain ⟨x, hx, rfl⟩ := List.mem_map.mp hy; exact ip_of n x (h' x hx)
  | n + 1, .tux ds, h => by
    have h' : ∀ x ∈ ds, okD n x = true := by simpa [okD] using h
    rw [py_tux]
    exact .tuple fun y hy => by obtain ⟨x, hx, rfl⟩ := List.mem_map.mp hy; exact ip_of n x (h' x hx)
theorem eqv_all {xs : List PyData} (ih : ∀ x, x ∈ xs → ∀ y, IP y → (PyData.eqv x y = true ↔ x = y)) : ∀ ys : List PyData, (∀ y, y ∈ ys → IP y) → (PyData.eqvAll xs ys = true ↔ xs = ys) := by
  induction xs with
  | nil =>
    intro ys h
    cases ys with
    | nil => simp [PyData.eqvAll]
    | cons y ys => simp [PyData.eqvAll]
  | cons x xs ihx =>
    intro ys h
    cases ys with
    | nil => simp [PyData.eqvAll]
    | cons y ys =>
      have h1 := ih x List.mem_cons_self y (h y List.mem_cons_self)
      have h2 := ihx (fun z hz => ih z (List.mem_cons_of_mem _ hz)) ys fun z hz => h z (List.mem_cons_of_mem _ hz)
      simp only [PyData.eqvAll, Bool.and_eq_true, h1, h2, List.cons.injEq]
theorem eqv_iff' {x : PyData} (hx : IP x) : ∀ y, IP y → (PyData.eqv x y = true ↔ x = y) := by
  induction hx with
  | int i =>
    intro y hy
    cases hy with
    | int j => simp [PyData.eqv]
    | list h => simp [PyData.eqv]
    | tuple h => simp [PyData.eqv]
  | list h ih =>
    intro y hy
    cases hy with
    | int j => simp [PyData.eqv]
    | list h' => simp only [PyData.eqv, PyData.list.injEq]; exact eqv_all ih _ h'
    | tuple h' => simp [PyData.eqv]
  | tuple h ih =>
    intro y hy
    cases hy with
    | int j => simp [PyData.eqv]
    | list h' => simp [PyData.eqv]
    | tuple h' => simp only [PyData.eqv, PyData.tuple.injEq]; exact eqv_all ih _ h'
mutual
theorem dp_of {K : PySem.W.Frag} {C : Addr → Prop} {H : Hp} : ∀ (n : Nat) (d : D) (v : V), okD n d = true → Rp C H v d → Dp K H v d.py
  | 0, .int i, v, _, r => by cases r; rw [py_int]; exact .int i
  | n + 1, .int i, v, _, r => by cases r; rw [py_int]; exact .int i
  | n + 1, .lst ds, v, h, r => by
    have h' : ∀ x ∈ ds, okD n x = true := by simpa [okD] using h
    rw [py_lst]
    cases r with
    | lst hc hr ha => exact .lst (.inl hr.rd) (dpa_of n ds _ h' ha)
  | n + 1, .tup ds, v, h, r => by
    have h' : ∀ x ∈ ds, okD n x = true := by simpa [okD] using h
    rw [py_tup]
    cases r with
    | tup hc hr ha => exact .tup (.inl hr.rd) (dpa_of n ds _ h' ha)
  | n + 1, .tux ds, v, h, r => by
    have h' : ∀ x ∈ ds, okD n x = true := by simpa [okD] using h
    rw [py_tux]
    cases r with
    | tux hc hd hr ha => exact .tup (.inl (.inr ⟨_, hr.frz⟩)) (dpa_of n ds _ h' ha)
theorem dpa_of {K : PySem.W.Frag} {C : Addr → Prop} {H : Hp} : ∀ (n : Nat) (ds : List D) (vs : List V), (∀ x ∈ ds, okD n x = true) → RpA C H vs ds → DpAll K H vs (ds.map D.py)
  | n, [], _, _, r => by cases r; exact .nil
  | n, d :: ds, _, h, r => by
    cases r with
    | cons h1 h2 => exact .cons (dp_of n d _ (h d List.mem_cons_self) h1) (dpa_of n ds _ (fun x hx => h x (List.mem_cons_of_mem _ hx)) h2)
end
section
variable {X : Cx} {G : Gm} {pos : Pos} {a b c e : Expr} {es : List Expr} {α : Type}
theorem eq_bool {p : Bool} {q : Bool} {P : Prop} (h1 : p = true ↔ P) (h2 : q = true ↔ P) : p = q := by
  cases p <;> cases q <;> simp_all
theorem je_eq {d e : D} {k : Bool} {m : Nat} (hr : Room m X.A) (ho : okD 60 d = true) (ho' : okD 60 e = true) (hk : k = true ↔ d.py = e.py) (ha : JE X a G d) (hb : JE X b G e) : JE X (.Compare a [.Eq] [b] pos) G (.bl k) :=
  je_cmp (op_eqD hr.units) (nomark _) ha hb fun C x y H al r1 r2 Q q => by
    refine ⟨d.py, e.py, dp_of 60 d x ho r1, dp_of 60 e y ho' r2, ?_, ?_, q _ H (Same.refl H) ?_⟩
    · have h := ok_lay 60 d ho
      unfold SeqAt.shaped
      rw [h.1, decide_eq_true (by omega)]
      rfl
    · have h := ok_lay 60 e ho'
      unfold SeqAt.shaped
      rw [h.1, decide_eq_true (by omega)]
      rfl
    · rw [eq_bool (eqv_iff' (ip_of 60 d ho) _ (ip_of 60 e ho')) hk]
      exact .bl _
theorem je_ne {d e : D} {k : Bool} {m : Nat} (hr : Room m X.A) (ho : okD 60 d = true) (ho' : okD 60 e = true) (hk : k = true ↔ d.py = e.py) (ha : JE X a G d) (hb : JE X b G e) : JE X (.Compare a [.NotEq] [b] pos) G (.bl (!k)) :=
  je_cmp (op_neD hr.units) (nomark _) ha hb fun C x y H al r1 r2 Q q => by
    refine ⟨d.py, e.py, dp_of 60 d x ho r1, dp_of 60 e y ho' r2, ?_, ?_, q _ H (Same.refl H) ?_⟩
    · have h := ok_lay 60 d ho
      unfold SeqAt.shaped
      rw [h.1, decide_eq_true (by omega)]
      rfl
    · have h := ok_lay 60 e ho'
      unfold SeqAt.shaped
      rw [h.1, decide_eq_true (by omega)]
      rfl
    · rw [eq_bool (eqv_iff' (ip_of 60 d ho) _ (ip_of 60 e ho')) hk]
      exact .bl _
theorem ok_ints (n : Nat) (ns : List Int) : ((ns.map D.int).all (okD n)) = true := by
  rw [List.all_map, List.all_eq_true]
  intro x _
  cases n <;> rfl
theorem ok_tI (n : Nat) (ns : List Int) : okD (n + 1) (tI ns) = true := ok_ints n ns
theorem ok_lI (n : Nat) (ns : List Int) : okD (n + 1) (lI ns) = true := ok_ints n ns
theorem pys_inj {ns ms : List Int} (h : ((ns.map D.int).map D.py) = ((ms.map D.int).map D.py)) : ns = ms := by
  rw [List.map_map, List.map_map] at h
  refine List.map_inj_right (f := D.py ∘ D.int) (fun x y e => ?_) |>.mp h
  have e2 : D.py (.int x) = D.py (.int y) := e
  rw [py_int, py_int] at e2
  exact PyData.int.inj e2
theorem py_tI {ns ms : List Int} : (tI ns).py = (tI ms).py ↔ ns = ms := by
  constructor
  · intro h
    unfold tI at h
    rw [py_tup, py_tup] at h
    exact pys_inj (PyData.tuple.inj h)
  · intro h; rw [h]
theorem py_lI {ns ms : List Int} : (lI ns).py = (lI ms).py ↔ ns = ms := by
  constructor
  · intro h
    unfold lI at h
    rw [py_lst, py_lst] at h
    exact pys_inj (PyData.list.inj h)
  · intro h; rw [h]
theorem je_eqT {ns ms : List Int} {m : Nat} (hr : Room m X.A) (ha : JE X a G (tI ns)) (hb : JE X b G (tI ms)) : JE X (.Compare a [.Eq] [b] pos) G (.bl (decide (ns = ms))) :=
  je_eq hr (ok_tI 59 _) (ok_tI 59 _) (by rw [decide_eq_true_iff, py_tI]) ha hb
theorem je_eqL {ns ms : List Int} {m : Nat} (hr : Room m X.A) (ha : JE X a G (lI ns)) (hb : JE X b G (lI ms)) : JE X (.Compare a [.Eq] [b] pos) G (.bl (decide (ns = ms))) :=
  je_eq hr (ok_lI 59 _) (ok_lI 59 _) (by rw [decide_eq_true_iff, py_lI]) ha hb
theorem je_neT {ns ms : List Int} {m : Nat} (hr : Room m X.A) (ha : JE X a G (tI ns)) (hb : JE X b G (tI ms)) : JE X (.Compare a [.NotEq] [b] pos) G (.bl (!decide (ns = ms))) :=
  je_ne hr (ok_tI 59 _) (ok_tI 59 _) (by rw [decide_eq_true_iff, py_tI]) ha hb
theorem je_neL {ns ms : List Int} {m : Nat} (hr : Room m X.A) (ha : JE X a G (lI ns)) (hb : JE X b G (lI ms)) : JE X (.Compare a [.NotEq] [b] pos) G (.bl (!decide (ns = ms))) :=
  je_ne hr (ok_lI 59 _) (ok_lI 59 _) (by rw [decide_eq_true_iff, py_lI]) ha hb

/-! ### a comprehension over a dict that a name holds -/
theorem mv_lock {C : Addr → Prop} {H : Hp} {a : Addr} {od : Obj} {kvs : List (Key × V)} (h : H a = some (.dK kvs)) : Mv C H C (upd H a (.frz od (.dK kvs))) := fun b u p c r => by
  refine ⟨c, ?_⟩
  by_cases e : b = a
  · subst e
    rcases r with r | ⟨_, o, r⟩
    · rw [h] at r
      cases r
      exact .inr ⟨trivial, od, upd_same⟩
    · rw [h] at r; cases r
  · rcases r with r | ⟨n, o, r⟩
    · exact .inl (by rw [upd_ne e]; exact r)
    · exact .inr ⟨n, o, by rw [upd_ne e]; exact r⟩
theorem mv_unlock {C : Addr → Prop} {H : Hp} {a : Addr} {od : Obj} {kvs : List (Key × V)} (h : H a = some (.frz od (.dK kvs))) : Mv C H C (upd H a (.dK kvs)) := fun b u p c r => by
  refine ⟨c, ?_⟩
  by_cases e : b = a
  · subst e
    rcases r with r | ⟨_, o, r⟩
    · rw [h] at r
      cases r
      exact p.elim
    · rw [h] at r
      cases r
      exact .inl upd_same
  · rcases r with r | ⟨n, o, r⟩
    · exact .inl (by rw [upd_ne e]; exact r)
    · exact .inr ⟨n, o, by rw [upd_ne e]; exact r⟩
theorem itok_keys {C : Addr → Prop} {H1 : Hp} {a : Addr} {od : Obj} {l : List (Int × Int)} (hc : ¬ C a) (h : H1 a = some (.frz od (.dK (kz l)))) : ItOk C (Itk a od (kz l)) (l.map fun p => D.int p.1) H1 := fun C' H' hC al e => by
  have hc' : ¬ C' a := fun z => (hC a z).elim hc fun n => by rw [h] at n; cases n
  have h' := e a _ hc' h
  have len : (kz l).length = l.length := by unfold kz; rw [List.length_map]
  refine ⟨fun i hi => ⟨h', by rw [len]; simpa using hi⟩, fun i d hd => ?_⟩
  rw [List.getElem?_map] at hd
  cases hl : l[i]? with
  | none => rw [hl] at hd; cases hd
  | some p =>
    rw [hl] at hd
    cases hd
    have hi := (List.getElem?_eq_some_iff.mp hl).1
    refine ⟨⟨h', by rw [len]; exact hi⟩, fun x H'' y => ?_⟩
    obtain ⟨rfl, k, v, g1, rfl⟩ := y
    have g2 : (kz l)[i]? = some (Sum.inl p.1, V.int p.2) := by unfold kz; rw [List.getElem?_map, hl]; rfl
    rw [g1] at g2
    cases g2
    exact ⟨Same.refl _, .int _⟩
theorem je_lcD {l : List (Int × Int)} {f : Int × Int → D} {j : Nat} {elt tg : Expr} {scope : Scope} {x : Str} {ppos : Pos} (i : Nat) (own : List (Str × Nat)) (hj : own.map (·.2) = [j]) (hc : X.calm = true) (hN : X.N.Nodup) (ok : BlkOk X.N X.env.scope scope own) (hl : l.length ≤ 100000)
    (hg : ∀ (s : Shared) (H : Hp) (C : Addr) (cl : List (Str × Addr)) (fp : List Addr), PG (X.blk s H scope (compEnvC scope cl C X.env) fp) tg (gName j))
    (he : ∀ p, p ∈ l → ∀ (s : Shared) (H : Hp) (C : Addr) (cl : List (Str × Addr)) (fp : List Addr), JE (X.blk s H scope (compEnvC scope cl C X.env) fp) elt ((wipeG G [j]).set j (some (.int p.1))) (f p))
    (hG : G[i]? = some (some (dZ l)) := by rfl) (hx : X.N[i]? = some x := by rfl) (hv : Vis X.env.scope x := by first | exact Or.inl rfl | exact Or.inr (Or.inl rfl) | exact Or.inr (Or.inr rfl)) (hd : (x == ("__debug__" : Str)) = false := by decide)
    (hcd : (x == ("__classdict__" : Str)) = false := by decide) (hs : ∀ y, foldedSetIterable (.Name x ppos) X.env y = pure y := by intro _; rfl) : JE X (.ListComp elt [⟨tg, .Name x ppos, [], 0⟩] scope pos) G (.lst (l.map f)) := by
  have P0 : PE X (.ListComp elt [⟨tg, .Name x ppos, [], 0⟩] scope pos) (tLc (iKeys (tVar i)) (gName j) (tTx l (fun p => (wipeG G [j]).set j (some (.int p.1))) fun _ => true) (tEx l (fun p => (wipeG G [j]).set j (some (.int p.1))) (fun _ => true) f) (own.map (·.2))) :=
    pe_lc (own := own) hc hN (pi_keys (pe_var hx hv hd hcd)) ok hg (fun s H C cl fp => PTs.all fun x hx => jts_nil) (fun s H C cl fp => PE.all fun x hx => he x hx.1 s H C cl fp) hs
  rw [hj] at P0
  have hgo : ∀ p, p ∈ l → GOk (gName j) [j] (wipeG G [j]) (D.int p.1) ((wipeG G [j]).set j (some (.int p.1))) := fun p _ => gok_name (by simp)
  have fe : (l.filter fun _ => true).map f = l.map f := by rw [List.filter_eq_self.mpr (fun _ _ => rfl)]
  refine ((pe_lock P0).or P0).wk fun σ H Q ⟨C, al, s, q⟩ => ?_
  obtain ⟨v, h1, h2⟩ := s.at_ i _ hG
  cases h2 with
  | @dct a _ hca hr =>
    rcases hr with hr | ⟨_, o, hr⟩
    · refine .inl ⟨a, .dK (kz l), hr, trivial, fun od => ?_⟩
      have sL : Sat C (upd H a (.frz od (.dK (kz l)))) σ G := s.mv (mv_lock hr)
      have alL : Al C (upd H a (.frz od (.dK (kz l)))) := fun b c => by
        rw [upd_ne (b := b) (fun e : b = a => hca (e ▸ c))]
        exact al b c
      refine ⟨.ref a, h1, a, od, rfl, .inl ⟨kz l, upd_same, fun Dl hD => turns_lc (emb := fun p => D.int p.1) hl hgo alL sL (Same.refl _) (itok_keys hca upd_same) hD fun acc H' hacc e' ra => ?_⟩⟩
      have ha : H' a = some (.frz od (.dK (kz l))) := e' _ _ upd_same
      refine ⟨ha, ?_⟩
      rw [fe] at ra
      have ne : Dl ≠ a := fun e => by rw [e, ha] at hacc; cases hacc
      refine q _ _ (fun b u hb => ?_) (.lst (fun c => alL Dl c hD) (.inl (by rw [upd_ne ne]; exact hacc)) (RpA.mv ((Mv.less fun a c => .inl c).trans (mv_unlock ha)) _ _ ra))
      by_cases e : b = a
      · subst e
        rw [hr] at hb
        cases hb
        exact upd_same
      · rw [upd_ne e]
        exact e' b u (by rw [upd_ne e]; exact hb)
    · refine .inr ⟨.ref a, h1, a, o, rfl, .inl ⟨kz l, hr, fun Dl hD => turns_lc (emb := fun p => D.int p.1) hl hgo al s (Same.refl _) (itok_keys hca hr) hD fun acc H' hacc e' ra => ?_⟩⟩
      rw [fe] at ra
      exact q _ H' e' (.lst (fun c => al Dl c hD) (.inl hacc) (RpA.mv (Mv.less fun a c => .inl c) _ _ ra))

/-! ### more statements -/
variable {N : Gm → Prop} {R : D → Prop}
theorem js_asg {tg : Expr} {g : TG} {G' : Gm} {d : D} (he : JE X e G d) (hg : PG X tg g) (hgo : GF g G d G') (q : N G') (hs : swapsWithSole [tg] e pos.line X.env = pure false := by rfl) (hw : swappedStores [tg] e X.env = pure none := by rfl)
    (h1 : (assignEach [tg] X.env).map (·.2) = [assign tg X.env] := by rfl) : JS X (.Assign [tg] e pos) G N R :=
  (ps_asg he hg hs hw h1).wk fun D σ H ⟨C, al, s, n, r⟩ => ⟨C, al, s, fun v H' e rp => hgo C v σ H' _ (s.ex e) rp fun σ' s' => n σ' H' G' e s' q⟩
theorem js_par (i j : Nat) {x y : Str} {d1 d2 : D} {px py pt : Pos} {kt k2 pt2} (hc : X.calm = true) (hN : X.N.Nodup) (ha : JE X a G d1) (hb : JE X b G d2) (q : N ((G.set i (some d1)).set j (some d2))) (hi : X.N[i]? = some x := by rfl) (hj : X.N[j]? = some y := by rfl) (hij : i ≠ j := by decide)
    (hx : X.env.scope.names.lookup x = some .local := by rfl) (hy : X.env.scope.names.lookup y = some .local := by rfl) (ha1 : starEach [a, b] X.env = (false, eval a X.env) :: starEach [b] X.env := by rfl) (ha2 : starEach [b] X.env = (false, eval b X.env) :: starEach [] X.env := by rfl)
    (hw : swappedStores [.Tuple [.Name x px, .Name y py] kt pt] (.Tuple [a, b] k2 pt2) X.env = pure (some [x, y]) := by rfl)
    (hs : swapsWithSole [.Tuple [.Name x px, .Name y py] kt pt] (.Tuple [a, b] k2 pt2) pos.line X.env = pure false := by rfl) :
    JS X (.Assign [.Tuple [.Name x px, .Name y py] kt pt] (.Tuple [a, b] k2 pt2) pos) G N R :=
  (ps_par hc hN hi hj hij hx hy (ja_cons ha (ja_cons hb ja_nil ha2) ha1) hw hs).wk fun D σ H ⟨C, al, s, n, r⟩ => ⟨C, al, s, fun vs H' e rp => by
    cases rp with
    | cons h1 h2 =>
      cases h2 with
      | cons h3 h4 =>
        cases h4
        exact ⟨_, _, rfl, n _ H' _ e (((s.ex e).set i h1).set j h3) q⟩⟩
theorem js_par3 (i j l : Nat) {x y z : Str} {d1 d2 d3 : D} {px py pz pt : Pos} {kt k2 pt2} (hc : X.calm = true) (hN : X.N.Nodup) (ha : JE X a G d1) (hb : JE X b G d2) (hcc : JE X c G d3) (q : N (((G.set i (some d1)).set j (some d2)).set l (some d3))) (hi : X.N[i]? = some x := by rfl) (hj : X.N[j]? = some y := by rfl) (hl : X.N[l]? = some z := by rfl) (hij : i ≠ j := by decide) (hil : i ≠ l := by decide) (hjl : j ≠ l := by decide)
    (hx : X.env.scope.names.lookup x = some .local := by rfl) (hy : X.env.scope.names.lookup y = some .local := by rfl) (hz : X.env.scope.names.lookup z = some .local := by rfl) (ha1 : starEach [a, b, c] X.env = (false, eval a X.env) :: starEach [b, c] X.env := by rfl) (ha2 : starEach [b, c] X.env = (false, eval b X.env) :: starEach [c] X.env := by rfl) (ha3 : starEach [c] X.env = (false, eval c X.env) :: starEach [] X.env := by rfl)
    (hw : swappedStores [.Tuple [.Name x px, .Name y py, .Name z pz] kt pt] (.Tuple [a, b, c] k2 pt2) X.env = pure (some [x, y, z]) := by rfl)
    (hs : swapsWithSole [.Tuple [.Name x px, .Name y py, .Name z pz] kt pt] (.Tuple [a, b, c] k2 pt2) pos.line X.env = pure false := by rfl) :
    JS X (.Assign [.Tuple [.Name x px, .Name y py, .Name z pz] kt pt] (.Tuple [a, b, c] k2 pt2) pos) G N R :=
  (ps_par3 hc hN hi hj hl hij hil hjl hx hy hz (ja_cons ha (ja_cons hb (ja_cons hcc ja_nil ha3) ha2) ha1) hw hs).wk fun D σ H ⟨C, al, s, n, r⟩ => ⟨C, al, s, fun vs H' e rp => by
    cases rp with
    | cons h1 h2 =>
      cases h2 with
      | cons h3 h4 =>
        cases h4 with
        | cons h5 h6 =>
          cases h6
          exact ⟨_, _, _, rfl, n _ H' _ e ((((s.ex e).set i h1).set j h3).set l h5) q⟩⟩
end

/-! ### a def -/
def startG (N : List Str) (ds : List D) : Gm := ds.map some ++ List.replicate (N.length - ds.length) none
theorem start_get : ∀ {C : Addr → Prop} {H : Hp} {vs : List V} {ds : List D} (k : Nat) (i : Nat) (d : D), RpA C H vs ds → (ds.map some ++ List.replicate k none)[i]? = some (some d) → ∃ v, (vs.map some ++ List.replicate k none)[i]? = some (some v) ∧ Rp C H v d
  | _, _, _, [], k, i, d, r, e => by
    cases r
    simp only [List.map_nil, List.nil_append] at e
    rw [List.getElem?_replicate] at e
    split at e <;> cases e
  | _, _, _, x :: ds, k, 0, d, r, e => by
    cases r with
    | cons h1 h2 =>
      simp at e; subst e
      exact ⟨_, rfl, h1⟩
  | _, _, _, x :: ds, k, i + 1, d, r, e => by
    cases r with
    | cons h1 h2 => exact start_get k i d h2 (by simpa using e)
theorem sat_start {C : Addr → Prop} {H : Hp} {N : List Str} {vs : List V} {ds : List D} (r : RpA C H vs ds) : Sat C H (L2.start N vs) (startG N ds) := by
  unfold L2.start startG
  rw [r.length]
  exact ⟨by simp [r.length], fun i d e => start_get _ i d r e⟩
structure DefAt (K : PySem.W.Frag) (mg : Str → Option Value) (x : Str) (st : Stmt) : Prop where
  ex : ∃ f fd, FunD K x x (defArgs st) (defBody st) (defScope st) [] [] f fd ∧ mg x = some (.ref f)
section
variable {P : Program} {w : World} {K : PySem.W.Frag} {mg : Str → Option Value} {base : Heap}
theorem fn_cal {x : Str} {st : Stmt} {N ps : List Str} {k : Nat} {R : List D → D → Prop} (F : DefAt K mg x st) (S : FnScope N ps (defScope st)) (hl : ∀ ds r, R ds r → ds.length = ps.length)
    (hb : ∀ (kV doc pm : Value) (an : Option Addr) (cdv ct : Value) (us : List Value), us.length = ps.length → bindArgs (PySem.W.fnOf x x (defArgs st) (defBody st) (defScope st) .none kV doc pm an cdv ct) ⟨us, []⟩ = pure (ps.zip us))
    (body : ∀ (f : Addr) (cdv : Value) (A : Around) (outer : List Env) (s : Shared) (H : Hp) (E : XK) (ds : List D) (r : D), Room k (A.deeper (envOfC x (defScope st) s.heap.objs.size f cdv)) → R ds r →
      JB (cxOf CX0 P w K mg base N x (defScope st) f cdv A outer s H E).nox (defBody st) (startG N ds) (fun _ => r = .non) (fun d => d = r)) : Cal P w K mg base (k + 1) x ps (spJ R) := by
  obtain ⟨f, fd, F, hm⟩ := F.ex
  refine ⟨f, fd, F.ok S (fun vs H Q E h => ?_) (fun cdv A outer s H vs Q E hr h => ?_), hm, F.kp, F.bindsN hb⟩
  · obtain ⟨C, ds, r, _, ra, hR, _⟩ := h
    rw [ra.length]
    exact hl ds r hR
  · obtain ⟨C, ds, r, al, ra, hR, q⟩ := h
    refine ⟨_, PSs.nox (body f cdv A outer s H E ds r hr hR), C, al, sat_start ra, fun σ' H' G' e s' n => ?_, fun v H' d e rp ed => ?_⟩
    · subst n
      exact q _ H' e .non
    · subst ed
      exact q v H' e rp
end
end L2.K79

set_option Elab.async false
set_option linter.all false
set_option maxRecDepth 100000
set_option maxHeartbeats 4000000
namespace L2.K79
open PySem PySem.Spec PyProof.Rows L2
/-! ### the text: its defs by their places, their names by slot -/
def topS (i : Nat) : Stmt := PySem.Challenge.pw_wetfolds_k79_whole_inked_lots_beside_fol.main.body.getD i (.Pass ⟨0, 0, 0, 0⟩)
abbrev s_is_whole : Stmt := topS 13
abbrev n_is_whole : List Str := ["value", "low", "high"]
theorem c_is_whole : FnScope n_is_whole ["value", "low", "high"] (defScope s_is_whole) := ⟨rfl, rfl, rfl, by decide +kernel, rfl, by decide +kernel, by decide +kernel⟩
abbrev s_is_tuple_of : Stmt := topS 14
abbrev n_is_tuple_of : List Str := ["value", "low", "high"]
theorem c_is_tuple_of : FnScope n_is_tuple_of ["value", "low", "high"] (defScope s_is_tuple_of) := ⟨rfl, rfl, rfl, by decide +kernel, rfl, by decide +kernel, by decide +kernel⟩
abbrev s_fits_place : Stmt := topS 15
abbrev n_fits_place : List Str := ["value"]
theorem c_fits_place : FnScope n_fits_place ["value"] (defScope s_fits_place) := ⟨rfl, rfl, rfl, by decide +kernel, rfl, by decide +kernel, by decide +kernel⟩
abbrev s_fits_drops : Stmt := topS 16
abbrev n_fits_drops : List Str := ["value"]
theorem c_fits_drops : FnScope n_fits_drops ["value"] (defScope s_fits_drops) := ⟨rfl, rfl, rfl, by decide +kernel, rfl, by decide +kernel, by decide +kernel⟩
abbrev s_fits_strip : Stmt := topS 17
abbrev n_fits_strip : List Str := ["value", "pair", "place", "drops", "one", "other"]
theorem c_fits_strip : FnScope n_fits_strip ["value"] (defScope s_fits_strip) := ⟨rfl, rfl, rfl, by decide +kernel, rfl, by decide +kernel, by decide +kernel⟩
abbrev s_fits_crease : Stmt := topS 18
abbrev n_fits_crease : List Str := ["value"]
theorem c_fits_crease : FnScope n_fits_crease ["value"] (defScope s_fits_crease) := ⟨rfl, rfl, rfl, by decide +kernel, rfl, by decide +kernel, by decide +kernel⟩
abbrev s_fits_folds : Stmt := topS 19
abbrev n_fits_folds : List Str := ["value", "crease"]
theorem c_fits_folds : FnScope n_fits_folds ["value"] (defScope s_fits_folds) := ⟨rfl, rfl, rfl, by decide +kernel, rfl, by decide +kernel, by decide +kernel⟩
abbrev s_strip_of : Stmt := topS 20
abbrev n_strip_of : List Str := ["drops", "place"]
theorem c_strip_of : FnScope n_strip_of ["drops"] (defScope s_strip_of) := ⟨rfl, rfl, rfl, by decide +kernel, rfl, by decide +kernel, by decide +kernel⟩
abbrev s_added : Stmt := topS 21
abbrev n_added : List Str := ["strip", "other", "found", "fresh", "place", "drops"]
theorem c_added : FnScope n_added ["strip", "other"] (defScope s_added) := ⟨rfl, rfl, rfl, by decide +kernel, rfl, by decide +kernel, by decide +kernel⟩
abbrev s_mirrored : Stmt := topS 22
abbrev n_mirrored : List Str := ["strip", "crease", "place", "drops"]
theorem c_mirrored : FnScope n_mirrored ["strip", "crease"] (defScope s_mirrored) := ⟨rfl, rfl, rfl, by decide +kernel, rfl, by decide +kernel, by decide +kernel⟩
abbrev s_need_strip : Stmt := topS 23
abbrev n_need_strip : List Str := ["value"]
theorem c_need_strip : FnScope n_need_strip ["value"] (defScope s_need_strip) := ⟨rfl, rfl, rfl, by decide +kernel, rfl, by decide +kernel, by decide +kernel⟩
abbrev s_need_folds : Stmt := topS 24
abbrev n_need_folds : List Str := ["value"]
theorem c_need_folds : FnScope n_need_folds ["value"] (defScope s_need_folds) := ⟨rfl, rfl, rfl, by decide +kernel, rfl, by decide +kernel, by decide +kernel⟩
abbrev s_need_place : Stmt := topS 25
abbrev n_need_place : List Str := ["value"]
theorem c_need_place : FnScope n_need_place ["value"] (defScope s_need_place) := ⟨rfl, rfl, rfl, by decide +kernel, rfl, by decide +kernel, by decide +kernel⟩
abbrev s_folded_at : Stmt := topS 28
abbrev n_folded_at : List Str := ["strip", "crease"]
theorem c_folded_at : FnScope n_folded_at ["strip", "crease"] (defScope s_folded_at) := ⟨rfl, rfl, rfl, by decide +kernel, rfl, by decide +kernel, by decide +kernel⟩
abbrev s_strips_on : Stmt := topS 29
abbrev n_strips_on : List Str := ["strip", "folds", "found", "crease"]
theorem c_strips_on : FnScope n_strips_on ["strip", "folds"] (defScope s_strips_on) := ⟨rfl, rfl, rfl, by decide +kernel, rfl, by decide +kernel, by decide +kernel⟩
abbrev s_need_strips : Stmt := topS 30
abbrev n_need_strips : List Str := ["strip", "folds", "found"]
theorem c_need_strips : FnScope n_need_strips ["strip", "folds"] (defScope s_need_strips) := ⟨rfl, rfl, rfl, by decide +kernel, rfl, by decide +kernel, by decide +kernel⟩
abbrev s_folded_by : Stmt := topS 31
abbrev n_folded_by : List Str := ["strip", "folds"]
theorem c_folded_by : FnScope n_folded_by ["strip", "folds"] (defScope s_folded_by) := ⟨rfl, rfl, rfl, by decide +kernel, rfl, by decide +kernel, by decide +kernel⟩
abbrev s_steps_in : Stmt := topS 33
abbrev n_steps_in : List Str := ["folds", "one", "other"]
theorem c_steps_in : FnScope n_steps_in ["folds"] (defScope s_steps_in) := ⟨rfl, rfl, rfl, by decide +kernel, rfl, by decide +kernel, by decide +kernel⟩
abbrev s_sums_of : Stmt := topS 34
abbrev n_sums_of : List Str := ["steps", "found", "step", "less", "total", "more"]
theorem c_sums_of : FnScope n_sums_of ["steps"] (defScope s_sums_of) := ⟨rfl, rfl, rfl, by decide +kernel, rfl, by decide +kernel, by decide +kernel⟩
abbrev s_print_by : Stmt := topS 35
abbrev n_print_by : List Str := ["place", "folds", "sums", "total"]
theorem c_print_by : FnScope n_print_by ["place", "folds"] (defScope s_print_by) := ⟨rfl, rfl, rfl, by decide +kernel, rfl, by decide +kernel, by decide +kernel⟩
abbrev s_print_of : Stmt := topS 36
abbrev n_print_of : List Str := ["place", "folds"]
theorem c_print_of : FnScope n_print_of ["place", "folds"] (defScope s_print_of) := ⟨rfl, rfl, rfl, by decide +kernel, rfl, by decide +kernel, by decide +kernel⟩
abbrev s_fits_lot : Stmt := topS 42
abbrev n_fits_lot : List Str := ["value", "place", "one", "other"]
theorem c_fits_lot : FnScope n_fits_lot ["value"] (defScope s_fits_lot) := ⟨rfl, rfl, rfl, by decide +kernel, rfl, by decide +kernel, by decide +kernel⟩
abbrev s_inked : Stmt := topS 43
abbrev n_inked : List Str := ["lot", "folds", "places", "crease", "place"]
theorem c_inked : FnScope n_inked ["lot", "folds"] (defScope s_inked) := ⟨rfl, rfl, rfl, by decide +kernel, rfl, by decide +kernel, by decide +kernel⟩
abbrev s_all_sums : Stmt := topS 44
abbrev n_all_sums : List Str := ["steps", "found", "step", "total"]
theorem c_all_sums : FnScope n_all_sums ["steps"] (defScope s_all_sums) := ⟨rfl, rfl, rfl, by decide +kernel, rfl, by decide +kernel, by decide +kernel⟩
abbrev s_sums_in : Stmt := topS 45
abbrev n_sums_in : List Str := ["folds"]
theorem c_sums_in : FnScope n_sums_in ["folds"] (defScope s_sums_in) := ⟨rfl, rfl, rfl, by decide +kernel, rfl, by decide +kernel, by decide +kernel⟩
abbrev s_are_alike : Stmt := topS 46
abbrev n_are_alike : List Str := ["folds", "other_folds", "ends"]
theorem c_are_alike : FnScope n_are_alike ["folds", "other_folds"] (defScope s_are_alike) := ⟨rfl, rfl, rfl, by decide +kernel, rfl, by decide +kernel, by decide +kernel⟩
abbrev s_need_lot : Stmt := topS 47
abbrev n_need_lot : List Str := ["value"]
theorem c_need_lot : FnScope n_need_lot ["value"] (defScope s_need_lot) := ⟨rfl, rfl, rfl, by decide +kernel, rfl, by decide +kernel, by decide +kernel⟩
abbrev s_need_few_folds : Stmt := topS 48
abbrev n_need_few_folds : List Str := ["folds"]
theorem c_need_few_folds : FnScope n_need_few_folds ["folds"] (defScope s_need_few_folds) := ⟨rfl, rfl, rfl, by decide +kernel, rfl, by decide +kernel, by decide +kernel⟩
abbrev s_inked_by : Stmt := topS 49
abbrev n_inked_by : List Str := ["lot", "folds", "found"]
theorem c_inked_by : FnScope n_inked_by ["lot", "folds"] (defScope s_inked_by) := ⟨rfl, rfl, rfl, by decide +kernel, rfl, by decide +kernel, by decide +kernel⟩
abbrev s_sums_by : Stmt := topS 50
abbrev n_sums_by : List Str := ["folds"]
theorem c_sums_by : FnScope n_sums_by ["folds"] (defScope s_sums_by) := ⟨rfl, rfl, rfl, by decide +kernel, rfl, by decide +kernel, by decide +kernel⟩
abbrev s_alike_by_places : Stmt := topS 51
abbrev n_alike_by_places : List Str := ["folds", "other_folds"]
theorem c_alike_by_places : FnScope n_alike_by_places ["folds", "other_folds"] (defScope s_alike_by_places) := ⟨rfl, rfl, rfl, by decide +kernel, rfl, by decide +kernel, by decide +kernel⟩
abbrev s_form_in : Stmt := topS 53
abbrev n_form_in : List Str := ["folds"]
theorem c_form_in : FnScope n_form_in ["folds"] (defScope s_form_in) := ⟨rfl, rfl, rfl, by decide +kernel, rfl, by decide +kernel, by decide +kernel⟩
abbrev s_are_one : Stmt := topS 55
abbrev n_are_one : List Str := ["folds", "beside"]
theorem c_are_one : FnScope n_are_one ["folds", "beside"] (defScope s_are_one) := ⟨rfl, rfl, rfl, by decide +kernel, rfl, by decide +kernel, by decide +kernel⟩
abbrev s_rows_alike : Stmt := topS 56
abbrev n_rows_alike : List Str := ["folds", "beside"]
theorem c_rows_alike : FnScope n_rows_alike ["folds", "beside"] (defScope s_rows_alike) := ⟨rfl, rfl, rfl, by decide +kernel, rfl, by decide +kernel, by decide +kernel⟩
abbrev s_greatest_in : Stmt := topS 58
abbrev n_greatest_in : List Str := ["lot", "folds", "places", "place", "there"]
theorem c_greatest_in : FnScope n_greatest_in ["lot", "folds"] (defScope s_greatest_in) := ⟨rfl, rfl, rfl, by decide +kernel, rfl, by decide +kernel, by decide +kernel⟩
abbrev s_greatest_lot : Stmt := topS 59
abbrev n_greatest_lot : List Str := ["lot", "folds"]
theorem c_greatest_lot : FnScope n_greatest_lot ["lot", "folds"] (defScope s_greatest_lot) := ⟨rfl, rfl, rfl, by decide +kernel, rfl, by decide +kernel, by decide +kernel⟩
abbrev s_comes_of_some : Stmt := topS 60
abbrev n_comes_of_some : List Str := ["lot", "folds"]
theorem c_comes_of_some : FnScope n_comes_of_some ["lot", "folds"] (defScope s_comes_of_some) := ⟨rfl, rfl, rfl, by decide +kernel, rfl, by decide +kernel, by decide +kernel⟩
abbrev s_grown : Stmt := topS 63
abbrev n_grown : List Str := ["reached", "step", "one"]
theorem c_grown : FnScope n_grown ["reached", "step"] (defScope s_grown) := ⟨rfl, rfl, rfl, by decide +kernel, rfl, by decide +kernel, by decide +kernel⟩
abbrev s_can_reach : Stmt := topS 64
abbrev n_can_reach : List Str := ["goal", "reached", "many", "most", "turn"]
theorem c_can_reach : FnScope n_can_reach ["goal", "reached", "many"] (defScope s_can_reach) := ⟨rfl, rfl, rfl, by decide +kernel, rfl, by decide +kernel, by decide +kernel⟩
abbrev s_steps_behind : Stmt := topS 65
abbrev n_steps_behind : List Str := ["goal", "reached", "last", "many", "missing", "one", "rest", "places", "some", "step"]
theorem c_steps_behind : FnScope n_steps_behind ["goal", "reached", "last", "many"] (defScope s_steps_behind) := ⟨rfl, rfl, rfl, by decide +kernel, rfl, by decide +kernel, by decide +kernel⟩
abbrev s_longer_on : Stmt := topS 66
abbrev n_longer_on : List Str := ["goal", "steps", "reached", "many", "last", "step"]
theorem c_longer_on : FnScope n_longer_on ["goal", "steps", "reached", "many"] (defScope s_longer_on) := ⟨rfl, rfl, rfl, by decide +kernel, rfl, by decide +kernel, by decide +kernel⟩
abbrev s_tuples_of : Stmt := topS 67
abbrev n_tuples_of : List Str := ["goal", "many", "line", "turn", "later", "steps", "reached"]
theorem c_tuples_of : FnScope n_tuples_of ["goal", "many"] (defScope s_tuples_of) := ⟨rfl, rfl, rfl, by decide +kernel, rfl, by decide +kernel, by decide +kernel⟩
abbrev s_shortest_to : Stmt := topS 68
abbrev n_shortest_to : List Str := ["goal", "most", "many", "found"]
theorem c_shortest_to : FnScope n_shortest_to ["goal", "most"] (defScope s_shortest_to) := ⟨rfl, rfl, rfl, by decide +kernel, rfl, by decide +kernel, by decide +kernel⟩
abbrev s_goal_of : Stmt := topS 69
abbrev n_goal_of : List Str := ["folds", "sums", "total"]
theorem c_goal_of : FnScope n_goal_of ["folds"] (defScope s_goal_of) := ⟨rfl, rfl, rfl, by decide +kernel, rfl, by decide +kernel, by decide +kernel⟩
abbrev s_fewest_folds : Stmt := topS 70
abbrev n_fewest_folds : List Str := ["folds"]
theorem c_fewest_folds : FnScope n_fewest_folds ["folds"] (defScope s_fewest_folds) := ⟨rfl, rfl, rfl, by decide +kernel, rfl, by decide +kernel, by decide +kernel⟩
abbrev s_holes_in : Stmt := topS 72
abbrev n_holes_in : List Str := ["lot", "one", "other"]
theorem c_holes_in : FnScope n_holes_in ["lot"] (defScope s_holes_in) := ⟨rfl, rfl, rfl, by decide +kernel, rfl, by decide +kernel, by decide +kernel⟩
abbrev s_holes_of : Stmt := topS 73
abbrev n_holes_of : List Str := ["lot"]
theorem c_holes_of : FnScope n_holes_of ["lot"] (defScope s_holes_of) := ⟨rfl, rfl, rfl, by decide +kernel, rfl, by decide +kernel, by decide +kernel⟩
abbrev s_inks_whole : Stmt := topS 74
abbrev n_inks_whole : List Str := ["folds", "place"]
theorem c_inks_whole : FnScope n_inks_whole ["folds", "place"] (defScope s_inks_whole) := ⟨rfl, rfl, rfl, by decide +kernel, rfl, by decide +kernel, by decide +kernel⟩
abbrev s_need_some_folds : Stmt := topS 76
abbrev n_need_some_folds : List Str := ["folds"]
theorem c_need_some_folds : FnScope n_need_some_folds ["folds"] (defScope s_need_some_folds) := ⟨rfl, rfl, rfl, by decide +kernel, rfl, by decide +kernel, by decide +kernel⟩
abbrev s_odd_ways : Stmt := topS 77
abbrev n_odd_ways : List Str := ["folds", "sums", "one", "other"]
theorem c_odd_ways : FnScope n_odd_ways ["folds"] (defScope s_odd_ways) := ⟨rfl, rfl, rfl, by decide +kernel, rfl, by decide +kernel, by decide +kernel⟩
abbrev s_usual_count : Stmt := topS 78
abbrev n_usual_count : List Str := ["folds"]
theorem c_usual_count : FnScope n_usual_count ["folds"] (defScope s_usual_count) := ⟨rfl, rfl, rfl, by decide +kernel, rfl, by decide +kernel, by decide +kernel⟩
abbrev s_unusual_places : Stmt := topS 79
abbrev n_unusual_places : List Str := ["folds", "doubled", "way", "twice"]
theorem c_unusual_places : FnScope n_unusual_places ["folds"] (defScope s_unusual_places) := ⟨rfl, rfl, rfl, by decide +kernel, rfl, by decide +kernel, by decide +kernel⟩
abbrev s_law_cup : Stmt := topS 81
abbrev n_law_cup : List Str := ["_law_script", "_law_cell"]
theorem c_law_cup : FnScope n_law_cup ["_law_script"] (defScope s_law_cup) := ⟨rfl, rfl, rfl, by decide +kernel, rfl, by decide +kernel, by decide +kernel⟩
abbrev s_law_roll : Stmt := topS 82
abbrev n_law_roll : List Str := ["_law_cup_here", "_law_many", "_law_found", "_law_deep"]
theorem c_law_roll : FnScope n_law_roll ["_law_cup_here", "_law_many"] (defScope s_law_roll) := ⟨rfl, rfl, rfl, by decide +kernel, rfl, by decide +kernel, by decide +kernel⟩
abbrev s_law_some : Stmt := topS 83
abbrev n_law_some : List Str := ["_law_cup_here", "_law_things"]
theorem c_law_some : FnScope n_law_some ["_law_cup_here", "_law_things"] (defScope s_law_some) := ⟨rfl, rfl, rfl, by decide +kernel, rfl, by decide +kernel, by decide +kernel⟩
abbrev s_law_tidy : Stmt := topS 84
abbrev n_law_tidy : List Str := ["_law_drops", "_law_place_here"]
theorem c_law_tidy : FnScope n_law_tidy ["_law_drops"] (defScope s_law_tidy) := ⟨rfl, rfl, rfl, by decide +kernel, rfl, by decide +kernel, by decide +kernel⟩
abbrev s_law_fold : Stmt := topS 85
abbrev n_law_fold : List Str := ["_law_strip_here", "_law_crease", "_law_found", "_law_place_here", "_law_drops", "_law_there"]
theorem c_law_fold : FnScope n_law_fold ["_law_strip_here", "_law_crease"] (defScope s_law_fold) := ⟨rfl, rfl, rfl, by decide +kernel, rfl, by decide +kernel, by decide +kernel⟩
abbrev s_law_folded : Stmt := topS 86
abbrev n_law_folded : List Str := ["_law_strip_here", "_law_folds_here", "_law_crease"]
theorem c_law_folded : FnScope n_law_folded ["_law_strip_here", "_law_folds_here"] (defScope s_law_folded) := ⟨rfl, rfl, rfl, by decide +kernel, rfl, by decide +kernel, by decide +kernel⟩
abbrev s_law_steps : Stmt := topS 88
abbrev n_law_steps : List Str := ["_law_folds_here", "_law_at"]
theorem c_law_steps : FnScope n_law_steps ["_law_folds_here"] (defScope s_law_steps) := ⟨rfl, rfl, rfl, by decide +kernel, rfl, by decide +kernel, by decide +kernel⟩
abbrev s_law_folds : Stmt := topS 92
abbrev n_law_folds : List Str := ["_law_cup_here", "_law_most", "_law_many", "_law_found", "_law_step", "_law_way", "_law_turn"]
theorem c_law_folds : FnScope n_law_folds ["_law_cup_here", "_law_most"] (defScope s_law_folds) := ⟨rfl, rfl, rfl, by decide +kernel, rfl, by decide +kernel, by decide +kernel⟩
abbrev s_law_some_folds : Stmt := topS 93
abbrev n_law_some_folds : List Str := ["_law_cup_here", "_law_most", "_law_found"]
theorem c_law_some_folds : FnScope n_law_some_folds ["_law_cup_here", "_law_most"] (defScope s_law_some_folds) := ⟨rfl, rfl, rfl, by decide +kernel, rfl, by decide +kernel, by decide +kernel⟩
abbrev s_law_like_row : Stmt := topS 97
abbrev n_law_like_row : List Str := ["_law_cup_here", "_law_folds_here", "_law_turn", "_law_first", "_law_last", "_law_part", "_law_crease"]
theorem c_law_like_row : FnScope n_law_like_row ["_law_cup_here", "_law_folds_here"] (defScope s_law_like_row) := ⟨rfl, rfl, rfl, by decide +kernel, rfl, by decide +kernel, by decide +kernel⟩
abbrev s_law_inked : Stmt := topS 98
abbrev n_law_inked : List Str := ["_law_lot_here", "_law_folds_here", "_law_place_here", "_law_drops"]
theorem c_law_inked : FnScope n_law_inked ["_law_lot_here", "_law_folds_here"] (defScope s_law_inked) := ⟨rfl, rfl, rfl, by decide +kernel, rfl, by decide +kernel, by decide +kernel⟩
abbrev s_law_lot : Stmt := topS 99
abbrev n_law_lot : List Str := ["_law_cup_here", "_law_place_here"]
theorem c_law_lot : FnScope n_law_lot ["_law_cup_here"] (defScope s_law_lot) := ⟨rfl, rfl, rfl, by decide +kernel, rfl, by decide +kernel, by decide +kernel⟩
abbrev s_law_sums : Stmt := topS 100
abbrev n_law_sums : List Str := ["_law_folds_here", "_law_found", "_law_step", "_law_total"]
theorem c_law_sums : FnScope n_law_sums ["_law_folds_here"] (defScope s_law_sums) := ⟨rfl, rfl, rfl, by decide +kernel, rfl, by decide +kernel, by decide +kernel⟩
abbrev s_law_lot_right : Stmt := topS 101
abbrev n_law_lot_right : List Str := ["_law_cup_here", "_law_lot_here", "_law_folds_here", "_law_there", "_law_strip_here", "_law_place_here", "_law_drops", "_law_great", "_law_holes", "_law_first", "_law_last"]
theorem c_law_lot_right : FnScope n_law_lot_right ["_law_cup_here", "_law_lot_here", "_law_folds_here"] (defScope s_law_lot_right) := ⟨rfl, rfl, rfl, by decide +kernel, rfl, by decide +kernel, by decide +kernel⟩
abbrev s_law_counts_right : Stmt := topS 102
abbrev n_law_counts_right : List Str := ["_law_folds_here", "_law_sums_here", "_law_usual", "_law_odd", "_law_place_here", "_law_there", "_law_way", "_law_one", "_law_drops", "_law_due", "_law_total"]
theorem c_law_counts_right : FnScope n_law_counts_right ["_law_folds_here"] (defScope s_law_counts_right) := ⟨rfl, rfl, rfl, by decide +kernel, rfl, by decide +kernel, by decide +kernel⟩
abbrev s_law_pair_right : Stmt := topS 103
abbrev n_law_pair_right : List Str := ["_law_folds_here", "_law_other", "_law_due", "_law_alike", "_law_place_here"]
theorem c_law_pair_right : FnScope n_law_pair_right ["_law_folds_here", "_law_other"] (defScope s_law_pair_right) := ⟨rfl, rfl, rfl, by decide +kernel, rfl, by decide +kernel, by decide +kernel⟩
abbrev s_law : Stmt := topS 104
abbrev n_law : List Str := ["_law_script", "_law_cup_here", "_law_turn", "_law_folds_here", "_law_lot_here", "_law_double", "_law_other"]
theorem c_law : FnScope n_law ["_law_script"] (defScope s_law) := ⟨rfl, rfl, rfl, by decide +kernel, rfl, by decide +kernel, by decide +kernel⟩
/-! ### what else the module's names hold -/
structure BI (mg : Str → Option Value) : Prop where
  b_len : mg "len" = none
  b_zip : mg "zip" = none
  b_sorted : mg "sorted" = none
  b_set : mg "set" = none
  b_dict : mg "dict" = none
  b_tuple : mg "tuple" = none
  b_list : mg "list" = none
  b_abs : mg "abs" = none
  b_all : mg "all" = none
  b_isinstance : mg "isinstance" = none
  b_range : mg "range" = none
  b_int : mg "int" = none
  b_bool : mg "bool" = none
  b_max : mg "max" = none
  k_FARTHEST_strips : ∃ t, mg "FARTHEST_strips" = some (.int 1000000000 t)
  k_CREASE : ∃ t, mg "CREASE" = some (.int 1000000 t)
  k_PAIRS : ∃ t, mg "PAIRS" = some (.int 200 t)
  k_FOLDS_strips : ∃ t, mg "FOLDS_strips" = some (.int 12 t)
  k_MOST_folding : ∃ t, mg "MOST_folding" = some (.int 10000 t)
  k_PLACES : ∃ t, mg "PLACES" = some (.int 256 t)
  k_FARTHEST_inkedplaces : ∃ t, mg "FARTHEST_inkedplaces" = some (.int 100000 t)
  k_MOST_inkedplaces : ∃ t, mg "MOST_inkedplaces" = some (.int 10000 t)
  k_FOLDS_inkedplaces : ∃ t, mg "FOLDS_inkedplaces" = some (.int 8 t)
  k_STEPS : ∃ t, mg "STEPS" = some (.int 7 t)
end L2.K79

set_option Elab.async false
set_option linter.all false
set_option maxRecDepth 100000
set_option maxHeartbeats 4000000
namespace L2.K79
open PySem PySem.Spec PyProof.Rows L2
section
variable {X : Cx} {G : Gm} {pos : Pos} {a b c e : Expr} {es : List Expr} {α : Type}
theorem je_conv {d d' : D} (h : JE X e G d) (he : d = d') : JE X e G d' := he ▸ h
theorem jt_conv {k k' : Bool} (h : JT X e G k) (he : k = k') : JT X e G k' := he ▸ h
section
variable {elt tg iter : Expr} {ifs : List Expr} {scope : Scope} {own : List (Str × Nat)}
theorem map_all {l : List α} {f : α → D} : (l.filter fun _ => true).map f = l.map f := by rw [List.filter_eq_self.mpr (fun _ _ => rfl)]
/-- [elt for x in iter] -/
theorem je_map {l : List α} {emb : α → D} {Gx : α → Gm} {f : α → D} {g : TG} (own : List (Str × Nat)) (hN : X.N.Nodup) (hi : JI X tg iter G (l.map emb)) (ok : BlkOk X.N X.env.scope scope own) (hl : l.length ≤ 100000)
    (hg : ∀ (s : Shared) (H : Hp) (C : Addr) (cl : List (Str × Addr)) (fp : List Addr), PG (X.blk s H scope (compEnvC scope cl C X.env) fp) tg g) (hgo : ∀ x, x ∈ l → GOk g (own.map (·.2)) (wipeG G (own.map (·.2))) (emb x) (Gx x))
    (he : ∀ x, x ∈ l → ∀ (s : Shared) (H : Hp) (C : Addr) (cl : List (Str × Addr)) (fp : List Addr), JE (X.blk s H scope (compEnvC scope cl C X.env) fp) elt (Gx x) (f x)) (hc : X.calm = true := by rfl) (hs : ∀ x, foldedSetIterable iter X.env x = pure x := by intro _; rfl) :
    JE X (.ListComp elt [⟨tg, iter, [], 0⟩] scope pos) G (.lst (l.map f)) :=
  je_conv (je_lc (p := fun _ => true) own hc hN hi ok hl hg hgo (fun x hx s H C cl fp => jts_nil) (fun x hx _ => he x hx) hs) (by rw [map_all])
/-- [elt for i in iter], i a name in slot j -/
theorem je_mapN (j : Nat) {l : List α} {emb : α → D} {f : α → D} {x : Str} (hN : X.N.Nodup) (hi : JI X tg iter G (l.map emb)) (ok : BlkOk X.N X.env.scope scope [(x, j)]) (hl : l.length ≤ 100000)
    (hg : ∀ (s : Shared) (H : Hp) (C : Addr) (cl : List (Str × Addr)) (fp : List Addr), PG (X.blk s H scope (compEnvC scope cl C X.env) fp) tg (gName j))
    (he : ∀ x, x ∈ l → ∀ (s : Shared) (H : Hp) (C : Addr) (cl : List (Str × Addr)) (fp : List Addr), JE (X.blk s H scope (compEnvC scope cl C X.env) fp) elt ((wipeG G [j]).set j (some (emb x))) (f x)) (hc : X.calm = true := by rfl) (hs : ∀ x, foldedSetIterable iter X.env x = pure x := by intro _; rfl) :
    JE X (.ListComp elt [⟨tg, iter, [], 0⟩] scope pos) G (.lst (l.map f)) :=
  je_map [(x, j)] hN hi ok hl hg (fun x _ => gok_name (by simp)) he hc hs
theorem je_filN (j : Nat) {l : List α} {emb : α → D} {p : α → Bool} {f : α → D} {x : Str} (hN : X.N.Nodup) (hi : JI X tg iter G (l.map emb)) (ok : BlkOk X.N X.env.scope scope [(x, j)]) (hl : l.length ≤ 100000)
    (hg : ∀ (s : Shared) (H : Hp) (C : Addr) (cl : List (Str × Addr)) (fp : List Addr), PG (X.blk s H scope (compEnvC scope cl C X.env) fp) tg (gName j))
    (ht : ∀ x, x ∈ l → ∀ (s : Shared) (H : Hp) (C : Addr) (cl : List (Str × Addr)) (fp : List Addr), JT (X.blk s H scope (compEnvC scope cl C X.env) fp) c ((wipeG G [j]).set j (some (emb x))) (p x))
    (he : ∀ x, x ∈ l → p x = true → ∀ (s : Shared) (H : Hp) (C : Addr) (cl : List (Str × Addr)) (fp : List Addr), JE (X.blk s H scope (compEnvC scope cl C X.env) fp) elt ((wipeG G [j]).set j (some (emb x))) (f x)) (hc : X.calm = true := by rfl) (hs : ∀ x, foldedSetIterable iter X.env x = pure x := by intro _; rfl) :
    JE X (.ListComp elt [⟨tg, iter, [c], 0⟩] scope pos) G (.lst ((l.filter p).map f)) :=
  je_lc [(x, j)] hc hN hi ok hl hg (fun x _ => gok_name (by simp)) (fun x hx s H C cl fp => jts_one (ht x hx s H C cl fp)) he hs
/-- [elt for i, j in iter], items pairs -/
theorem je_mapP (i j : Nat) {l : List α} {d1 d2 : α → D} {f : α → D} {x y : Str} (hN : X.N.Nodup) (hi : JI X tg iter G (l.map fun x => D.tup [d1 x, d2 x])) (ok : BlkOk X.N X.env.scope scope [(x, i), (y, j)]) (hl : l.length ≤ 100000)
    (hg : ∀ (s : Shared) (H : Hp) (C : Addr) (cl : List (Str × Addr)) (fp : List Addr), PG (X.blk s H scope (compEnvC scope cl C X.env) fp) tg (gTup X.K 2 (gCons (gName i) (gCons (gName j) gNil))))
    (he : ∀ x, x ∈ l → ∀ (s : Shared) (H : Hp) (C : Addr) (cl : List (Str × Addr)) (fp : List Addr), JE (X.blk s H scope (compEnvC scope cl C X.env) fp) elt (((wipeG G [i, j]).set i (some (d1 x))).set j (some (d2 x))) (f x)) (hc : X.calm = true := by rfl) (hs : ∀ x, foldedSetIterable iter X.env x = pure x := by intro _; rfl) :
    JE X (.ListComp elt [⟨tg, iter, [], 0⟩] scope pos) G (.lst (l.map f)) :=
  je_map (emb := fun x => D.tup [d1 x, d2 x]) [(x, i), (y, j)] hN hi ok hl hg (fun x _ => gok_pair (by simp) (by simp)) he hc hs
theorem je_filP (i j : Nat) {l : List α} {d1 d2 : α → D} {p : α → Bool} {f : α → D} {x y : Str} (hN : X.N.Nodup) (hi : JI X tg iter G (l.map fun x => D.tup [d1 x, d2 x])) (ok : BlkOk X.N X.env.scope scope [(x, i), (y, j)]) (hl : l.length ≤ 100000)
    (hg : ∀ (s : Shared) (H : Hp) (C : Addr) (cl : List (Str × Addr)) (fp : List Addr), PG (X.blk s H scope (compEnvC scope cl C X.env) fp) tg (gTup X.K 2 (gCons (gName i) (gCons (gName j) gNil))))
    (ht : ∀ x, x ∈ l → ∀ (s : Shared) (H : Hp) (C : Addr) (cl : List (Str × Addr)) (fp : List Addr), JT (X.blk s H scope (compEnvC scope cl C X.env) fp) c (((wipeG G [i, j]).set i (some (d1 x))).set j (some (d2 x))) (p x))
    (he : ∀ x, x ∈ l → p x = true → ∀ (s : Shared) (H : Hp) (C : Addr) (cl : List (Str × Addr)) (fp : List Addr), JE (X.blk s H scope (compEnvC scope cl C X.env) fp) elt (((wipeG G [i, j]).set i (some (d1 x))).set j (some (d2 x))) (f x)) (hc : X.calm = true := by rfl) (hs : ∀ x, foldedSetIterable iter X.env x = pure x := by intro _; rfl) :
    JE X (.ListComp elt [⟨tg, iter, [c], 0⟩] scope pos) G (.lst ((l.filter p).map f)) :=
  je_lc (emb := fun x => D.tup [d1 x, d2 x]) [(x, i), (y, j)] hc hN hi ok hl hg (fun x _ => gok_pair (by simp) (by simp)) (fun x hx s H C cl fp => jts_one (ht x hx s H C cl fp)) he hs
/-- y = [elt for i in iter if c] -/
theorem jb_setFilN (k j : Nat) {l : List α} {emb : α → D} {p : α → Bool} {f : α → D} {N : Gm → Prop} {R : D → Prop} {x y : Str} {py spos : Pos} {sts : List Stmt} (hN : X.N.Nodup) (hi : JI X tg iter G (l.map emb)) (ok : BlkOk X.N X.env.scope scope [(x, j)]) (hl : l.length ≤ 100000)
    (hg : ∀ (s : Shared) (H : Hp) (C : Addr) (cl : List (Str × Addr)) (fp : List Addr), PG (X.blk s H scope (compEnvC scope cl C X.env) fp) tg (gName j))
    (ht : ∀ x, x ∈ l → ∀ (s : Shared) (H : Hp) (C : Addr) (cl : List (Str × Addr)) (fp : List Addr), JT (X.blk s H scope (compEnvC scope cl C X.env) fp) c ((wipeG G [j]).set j (some (emb x))) (p x))
    (he : ∀ x, x ∈ l → p x = true → ∀ (s : Shared) (H : Hp) (C : Addr) (cl : List (Str × Addr)) (fp : List Addr), JE (X.blk s H scope (compEnvC scope cl C X.env) fp) elt ((wipeG G [j]).set j (some (emb x))) (f x))
    (q : JB X sts (G.set k (some (.lst ((l.filter p).map f)))) N R) (hsw : swapsWith (.ListComp elt [⟨tg, iter, [c], 0⟩] scope pos) (some (.Name y py)) spos.line X.env = pure true) (hc : X.calm = true := by rfl) (hy : X.N[k]? = some y := by rfl) (hyl : X.env.scope.names.lookup y = some .local := by rfl) (hs : ∀ x, foldedSetIterable iter X.env x = pure x := by intro _; rfl) :
    JB X (.Assign [.Name y py] (.ListComp elt [⟨tg, iter, [c], 0⟩] scope pos) spos :: sts) G N R :=
  jb_cons (N1 := fun G' => G' = G.set k (some (.lst ((l.filter p).map f)))) (js_setLc [(x, j)] hc hN hi ok hl hg (fun x _ => gok_name (by simp)) (fun x hx s H C cl fp => jts_one (ht x hx s H C cl fp)) he rfl hy hyl hsw hs) fun G' e => by rw [e]; exact q
end
/-! ### all, zip, slices as used -/
theorem je_allM {p : Pos} {l : List α} {g : α → Bool} (hm : X.mg "all" = none) (ha : JE X e G (.lst (l.map fun x => .bl (g x)))) (hcalm : X.calm = true := by rfl) (he : starEach [e] X.env = (false, eval e X.env) :: starEach [] X.env := by rfl) (hg : Gl X "all" := by rfl) (hpl : (backTo pos (starEach [] X.env)).any (·.1) = false := by rfl) : JE X (.Call (.Name "all" p) [e] [] pos) G (.bl (l.all g)) :=
  je_conv (je_all (bs := l.map g) hcalm hm (je_conv ha (by rw [List.map_map]; rfl)) he hg hpl) (by rw [List.all_map]; rfl)
theorem sIx_one (n : Nat) : HT.sIx n 0 (some 1) = min 1 n := HT.sIx_nat n 0 1
theorem tail_eq {α : Type} (ds : List α) : (ds.drop (HT.sIx ds.length 0 (some 1))).take (HT.sIx ds.length ds.length none - HT.sIx ds.length 0 (some 1)) = ds.drop 1 := by
  rw [sIx_one, HT.sIx_none]
  cases ds with
  | nil => rfl
  | cons x r =>
    have e : min 1 (x :: r).length = 1 := by simp
    rw [e, List.drop_succ_cons, List.drop_zero]
    exact List.take_of_length_le (by simp)
/-- t[1:] -/
theorem je_tailT {ds : List D} {k : Nat} {p1 p2 : Pos} (ha : JE X a G (.tup ds)) : JE X (.Subscript a (.Slice (some (.Constant (.int 1) k p1)) none none p2) pos) G (.tup (ds.drop 1)) :=
  je_conv (je_slT ha (po_at je_int) po_no) (by rw [tail_eq])
theorem je_tailI {ns : List Int} {k : Nat} {p1 p2 : Pos} (ha : JE X a G (tI ns)) : JE X (.Subscript a (.Slice (some (.Constant (.int 1) k p1)) none none p2) pos) G (tI (ns.drop 1)) :=
  je_conv (je_tailT ha) (by unfold tI; rw [List.map_drop])
/-- l[1:] of a list -/
theorem je_tailLI {ns : List Int} {k : Nat} {p1 p2 : Pos} (ha : JE X a G (lI ns)) : JE X (.Subscript a (.Slice (some (.Constant (.int 1) k p1)) none none p2) pos) G (lI (ns.drop 1)) :=
  (pe_slice sl_list ha (po_some pe_int) po_none).wk fun σ H Q ⟨C, al, s, q⟩ => ⟨C, al, s, fun v H1 e1 r1 => by
    cases r1 with
    | lst hc hr ht =>
      have hx := rpA_int ht
      subst hx
      refine ⟨1, rfl, _, _, rfl, .inl hr.rd, fun p hp => ?_⟩
      refine q _ _ (e1.trans (Ex.new hp)) ?_
      have e : cutV (ns.map V.int) (some 1) none = (ns.drop 1).map V.int := by
        unfold cutV
        rw [tail_eq, List.map_drop]
      rw [e]
      exact rp_newL (e1.al al) hp (rpA_of_int _)⟩
theorem zip_map (ns ms : List Int) : List.zipWith (fun x y => D.tup [x, y]) (ns.map D.int) (ms.map D.int) = (ns.zip ms).map fun p => D.tup [.int p.1, .int p.2] := by
  rw [List.zipWith_map, List.zip, List.map_zipWith]
theorem ji_zipI {p tpos : Pos} {elts : List Expr} {kk : Nat} {ns ms : List Int} (hm : X.mg "zip" = none) (ha : JE X a G (tI ns)) (hb : JE X b G (tI ms)) (he : starEach [a, b] X.env = (false, eval a X.env) :: starEach [b] X.env := by rfl) (he2 : starEach [b] X.env = (false, eval b X.env) :: starEach [] X.env := by rfl) (hg : Gl X "zip" := by rfl) (hpl : (backTo pos (starEach [b] X.env)).any (·.1) = false := by rfl) :
    JI X (.Tuple elts kk tpos) (.Call (.Name "zip" p) [a, b] [] pos) G ((ns.zip ms).map fun p => D.tup [.int p.1, .int p.2]) := by
  rw [← zip_map]
  exact ji_zip hm ha hb he he2 hg hpl
/-- zip of two lists of ints -/
theorem ji_zipL {p tpos : Pos} {elts : List Expr} {kk : Nat} {ns ms : List Int} (hm : X.mg "zip" = none) (ha : JE X a G (lI ns)) (hb : JE X b G (lI ms)) (he : starEach [a, b] X.env = (false, eval a X.env) :: starEach [b] X.env := by rfl) (he2 : starEach [b] X.env = (false, eval b X.env) :: starEach [] X.env := by rfl) (hg : Gl X "zip" := by rfl) (hpl : (backTo pos (starEach [b] X.env)).any (·.1) = false := by rfl) :
    JI X (.Tuple elts kk tpos) (.Call (.Name "zip" p) [a, b] [] pos) G ((ns.zip ms).map fun p => D.tup [.int p.1, .int p.2]) :=
  (RZ.pi_zipA hg hm (ja_cons ha (ja_cons hb ja_nil he2) he) he hpl).wk fun σ H R ⟨C, al, s, q⟩ => ⟨C, al, s, fun vs H1 e1 r1 => by
    cases r1 with
    | cons k1 k2 =>
      cases k2 with
      | cons k3 k4 =>
        cases k4
        cases k1 with
        | @lst p1 xs _ hc hr ht =>
          cases k3 with
          | @lst p2 ys _ hc' hr' ht' =>
            refine ⟨p1, p2, xs, ys, rfl, .inl ⟨.inl hr.rd, .inl hr'.rd, q _ H1 e1 fun C' H' hC al' e => ?_⟩⟩
            have mm := (Mv.more hC).trans e.mv
            obtain ⟨_, kr⟩ := mm p1 (.lst xs) trivial hc hr
            obtain ⟨_, kr'⟩ := mm p2 (.lst ys) trivial hc' hr'
            have kt : RpA C' H' xs (ns.map D.int) := RpA.mv mm _ _ ht
            have kt' : RpA C' H' ys (ms.map D.int) := RpA.mv mm _ _ ht'
            rw [← zip_map]
            refine ⟨fun i hi => ⟨xs, ys, .inl kr.rd, .inl kr'.rd, ?_⟩, fun i d hd => ?_⟩
            · rw [List.length_zipWith] at hi
              rw [ht.length, ht'.length]
              omega
            · obtain ⟨x, y, h1, h2, rfl⟩ := zip_get hd
              obtain ⟨v, g1, g2⟩ := kt.get h1
              obtain ⟨u, g3, g4⟩ := kt'.get h2
              refine ⟨⟨xs, ys, v, u, .inl kr.rd, .inl kr'.rd, g1, g3⟩, fun z H'' yy => ?_⟩
              obtain ⟨T, x', y', rfl, hT, rfl, f1, f2⟩ := yy
              have q1 := f1 xs (.inl kr.rd)
              have q2 := f2 ys (.inl kr'.rd)
              rw [g1] at q1
              rw [g3] at q2
              cases q1
              cases q2
              exact ⟨Ex.new hT, rp_newT al' hT (.cons g2 (.cons g4 .nil))⟩⟩
theorem ji_tI {tg : Expr} {ns : List Int} (h : JE X e G (tI ns)) : JI X tg e G (ns.map D.int) := ji_tup h
theorem ji_lI {tg : Expr} {ns : List Int} (h : JE X e G (lI ns)) : JI X tg e G (ns.map D.int) := ji_list h
/-- x is None, of a list -/
theorem je_isNL {ds : List D} {j : Nat} {p' : Pos} (ha : JE X a G (.lst ds)) (h1 : behindInMarks .Is (.Constant .none j p') = false := by first | exact nobehind _ (by decide) (by decide) | rfl) : JE X (.Compare a [.Is] [.Constant .none j p'] pos) G (.bl false) :=
  (pe_cmp (pc_isN ha) h1).wk fun σ H Q ⟨C, al, s, q⟩ => ⟨C, al, s, fun v H1 e1 r1 => by
    cases r1
    exact q _ H1 e1 (.bl _)⟩
/-- xs[0], xs[-1] of ints -/
theorem atI_map {ns : List Int} {i : Int} {n : Int} (h : atI ns i = some n) : atI (ns.map D.int) i = some (D.int n) := by
  unfold atI at h ⊢
  rw [List.length_map]
  cases hx : ixN ns.length i with
  | none => rw [hx] at h; cases h
  | some j =>
    rw [hx] at h
    show (ns.map D.int)[j]? = _
    rw [List.getElem?_map]
    have h2 : ns[j]? = some n := h
    rw [h2]
    rfl
theorem je_ixTI {ns : List Int} {i n : Int} (ha : JE X a G (tI ns)) (hb : JE X b G (.int i)) (h : atI ns i = some n) (hs : PlainIx b := by exact fun _ _ => rfl) : JE X (.Subscript a b pos) G (.int n) := je_ixT ha hb (atI_map h) hs
theorem je_ixLI {ns : List Int} {i n : Int} (ha : JE X a G (lI ns)) (hb : JE X b G (.int i)) (h : atI ns i = some n) (hs : PlainIx b := by exact fun _ _ => rfl) : JE X (.Subscript a b pos) G (.int n) := je_ixL ha hb (atI_map h) hs
theorem at_head {α : Type} [Inhabited α] {ns : List α} (h : ns ≠ []) : atI ns 0 = some (ns.headD default) := by
  cases ns with
  | nil => exact absurd rfl h
  | cons x r => exact atI_nat (j := 0) rfl
theorem at_last {α : Type} {ns : List α} (h : ns ≠ []) (d : α) : atI ns (-1) = some (ns.getLastD d) := by
  have e := List.dropLast_concat_getLast h
  rw [← e]
  have h1 := atI_last ns.dropLast (ns.getLast h)
  rw [h1]
  congr 1
  rw [List.getLastD_concat]
/-! ### isinstance as used -/
theorem je_isII {p p2 : Pos} {i : Int} (hm : X.mg "isinstance" = none) (hm2 : X.mg "int" = none) (ha : JE X a G (.int i)) (he : starEach [a, .Name "int" p2] X.env = (false, eval a X.env) :: starEach [.Name "int" p2] X.env := by rfl) (he2 : starEach [.Name "int" p2] X.env = (false, eval (.Name "int" p2) X.env) :: starEach [] X.env := by rfl) (hg : Gl X "isinstance" := by rfl) (hg2 : Gl X "int" := by rfl) (hpl : (backTo pos (starEach [.Name "int" p2] X.env)).any (·.1) = false := by rfl) :
    JE X (.Call (.Name "isinstance" p) [a, .Name "int" p2] [] pos) G (.bl true) := je_isi (d := .int i) (t := "int") (n := "int") hm ha (je_ty hm2 (by decide +kernel) hg2) rfl (by decide +kernel) he he2 hg hpl
theorem je_isIB {p p2 : Pos} {i : Int} (hm : X.mg "isinstance" = none) (hm2 : X.mg "bool" = none) (ha : JE X a G (.int i)) (he : starEach [a, .Name "bool" p2] X.env = (false, eval a X.env) :: starEach [.Name "bool" p2] X.env := by rfl) (he2 : starEach [.Name "bool" p2] X.env = (false, eval (.Name "bool" p2) X.env) :: starEach [] X.env := by rfl) (hg : Gl X "isinstance" := by rfl) (hg2 : Gl X "bool" := by rfl) (hpl : (backTo pos (starEach [.Name "bool" p2] X.env)).any (·.1) = false := by rfl) :
    JE X (.Call (.Name "isinstance" p) [a, .Name "bool" p2] [] pos) G (.bl false) := je_isi (d := .int i) (t := "int") (n := "bool") hm ha (je_ty hm2 (by decide +kernel) hg2) rfl (by decide +kernel) he he2 hg hpl
theorem je_isTT {p p2 : Pos} {xs : List D} (hm : X.mg "isinstance" = none) (hm2 : X.mg "tuple" = none) (ha : JE X a G (.tup xs)) (he : starEach [a, .Name "tuple" p2] X.env = (false, eval a X.env) :: starEach [.Name "tuple" p2] X.env := by rfl) (he2 : starEach [.Name "tuple" p2] X.env = (false, eval (.Name "tuple" p2) X.env) :: starEach [] X.env := by rfl) (hg : Gl X "isinstance" := by rfl) (hg2 : Gl X "tuple" := by rfl) (hpl : (backTo pos (starEach [.Name "tuple" p2] X.env)).any (·.1) = false := by rfl) :
    JE X (.Call (.Name "isinstance" p) [a, .Name "tuple" p2] [] pos) G (.bl true) := je_isi (d := .tup xs) (t := "tuple") (n := "tuple") hm ha (je_ty hm2 (by decide +kernel) hg2) rfl (by decide +kernel) he he2 hg hpl
end
end L2.K79

set_option Elab.async false
set_option linter.all false
set_option maxRecDepth 100000
set_option maxHeartbeats 4000000
namespace L2.K79
open PySem PySem.Spec PyProof.Rows L2
section
variable {P : Program} {w : World} {K : PySem.W.Frag} {mg : Str → Option Value} {base : Heap}
/-! ### what may be handed in -/
def inR (lo v hi : Int) : Bool := decide (lo ≤ v) && decide (v ≤ hi)
def R_whole (ds : List D) (r : D) : Prop := ∃ v lo hi : Int, ds = [.int v, .int lo, .int hi] ∧ r = .bl (inR lo v hi)
theorem f_is_whole (B : BI mg) (F : DefAt K mg "is_whole" s_is_whole) : Cal P w K mg base 1 "is_whole" ["value", "low", "high"] (spJ R_whole) := by
  refine fn_cal F c_is_whole (fun ds r h => ?_) (fun _ _ _ _ _ _ us hl => match us, hl with | [_, _, _], _ => rfl) (fun f cdv A outer s H E ds r hr h => ?_)
  · obtain ⟨v, lo, hi, rfl, _⟩ := h
    rfl
  · obtain ⟨v, lo, hi, rfl, rfl⟩ := h
    exact jb_one (js_ret (je_and (k := true) (je_isII B.b_isinstance B.b_int (je_var 0)) fun _ => je_and (k := true) (je_not (k := false) (je_isIB B.b_isinstance B.b_bool (je_var 0))) fun _ => je_one (je_lele (je_var 1) (je_var 0) (je_var 2))) rfl)
def R_tuple (ds : List D) (r : D) : Prop := ∃ (xs : List D) (d : D) (lo hi : Int), (d = .tup xs ∨ d = .tux xs) ∧ ds = [d, .int lo, .int hi] ∧ r = .bl (inR lo xs.length hi)
theorem f_is_tuple_of (B : BI mg) (F : DefAt K mg "is_tuple_of" s_is_tuple_of) : Cal P w K mg base 1 "is_tuple_of" ["value", "low", "high"] (spJ R_tuple) := by
  refine fn_cal F c_is_tuple_of (fun ds r h => ?_) (fun _ _ _ _ _ _ us hl => match us, hl with | [_, _, _], _ => rfl) (fun f cdv A outer s H E ds r hr h => ?_)
  · obtain ⟨xs, d, lo, hi, _, rfl, _⟩ := h
    rfl
  · obtain ⟨xs, d, lo, hi, hd, rfl, rfl⟩ := h
    rcases hd with rfl | rfl
    · exact jb_one (js_ret (je_and (k := true) (je_isTT B.b_isinstance B.b_tuple (je_var 0)) fun _ => je_one (je_lele (je_var 1) (je_lenT (x := "len") B.b_len (je_var 0)) (je_var 2))) rfl)
    · exact jb_one (js_ret (je_and (k := true) (je_isTT B.b_isinstance B.b_tuple (je_weak (je_var 0))) fun _ => je_one (je_lele (je_var 1) (je_lenT (x := "len") B.b_len (je_weak (je_var 0))) (je_var 2))) rfl)
def R_place (ds : List D) (r : D) : Prop := ∃ v : Int, ds = [.int v] ∧ r = .bl (inR (-1000000000) v 1000000000)
theorem f_fits_place (B : BI mg) (F : DefAt K mg "fits_place" s_fits_place) (Fw : Cal P w K mg base 1 "is_whole" ["value", "low", "high"] (spJ R_whole)) : Cal P w K mg base 2 "fits_place" ["value"] (spJ R_place) := by
  refine fn_cal F c_fits_place (fun ds r h => ?_) (fun _ _ _ _ _ _ us hl => match us, hl with | [_], _ => rfl) (fun f cdv A outer s H E ds r hr h => ?_)
  · obtain ⟨v, rfl, _⟩ := h
    rfl
  · obtain ⟨v, rfl, rfl⟩ := h
    exact jb_one (js_ret (je_call Fw (hr.mono (by decide)) (ja_cons (je_var 0) (ja_cons (je_neg (je_globI B.k_FARTHEST_strips)) (ja_cons (je_globI B.k_FARTHEST_strips) ja_nil))) ⟨_, _, _, rfl, rfl⟩) rfl)
def R_drops (ds : List D) (r : D) : Prop := ∃ v : Int, ds = [.int v] ∧ r = .bl (decide (0 < v))
theorem f_fits_drops (B : BI mg) (F : DefAt K mg "fits_drops" s_fits_drops) : Cal P w K mg base 1 "fits_drops" ["value"] (spJ R_drops) := by
  refine fn_cal F c_fits_drops (fun ds r h => ?_) (fun _ _ _ _ _ _ us hl => match us, hl with | [_], _ => rfl) (fun f cdv A outer s H E ds r hr h => ?_)
  · obtain ⟨v, rfl, _⟩ := h
    rfl
  · obtain ⟨v, rfl, rfl⟩ := h
    exact jb_one (js_ret (je_and (k := true) (je_isII B.b_isinstance B.b_int (je_var 0)) fun _ => je_and (k := true) (je_not (k := false) (je_isIB B.b_isinstance B.b_bool (je_var 0))) fun _ => je_one (je_gt (je_var 0) je_int)) rfl)
def R_crease (ds : List D) (r : D) : Prop := ∃ v : Int, ds = [.int v] ∧ r = .bl (inR (-1000000) v 1000000)
theorem f_fits_crease (B : BI mg) (F : DefAt K mg "fits_crease" s_fits_crease) (Fw : Cal P w K mg base 1 "is_whole" ["value", "low", "high"] (spJ R_whole)) : Cal P w K mg base 2 "fits_crease" ["value"] (spJ R_crease) := by
  refine fn_cal F c_fits_crease (fun ds r h => ?_) (fun _ _ _ _ _ _ us hl => match us, hl with | [_], _ => rfl) (fun f cdv A outer s H E ds r hr h => ?_)
  · obtain ⟨v, rfl, _⟩ := h
    rfl
  · obtain ⟨v, rfl, rfl⟩ := h
    exact jb_one (js_ret (je_call Fw (hr.mono (by decide)) (ja_cons (je_var 0) (ja_cons (je_neg (je_globI B.k_CREASE)) (ja_cons (je_globI B.k_CREASE) ja_nil))) ⟨_, _, _, rfl, rfl⟩) rfl)
/-- a row of folds -/
structure okF (fs : List Int) : Prop where
  len : fs.length ≤ 12
  each : ∀ c ∈ fs, -1000000 ≤ c ∧ c ≤ 1000000
theorem inR_iff {lo v hi : Int} : inR lo v hi = true ↔ lo ≤ v ∧ v ≤ hi := by
  unfold inR
  rw [Bool.and_eq_true, decide_eq_true_iff, decide_eq_true_iff]
def R_folds (ds : List D) (r : D) : Prop := ∃ fs : List Int, okF fs ∧ ds = [tI fs] ∧ r = .bl true
theorem f_fits_folds (B : BI mg) (F : DefAt K mg "fits_folds" s_fits_folds) (Ft : Cal P w K mg base 1 "is_tuple_of" ["value", "low", "high"] (spJ R_tuple)) (Fc : Cal P w K mg base 2 "fits_crease" ["value"] (spJ R_crease)) : Cal P w K mg base 3 "fits_folds" ["value"] (spJ R_folds) := by
  refine fn_cal F c_fits_folds (fun ds r h => ?_) (fun _ _ _ _ _ _ us hl => match us, hl with | [_], _ => rfl) (fun f cdv A outer s H E ds r hr h => ?_)
  · obtain ⟨fs, _, rfl, _⟩ := h
    rfl
  · obtain ⟨fs, ok, rfl, rfl⟩ := h
    refine jb_one (js_ret (je_and (k := inR 0 (fs.map D.int).length 12) (je_call Ft (hr.mono (by decide)) (ja_cons (je_var 0) (ja_cons je_int (ja_cons (je_globI B.k_FOLDS_strips) ja_nil))) ⟨_, _, _, _, .inl rfl, rfl, rfl⟩) fun _ => je_one (je_allM (g := fun c => inR (-1000000) c 1000000) B.b_all (je_mapN (x := "crease") 1 (l := fs) (emb := D.int) c_fits_folds.nd (ji_tI (je_var 0)) (blkOk_by (N := n_fits_folds) (sc := defScope s_fits_folds) (by decide +kernel)) (by have := ok.len; omega) (fun _ _ _ _ _ => pg_name (i := 1) c_fits_folds.nd rfl (.inl rfl))
      (fun c hc s H C cl fp => je_call Fc (hr.mono (by decide)) (ja_cons (je_var 1) ja_nil) ⟨_, rfl, rfl⟩)))) ?_)
    have h1 : inR 0 (fs.map D.int).length 12 = true := inR_iff.mpr ⟨by omega, by rw [List.length_map]; have := ok.len; omega⟩
    have h2 : (fs.all fun c => inR (-1000000) c 1000000) = true := List.all_eq_true.mpr fun c hc => inR_iff.mpr (ok.each c hc)
    rw [h1, h2]
    rfl
def R_needF (ds : List D) (r : D) : Prop := ∃ fs : List Int, okF fs ∧ ds = [tI fs] ∧ r = .non
theorem f_need_folds (F : DefAt K mg "need_folds" s_need_folds) (Ff : Cal P w K mg base 3 "fits_folds" ["value"] (spJ R_folds)) : Cal P w K mg base 4 "need_folds" ["value"] (spJ R_needF) := by
  refine fn_cal F c_need_folds (fun ds r h => ?_) (fun _ _ _ _ _ _ us hl => match us, hl with | [_], _ => rfl) (fun f cdv A outer s H E ds r hr h => ?_)
  · obtain ⟨fs, _, rfl, _⟩ := h
    rfl
  · obtain ⟨fs, ok, rfl, rfl⟩ := h
    exact jb_ifret (k := false) (jt_not (k := true) (jt_of (je_call Ff (hr.mono (by decide)) (ja_cons (je_var 0) ja_nil) ⟨_, ok, rfl, rfl⟩))) (fun z => nomatch z) (fun _ => jb_nil rfl)
end
end L2.K79

set_option linter.all false
namespace L2.K79
/-! ### the plain law: ink -/
def absI (i : Int) : Int := if i < 0 then -i else i
def inkS (ns : List Int) (c : Int) : List Int := sdu (ns ++ ns.map fun p => c - p)
def ink (ns fs : List Int) : List Int := fs.foldl inkS ns
def sumS (f : List Int) (s : Int) : List Int := sdu ((f.map fun t => t + s) ++ f.map fun t => t - s)
def allSums (ss : List Int) : List Int := ss.foldl sumS [0]
def dif (fs : List Int) : List Int := (fs.zip (fs.drop 1)).map fun p => absI (p.1 - p.2)
def stepsL (fs : List Int) : List Int := srt (dif fs)
def sumsIn (fs : List Int) : List Int := if fs = [] then [] else allSums (stepsL fs)
def Rch : List Int → Int → Int → Prop
  | [], p, x => x = p
  | c :: r, p, x => Rch r p x ∨ Rch r (c - p) x
def SSum : List Int → Int → Prop
  | [], z => z = 0
  | s :: r, z => SSum r (z - s) ∨ SSum r (z + s)
theorem mem_inkS {ns : List Int} {c x : Int} : x ∈ inkS ns c ↔ x ∈ ns ∨ ∃ p ∈ ns, c - p = x := by
  unfold inkS
  rw [mem_sdu, List.mem_append, List.mem_map]
theorem mem_ink {x : Int} : ∀ {fs ns : List Int}, x ∈ ink ns fs ↔ ∃ p ∈ ns, Rch fs p x
  | [], ns => by
    show x ∈ ns ↔ _
    constructor
    · intro h; exact ⟨x, h, rfl⟩
    · rintro ⟨p, h, e⟩
      have e : x = p := e
      rw [e]; exact h
  | c :: r, ns => by
    show x ∈ ink (inkS ns c) r ↔ _
    rw [mem_ink (fs := r)]
    constructor
    · rintro ⟨p, h, e⟩
      rcases mem_inkS.mp h with h1 | ⟨q, h1, rfl⟩
      · exact ⟨p, h1, .inl e⟩
      · exact ⟨q, h1, .inr e⟩
    · rintro ⟨p, h, e | e⟩
      · exact ⟨p, mem_inkS.mpr (.inl h), e⟩
      · exact ⟨c - p, mem_inkS.mpr (.inr ⟨p, h, rfl⟩), e⟩
theorem ink_lt {ns : List Int} : ∀ {fs : List Int}, ns.Pairwise (· < ·) → (ink ns fs).Pairwise (· < ·) := by
  intro fs
  induction fs generalizing ns with
  | nil => exact id
  | cons c r ih => intro _; exact ih (sdu_lt _)
theorem rch_self : ∀ (fs : List Int) (p : Int), Rch fs p p
  | [], p => rfl
  | c :: r, p => .inl (rch_self r p)
theorem ink_self {ns fs : List Int} {p : Int} (h : p ∈ ns) : p ∈ ink ns fs := mem_ink.mpr ⟨p, h, rch_self fs p⟩
theorem ins_length (x : Int) : ∀ l : List Int, (ins x l).length ≤ l.length + 1
  | [] => Nat.le_refl _
  | y :: r => by
    unfold ins
    split
    · simp
    · split
      · simp
      · have := ins_length x r
        simp only [List.length_cons]
        omega
theorem sdu_length : ∀ l : List Int, (sdu l).length ≤ l.length
  | [] => Nat.le_refl _
  | n :: ns => by
    have h := ins_length n (sdu ns)
    have h2 := sdu_length ns
    show (ins n (sdu ns)).length ≤ ns.length + 1
    omega
theorem inkS_length (ns : List Int) (c : Int) : (inkS ns c).length ≤ 2 * ns.length := by
  have h := sdu_length (ns ++ ns.map fun p => c - p)
  rw [List.length_append, List.length_map] at h
  show (sdu _).length ≤ _
  omega
theorem ink_length : ∀ (fs ns : List Int), (ink ns fs).length ≤ ns.length * 2 ^ fs.length
  | [], ns => by simp [ink]
  | c :: r, ns => by
    have h := ink_length r (inkS ns c)
    have h2 := inkS_length ns c
    show (ink (inkS ns c) r).length ≤ _
    rw [List.length_cons, Nat.pow_succ]
    have h3 : (inkS ns c).length * 2 ^ r.length ≤ 2 * ns.length * 2 ^ r.length := Nat.mul_le_mul_right _ h2
    have h4 : 2 * ns.length * 2 ^ r.length = ns.length * (2 ^ r.length * 2) := by rw [Nat.mul_comm 2 ns.length, Nat.mul_assoc, Nat.mul_comm 2]
    omega
/-- how far ink comes -/
theorem rch_far {m b x : Int} : ∀ {fs : List Int} {p : Int}, (∀ c ∈ fs, -b ≤ c ∧ c ≤ b) → 0 ≤ b → -m ≤ p ∧ p ≤ m → Rch fs p x → -(m + b * fs.length) ≤ x ∧ x ≤ m + b * fs.length
  | [], p, _, h0, hp, e => by
    have e : x = p := e
    subst e
    simp
    omega
  | c :: r, p, h, h0, hp, e => by
    have hc := h c List.mem_cons_self
    have hr : ∀ c ∈ r, -b ≤ c ∧ c ≤ b := fun z hz => h z (List.mem_cons_of_mem _ hz)
    have e2 : b * ((c :: r).length : Int) = b * (r.length : Int) + b := by
      rw [List.length_cons, Int.natCast_add, Int.mul_add]; simp
    rcases e with e | e
    · have := rch_far (m := m) hr h0 hp e
      omega
    · have := rch_far (m := m + b) hr h0 (by omega) e
      omega
/-! ### sums -/
theorem mem_sumS {f : List Int} {s x : Int} : x ∈ sumS f s ↔ x - s ∈ f ∨ x + s ∈ f := by
  unfold sumS
  rw [mem_sdu, List.mem_append, List.mem_map, List.mem_map]
  constructor
  · rintro (⟨t, h, rfl⟩ | ⟨t, h, rfl⟩)
    · left; rw [Int.add_sub_cancel]; exact h
    · right; rw [Int.sub_add_cancel]; exact h
  · rintro (h | h)
    · exact .inl ⟨_, h, by omega⟩
    · exact .inr ⟨_, h, by omega⟩
theorem mem_foldS {x : Int} : ∀ {ss f : List Int}, x ∈ ss.foldl sumS f ↔ ∃ y ∈ f, SSum ss (x - y)
  | [], f => by
    show x ∈ f ↔ _
    constructor
    · intro h
      exact ⟨x, h, by show x - x = 0; omega⟩
    · rintro ⟨y, h, e⟩
      have e : x - y = 0 := e
      have : x = y := by omega
      rw [this]; exact h
  | s :: r, f => by
    show x ∈ r.foldl sumS (sumS f s) ↔ _
    rw [mem_foldS (ss := r)]
    constructor
    · rintro ⟨y, h, e⟩
      rcases mem_sumS.mp h with h | h
      · exact ⟨_, h, .inl (by rw [show x - (y - s) - s = x - y by omega]; exact e)⟩
      · exact ⟨_, h, .inr (by rw [show x - (y + s) + s = x - y by omega]; exact e)⟩
    · rintro ⟨y, h, e | e⟩
      · exact ⟨y + s, mem_sumS.mpr (.inl (by rw [Int.add_sub_cancel]; exact h)), by rw [show x - (y + s) = x - y - s by omega]; exact e⟩
      · exact ⟨y - s, mem_sumS.mpr (.inr (by rw [Int.sub_add_cancel]; exact h)), by rw [show x - (y - s) = x - y + s by omega]; exact e⟩
theorem mem_allSums {x : Int} {ss : List Int} : x ∈ allSums ss ↔ SSum ss x := by
  unfold allSums
  rw [mem_foldS]
  constructor
  · rintro ⟨y, h, e⟩
    rw [List.mem_singleton] at h
    subst h
    rw [Int.sub_zero] at e
    exact e
  · intro h
    exact ⟨0, List.mem_singleton.mpr rfl, by rw [Int.sub_zero]; exact h⟩
theorem foldS_lt : ∀ {ss f : List Int}, f.Pairwise (· < ·) → (ss.foldl sumS f).Pairwise (· < ·)
  | [], f, h => h
  | s :: r, f, _ => foldS_lt (ss := r) (sdu_lt _)
theorem allSums_lt (ss : List Int) : (allSums ss).Pairwise (· < ·) := foldS_lt (by simp)
theorem sumsIn_lt (fs : List Int) : (sumsIn fs).Pairwise (· < ·) := by
  unfold sumsIn
  split
  · exact .nil
  · exact allSums_lt _
theorem ssum_perm {l m : List Int} (h : l.Perm m) : ∀ z, SSum l z ↔ SSum m z := by
  induction h with
  | nil => intro z; exact Iff.rfl
  | cons x _ ih => intro z; exact or_congr (ih _) (ih _)
  | swap x y l =>
    intro z
    show (SSum l _ ∨ SSum l _) ∨ (SSum l _ ∨ SSum l _) ↔ (SSum l _ ∨ SSum l _) ∨ (SSum l _ ∨ SSum l _)
    rw [show z - y - x = z - x - y by omega, show z - y + x = z + x - y by omega, show z + y - x = z - x + y by omega, show z + y + x = z + x + y by omega]
    constructor
    · rintro ((h | h) | (h | h))
      · exact .inl (.inl h)
      · exact .inr (.inl h)
      · exact .inl (.inr h)
      · exact .inr (.inr h)
    · rintro ((h | h) | (h | h))
      · exact .inl (.inl h)
      · exact .inr (.inl h)
      · exact .inl (.inr h)
      · exact .inr (.inr h)
  | trans _ _ ih1 ih2 => intro z; exact (ih1 z).trans (ih2 z)
theorem ssum_abs {d : Int} {l : List Int} {z : Int} : SSum (absI d :: l) z ↔ SSum l (z - d) ∨ SSum l (z + d) := by
  show SSum l (z - absI d) ∨ SSum l (z + absI d) ↔ _
  unfold absI
  split
  · rw [show z - -d = z + d by omega, show z + -d = z - d by omega]
    exact or_comm
  · exact Iff.rfl
theorem dif_cons (a b : Int) (r : List Int) : dif (a :: b :: r) = absI (a - b) :: dif (b :: r) := rfl
theorem mem_sumsIn {fs : List Int} {x : Int} (h : fs ≠ []) : x ∈ sumsIn fs ↔ SSum (dif fs) x := by
  unfold sumsIn
  rw [if_neg h, mem_allSums]
  exact ssum_perm (srt_perm _) x
/-- the law of ink -/
theorem rch_sum {x : Int} : ∀ (r : List Int) (c p : Int), Rch (c :: r) p x ↔ ∃ s, SSum (dif (c :: r)) s ∧ (2 * x = (c :: r).getLastD 0 + s + (2 * p - c) ∨ 2 * x = (c :: r).getLastD 0 + s - (2 * p - c))
  | [], c, p => by
    show (x = p ∨ x = c - p) ↔ ∃ s, s = 0 ∧ (2 * x = c + s + (2 * p - c) ∨ 2 * x = c + s - (2 * p - c))
    constructor
    · intro h
      exact ⟨0, rfl, by omega⟩
    · rintro ⟨s, rfl, h⟩
      omega
  | b :: r, c, p => by
    have ih := rch_sum (x := x) r b
    have e : (c :: b :: r).getLastD 0 = (b :: r).getLastD 0 := rfl
    show (Rch (b :: r) p x ∨ Rch (b :: r) (c - p) x) ↔ _
    rw [ih, ih, dif_cons, e]
    constructor
    · rintro (⟨s, h, e | e⟩ | ⟨s, h, e | e⟩)
      · exact ⟨s + (c - b), ssum_abs.mpr (.inl (by rw [Int.add_sub_cancel]; exact h)), by omega⟩
      · exact ⟨s - (c - b), ssum_abs.mpr (.inr (by rw [Int.sub_add_cancel]; exact h)), by omega⟩
      · exact ⟨s + (c - b), ssum_abs.mpr (.inl (by rw [Int.add_sub_cancel]; exact h)), by omega⟩
      · exact ⟨s - (c - b), ssum_abs.mpr (.inr (by rw [Int.sub_add_cancel]; exact h)), by omega⟩
    · rintro ⟨s, h, e⟩
      rcases ssum_abs.mp h with h | h
      · rcases e with e | e
        · exact .inl ⟨_, h, by omega⟩
        · exact .inr ⟨_, h, by omega⟩
      · rcases e with e | e
        · exact .inr ⟨_, h, by omega⟩
        · exact .inl ⟨_, h, by omega⟩
/-- what sums are even with -/
theorem sum_even : ∀ (r : List Int) (c s : Int), SSum (dif (c :: r)) s → ∃ k, s = (c :: r).getLastD 0 - c + 2 * k
  | [], c, s, h => ⟨0, by
    have h : s = 0 := h
    show s = c - c + 2 * 0
    omega⟩
  | b :: r, c, s, h => by
    have e : (c :: b :: r).getLastD 0 = (b :: r).getLastD 0 := rfl
    rw [dif_cons] at h
    rw [e]
    rcases ssum_abs.mp h with h | h
    · obtain ⟨k, hk⟩ := sum_even r b _ h
      exact ⟨k + (c - b), by omega⟩
    · obtain ⟨k, hk⟩ := sum_even r b _ h
      exact ⟨k, by omega⟩
theorem ssum_neg : ∀ {l : List Int} {z : Int}, SSum l z → SSum l (-z)
  | [], z, h => by
    have h : z = 0 := h
    show -z = 0
    omega
  | s :: r, z, h => by
    rcases h with h | h
    · exact .inr (by rw [show -z + s = -(z - s) by omega]; exact ssum_neg h)
    · exact .inl (by rw [show -z - s = -(z + s) by omega]; exact ssum_neg h)
theorem sumS_length (f : List Int) (s : Int) : (sumS f s).length ≤ 2 * f.length := by
  have h := sdu_length ((f.map fun t => t + s) ++ f.map fun t => t - s)
  rw [List.length_append, List.length_map, List.length_map] at h
  show (sdu _).length ≤ _
  omega
theorem foldS_length : ∀ (ss f : List Int), (ss.foldl sumS f).length ≤ f.length * 2 ^ ss.length
  | [], f => by simp
  | s :: r, f => by
    have h := foldS_length r (sumS f s)
    have h2 := sumS_length f s
    show (r.foldl sumS (sumS f s)).length ≤ _
    rw [List.length_cons, Nat.pow_succ]
    have h3 : (sumS f s).length * 2 ^ r.length ≤ 2 * f.length * 2 ^ r.length := Nat.mul_le_mul_right _ h2
    have h4 : 2 * f.length * 2 ^ r.length = f.length * (2 ^ r.length * 2) := by rw [Nat.mul_comm 2 f.length, Nat.mul_assoc, Nat.mul_comm 2]
    omega
theorem allSums_length (ss : List Int) : (allSums ss).length ≤ 2 ^ ss.length := by
  have h := foldS_length ss [0]
  simpa [allSums] using h
theorem dif_length (fs : List Int) : (dif fs).length = fs.length - 1 := by
  unfold dif
  rw [List.length_map, List.length_zip, List.length_drop]
  omega
theorem stepsL_length (fs : List Int) : (stepsL fs).length = fs.length - 1 := by
  unfold stepsL
  rw [srt_length, dif_length]
theorem sumsIn_length (fs : List Int) : (sumsIn fs).length ≤ 2 ^ (fs.length - 1) := by
  unfold sumsIn
  split
  · simp
  · have h := allSums_length (stepsL fs)
    rw [stepsL_length] at h
    exact h
/-- a place's lot -/
theorem mem_ink1 {fs : List Int} (hf : fs ≠ []) {p x : Int} : x ∈ ink [p] fs ↔ ∃ s ∈ sumsIn fs, 2 * x = fs.getLastD 0 + s + (2 * p - fs.headD 0) ∨ 2 * x = fs.getLastD 0 + s - (2 * p - fs.headD 0) := by
  cases fs with
  | nil => exact absurd rfl hf
  | cons c r =>
    rw [mem_ink]
    constructor
    · rintro ⟨q, hq, h⟩
      rw [List.mem_singleton] at hq
      subst hq
      obtain ⟨s, h1, h2⟩ := (rch_sum r c q).mp h
      exact ⟨s, (mem_sumsIn hf).mpr h1, h2⟩
    · rintro ⟨s, h1, h2⟩
      exact ⟨p, List.mem_singleton.mpr rfl, (rch_sum r c p).mpr ⟨s, (mem_sumsIn hf).mp h1, h2⟩⟩
theorem sums_even {fs : List Int} (hf : fs ≠ []) {s : Int} (h : s ∈ sumsIn fs) : ∃ k, s = fs.getLastD 0 - fs.headD 0 + 2 * k := by
  cases fs with
  | nil => exact absurd rfl hf
  | cons c r => exact sum_even r c s ((mem_sumsIn hf).mp h)
theorem sums_neg {fs : List Int} {s : Int} (h : s ∈ sumsIn fs) : -s ∈ sumsIn fs := by
  cases fs with
  | nil => simp [sumsIn] at h
  | cons c r =>
    have hf : c :: r ≠ [] := by simp
    exact (mem_sumsIn hf).mpr (ssum_neg ((mem_sumsIn hf).mp h))
/-- alike rows ink alike -/
theorem ink_alike {fs gs : List Int} (hf : fs ≠ []) (hg : gs ≠ []) (h1 : fs.headD 0 = gs.headD 0) (h2 : fs.getLastD 0 = gs.getLastD 0) (h3 : sumsIn fs = sumsIn gs) (p : Int) : ink [p] fs = ink [p] gs := by
  refine lt_ext (ink_lt (by simp)) (ink_lt (by simp)) fun x => ?_
  rw [mem_ink1 hf, mem_ink1 hg, h1, h2, h3]
/-! ### greatest lots -/
def great (lot fs : List Int) : List Int := lot.filter fun p => (ink [p] fs).all fun x => decide (x ∈ lot)
theorem great_mem {lot fs : List Int} {p : Int} (h : p ∈ lot) : p ∈ great (ink lot fs) fs := by
  unfold great
  rw [List.mem_filter]
  refine ⟨ink_self h, List.all_eq_true.mpr fun x hx => decide_eq_true ?_⟩
  obtain ⟨q, hq, hr⟩ := mem_ink.mp hx
  rw [List.mem_singleton] at hq
  subst hq
  exact mem_ink.mpr ⟨q, h, hr⟩
theorem great_ink {lot fs : List Int} (hl : lot.Pairwise (· < ·)) : ink (great (ink lot fs) fs) fs = ink lot fs := by
  refine lt_ext (ink_lt ((ink_lt hl).filter _)) (ink_lt hl) fun x => ⟨fun h => ?_, fun h => ?_⟩
  · obtain ⟨p, hp, hr⟩ := mem_ink.mp h
    unfold great at hp
    rw [List.mem_filter] at hp
    exact of_decide_eq_true (List.all_eq_true.mp hp.2 x (mem_ink.mpr ⟨p, List.mem_singleton.mpr rfl, hr⟩))
  · obtain ⟨p, hp, hr⟩ := mem_ink.mp h
    exact mem_ink.mpr ⟨p, great_mem hp, hr⟩
/-! ### counting -/
theorem ins_len {x : Int} : ∀ {l : List Int}, l.Pairwise (· < ·) → (ins x l).length = l.length + if x ∈ l then 0 else 1
  | [], _ => by simp [ins]
  | y :: r, h => by
    obtain ⟨h1, h2⟩ := List.pairwise_cons.mp h
    unfold ins
    by_cases a : x < y
    · rw [if_pos a, if_neg (fun z => by
        rcases List.mem_cons.mp z with e | q
        · omega
        · have := h1 x q; omega)]
      simp
    · rw [if_neg a]
      by_cases b : x = y
      · subst b
        rw [if_pos rfl, if_pos List.mem_cons_self]
        rfl
      · rw [if_neg b, List.length_cons, ins_len h2, List.length_cons]
        have e : x ∈ y :: r ↔ x ∈ r := by
          rw [List.mem_cons]
          exact ⟨fun z => z.resolve_left b, .inr⟩
        by_cases q : x ∈ r
        · rw [if_pos q, if_pos (e.mpr q)]
        · rw [if_neg q, if_neg (fun z => q (e.mp z))]
theorem sdu_len_iff : ∀ {l : List Int}, (sdu l).length = l.length ↔ l.Nodup
  | [] => by simp [sdu]
  | n :: ns => by
    have h : (sdu (n :: ns)).length = (sdu ns).length + if n ∈ ns then 0 else 1 := by
      show (ins n (sdu ns)).length = _
      rw [ins_len (sdu_lt ns)]
      simp only [mem_sdu]
    have h2 := sdu_length ns
    rw [h, List.nodup_cons, ← sdu_len_iff (l := ns), List.length_cons]
    by_cases q : n ∈ ns
    · rw [if_pos q]
      constructor
      · intro z; omega
      · rintro ⟨z, _⟩; exact absurd q z
    · rw [if_neg q]
      constructor
      · intro z; exact ⟨q, by omega⟩
      · rintro ⟨_, z⟩; omega
theorem nodup_lt {l : List Int} (h : l.Pairwise (· < ·)) : l.Nodup := h.imp fun h => by omega
end L2.K79

set_option linter.all false
namespace L2.K79
/-! ### usual counts -/
def hv (i : Int) : Int := i / 2
def oddW (fs : List Int) : List Int := sdu ((sumsIn fs).flatMap fun a => ((sumsIn fs).filter fun b => decide (b ≤ a)).map fun b => (a - b) / 2)
def dbl (fs : List Int) : List Int := ((oddW fs).map fun w => fs.headD 0 - w) ++ (oddW fs).map fun w => fs.headD 0 + w
def unus (fs : List Int) : List Int := sdu (((dbl fs).filter fun t => decide (t % 2 = 0)).map fun t => t / 2)
def way (fs : List Int) (p : Int) : Int := 2 * p - fs.headD 0
def dueL (fs : List Int) (p : Int) : List Int := ((sumsIn fs).map fun t => (fs.getLastD 0 + t + way fs p) / 2) ++ (sumsIn fs).map fun t => (fs.getLastD 0 + t - way fs p) / 2
theorem ink_due {fs : List Int} (hf : fs ≠ []) (p : Int) : ink [p] fs = sdu (dueL fs p) := by
  refine lt_ext (ink_lt (by simp)) (sdu_lt _) fun x => ?_
  rw [mem_ink1 hf, mem_sdu]
  unfold dueL way
  rw [List.mem_append, List.mem_map, List.mem_map]
  constructor
  · rintro ⟨s, h, e | e⟩
    · exact .inl ⟨s, h, by omega⟩
    · exact .inr ⟨s, h, by omega⟩
  · rintro (⟨s, h, e⟩ | ⟨s, h, e⟩)
    · obtain ⟨k, hk⟩ := sums_even hf h
      exact ⟨s, h, .inl (by omega)⟩
    · obtain ⟨k, hk⟩ := sums_even hf h
      exact ⟨s, h, .inr (by omega)⟩
theorem mem_oddW {fs : List Int} {w : Int} : w ∈ oddW fs ↔ ∃ a ∈ sumsIn fs, ∃ b ∈ sumsIn fs, b ≤ a ∧ (a - b) / 2 = w := by
  unfold oddW
  rw [mem_sdu, List.mem_flatMap]
  constructor
  · rintro ⟨a, ha, h⟩
    obtain ⟨b, hb, e⟩ := List.mem_map.mp h
    rw [List.mem_filter] at hb
    exact ⟨a, ha, b, hb.1, of_decide_eq_true hb.2, e⟩
  · rintro ⟨a, ha, b, hb, h, e⟩
    exact ⟨a, ha, List.mem_map.mpr ⟨b, List.mem_filter.mpr ⟨hb, decide_eq_true h⟩, e⟩⟩
theorem mem_unus {fs : List Int} {p : Int} : p ∈ unus fs ↔ ∃ w ∈ oddW fs, way fs p = w ∨ way fs p = -w := by
  unfold unus dbl way
  rw [mem_sdu, List.mem_map]
  constructor
  · rintro ⟨t, ht, e⟩
    rw [List.mem_filter, List.mem_append, List.mem_map, List.mem_map] at ht
    obtain ⟨h, h2⟩ := ht
    have h2 := of_decide_eq_true h2
    rcases h with ⟨w, hw, e2⟩ | ⟨w, hw, e2⟩
    · exact ⟨w, hw, by omega⟩
    · exact ⟨w, hw, by omega⟩
  · rintro ⟨w, hw, e | e⟩
    · exact ⟨2 * p, by rw [List.mem_filter, List.mem_append, List.mem_map, List.mem_map]; exact ⟨.inr ⟨w, hw, by omega⟩, by simp⟩, by omega⟩
    · exact ⟨2 * p, by rw [List.mem_filter, List.mem_append, List.mem_map, List.mem_map]; exact ⟨.inl ⟨w, hw, by omega⟩, by simp⟩, by omega⟩
theorem unus_lt (fs : List Int) : (unus fs).Pairwise (· < ·) := sdu_lt _
theorem sdu_self {l : List Int} (h : l.Pairwise (· < ·)) : sdu l = l := (sdu_eq h fun _ => Iff.rfl).symm
/-- the law of counts -/
theorem count_iff {fs : List Int} (hf : fs ≠ []) (p : Int) : (ink [p] fs).length = 2 * (sumsIn fs).length ↔ ¬ p ∈ unus fs := by
  have hl : (dueL fs p).length = 2 * (sumsIn fs).length := by
    unfold dueL
    rw [List.length_append, List.length_map, List.length_map]
    omega
  rw [ink_due hf, ← hl, sdu_len_iff, mem_unus]
  unfold dueL
  have nd := nodup_lt (sumsIn_lt fs)
  have n1 : ((sumsIn fs).map fun t => (fs.getLastD 0 + t + way fs p) / 2).Nodup := by
    refine (List.pairwise_map.mpr (List.Pairwise.imp_of_mem (R := fun a b => a ≠ b) (fun {a b} ha hb hab => ?_) nd))
    obtain ⟨k, hk⟩ := sums_even hf ha
    obtain ⟨j, hj⟩ := sums_even hf hb
    unfold way
    omega
  have n2 : ((sumsIn fs).map fun t => (fs.getLastD 0 + t - way fs p) / 2).Nodup := by
    refine (List.pairwise_map.mpr (List.Pairwise.imp_of_mem (R := fun a b => a ≠ b) (fun {a b} ha hb hab => ?_) nd))
    obtain ⟨k, hk⟩ := sums_even hf ha
    obtain ⟨j, hj⟩ := sums_even hf hb
    unfold way
    omega
  rw [List.nodup_append]
  constructor
  · rintro ⟨_, _, h⟩ ⟨w, hw, e⟩
    obtain ⟨a, ha, b, hb, hab, e2⟩ := mem_oddW.mp hw
    obtain ⟨k, hk⟩ := sums_even hf ha
    obtain ⟨j, hj⟩ := sums_even hf hb
    rcases e with e | e
    · exact h _ (List.mem_map.mpr ⟨b, hb, rfl⟩) _ (List.mem_map.mpr ⟨a, ha, rfl⟩) (by omega)
    · exact h _ (List.mem_map.mpr ⟨a, ha, rfl⟩) _ (List.mem_map.mpr ⟨b, hb, rfl⟩) (by omega)
  · intro h
    refine ⟨n1, n2, fun x hx y hy e => ?_⟩
    obtain ⟨a, ha, rfl⟩ := List.mem_map.mp hx
    obtain ⟨b, hb, rfl⟩ := List.mem_map.mp hy
    obtain ⟨k, hk⟩ := sums_even hf ha
    obtain ⟨j, hj⟩ := sums_even hf hb
    unfold way at e h
    rcases Int.le_total a b with hab | hab
    · exact h ⟨(b - a) / 2, mem_oddW.mpr ⟨b, hb, a, ha, hab, rfl⟩, by omega⟩
    · exact h ⟨(a - b) / 2, mem_oddW.mpr ⟨a, ha, b, hb, hab, rfl⟩, by omega⟩
/-! ### the law's own sums -/
def lawStep (f : List Int) (s : Int) : List Int := (f.map fun t => t + s) ++ f.map fun t => t - s
def lawSums (fs : List Int) : List Int := sdu ((stepsL fs).foldl lawStep (if fs ≠ [] then [0] else []))
theorem mem_lawStep {x : Int} : ∀ {ss f : List Int}, x ∈ ss.foldl lawStep f ↔ x ∈ ss.foldl sumS f
  | [], f => Iff.rfl
  | s :: r, f => by
    show x ∈ r.foldl lawStep (lawStep f s) ↔ x ∈ r.foldl sumS (sumS f s)
    rw [mem_lawStep (ss := r), mem_foldS, mem_foldS]
    have e : ∀ y, y ∈ lawStep f s ↔ y ∈ sumS f s := fun y => by unfold sumS; rw [mem_sdu]; rfl
    simp only [e]
theorem lawSums_eq (fs : List Int) : lawSums fs = sumsIn fs := by
  refine (sdu_eq (sumsIn_lt fs) fun z => ?_).symm
  rw [mem_lawStep]
  unfold sumsIn
  by_cases h : fs = []
  · subst h
    simp [stepsL, dif, srt]
  · rw [if_neg h, if_pos h]
    rfl
theorem lawStep_length : ∀ (ss f : List Int), (ss.foldl lawStep f).length = f.length * 2 ^ ss.length
  | [], f => by simp
  | s :: r, f => by
    show (r.foldl lawStep (lawStep f s)).length = _
    rw [lawStep_length r, List.length_cons, Nat.pow_succ]
    have e : (lawStep f s).length = 2 * f.length := by
      unfold lawStep
      rw [List.length_append, List.length_map, List.length_map]
      omega
    rw [e, Nat.mul_comm 2 f.length, Nat.mul_assoc, Nat.mul_comm 2]
theorem absI_comm (a b : Int) : absI (a - b) = absI (b - a) := by
  unfold absI
  split <;> split <;> omega
theorem dif_range : ∀ fs : List Int, ((List.range (fs.length - 1)).map fun i => absI (fs.getD (i + 1) 0 - fs.getD i 0)) = dif fs
  | [] => rfl
  | [a] => rfl
  | a :: b :: r => by
    have ih := dif_range (b :: r)
    rw [dif_cons]
    have e : (a :: b :: r).length - 1 = ((b :: r).length - 1) + 1 := by simp
    rw [e, List.range_succ_eq_map, List.map_cons, List.map_map]
    congr 1
    · show absI (b - a) = _
      exact absI_comm _ _
/-! ### alike -/
def alikeB (fs gs : List Int) : Bool := if fs = [] ∨ gs = [] then decide (fs = gs) else decide (fs.headD 0 = gs.headD 0 ∧ fs.getLastD 0 = gs.getLastD 0) && decide (sumsIn fs = sumsIn gs)
def dueB (fs gs : List Int) : Bool := decide (lawSums fs = lawSums gs) && (decide (fs.take 1 = gs.take 1) && decide (fs.drop (fs.length - 1) = gs.drop (gs.length - 1)))
theorem drop_last : ∀ {fs : List Int}, fs ≠ [] → fs.drop (fs.length - 1) = [fs.getLastD 0]
  | [], h => absurd rfl h
  | [a], _ => rfl
  | a :: b :: r, _ => drop_last (fs := b :: r) (by simp)
theorem take_head {fs : List Int} (h : fs ≠ []) : fs.take 1 = [fs.headD 0] := by
  cases fs with
  | nil => exact absurd rfl h
  | cons a r => rfl
theorem sums_ne {fs : List Int} (h : fs ≠ []) : sumsIn fs ≠ [] := by
  cases fs with
  | nil => exact absurd rfl h
  | cons c r =>
    intro z
    have h1 := ink_self (ns := [c]) (fs := c :: r) (p := c) (by simp)
    obtain ⟨s, hs, _⟩ := (mem_ink1 h).mp h1
    rw [z] at hs
    cases hs
theorem alike_due (fs gs : List Int) : alikeB fs gs = dueB fs gs := by
  unfold alikeB dueB
  rw [lawSums_eq, lawSums_eq]
  by_cases hf : fs = []
  · rw [if_pos (.inl hf)]
    subst hf
    by_cases hg : gs = []
    · subst hg; rfl
    · have : ¬ ([] : List Int) = gs := fun z => hg z.symm
      have h2 : ¬ sumsIn [] = sumsIn gs := fun z => sums_ne hg z.symm
      rw [decide_eq_false this, decide_eq_false h2]
      rfl
  · by_cases hg : gs = []
    · rw [if_pos (.inr hg)]
      subst hg
      have h2 : ¬ sumsIn fs = sumsIn [] := fun z => sums_ne hf z
      rw [decide_eq_false hf, decide_eq_false h2]
      rfl
    · rw [if_neg (fun z => z.elim hf hg), drop_last hf, drop_last hg, take_head hf, take_head hg]
      have e : ∀ {P Q R : Prop} [Decidable P] [Decidable Q] [Decidable R], (decide (P ∧ Q) && decide R) = (decide R && (decide P && decide Q)) := by
        intro P Q R _ _ _
        by_cases P <;> by_cases Q <;> by_cases R <;> simp_all
      rw [e]
      simp only [List.cons.injEq, and_true]
theorem alike_ink {fs gs : List Int} (h : alikeB fs gs = true) (p : Int) : ink [p] fs = ink [p] gs := by
  unfold alikeB at h
  by_cases hc : fs = [] ∨ gs = []
  · rw [if_pos hc] at h
    rw [of_decide_eq_true h]
  · rw [if_neg hc, Bool.and_eq_true] at h
    have h1 := of_decide_eq_true h.1
    have h2 := of_decide_eq_true h.2
    exact ink_alike (fun z => hc (.inl z)) (fun z => hc (.inr z)) h1.1 h1.2 h2 p
def oneB (fs gs : List Int) : Bool := if fs = [] ∨ gs = [] then decide (fs = gs) else decide (fs.headD 0 = gs.headD 0 ∧ fs.getLastD 0 = gs.getLastD 0 ∧ stepsL fs = stepsL gs)
theorem one_alike {fs gs : List Int} (h : oneB fs gs = true) : alikeB fs gs = true := by
  unfold oneB at h
  unfold alikeB
  by_cases hc : fs = [] ∨ gs = []
  · rw [if_pos hc] at h ⊢
    exact h
  · rw [if_neg hc] at h ⊢
    obtain ⟨h1, h2, h3⟩ := of_decide_eq_true h
    rw [Bool.and_eq_true]
    refine ⟨decide_eq_true ⟨h1, h2⟩, decide_eq_true ?_⟩
    unfold sumsIn
    rw [if_neg (fun z => hc (.inl z)), if_neg (fun z => hc (.inr z)), h3]
/-! ### holes -/
def holes (l : List Int) : List (Int × Int) := ((l.zip (l.drop 1)).filter fun p => decide (1 < p.2 - p.1)).map fun p => (p.1 + 1, p.2 - 1)
end L2.K79

set_option linter.all false
namespace L2.K79
/-! ### fewest folds -/
def grow (r : List Int) (s : Int) : List Int := sdu (r ++ r.map fun x => x + s)
def Pts (ss : List Int) : List Int := ss.foldl grow [0]
def PSum : List Int → Int → Prop
  | [], x => x = 0
  | s :: r, x => PSum r x ∨ PSum r (x - s)
def tot : List Int → Int
  | [] => 0
  | s :: r => s + tot r
theorem mem_grow {r : List Int} {s x : Int} : x ∈ grow r s ↔ x ∈ r ∨ x - s ∈ r := by
  unfold grow
  rw [mem_sdu, List.mem_append, List.mem_map]
  constructor
  · rintro (h | ⟨y, h, rfl⟩)
    · exact .inl h
    · exact .inr (by rw [Int.add_sub_cancel]; exact h)
  · rintro (h | h)
    · exact .inl h
    · exact .inr ⟨_, h, by omega⟩
theorem mem_foldG {x : Int} : ∀ {ss f : List Int}, x ∈ ss.foldl grow f ↔ ∃ y ∈ f, PSum ss (x - y)
  | [], f => by
    show x ∈ f ↔ _
    constructor
    · intro h
      exact ⟨x, h, by show x - x = 0; omega⟩
    · rintro ⟨y, h, e⟩
      have e : x - y = 0 := e
      have : x = y := by omega
      rw [this]; exact h
  | s :: r, f => by
    show x ∈ r.foldl grow (grow f s) ↔ _
    rw [mem_foldG (ss := r)]
    constructor
    · rintro ⟨y, h, e⟩
      rcases mem_grow.mp h with h | h
      · exact ⟨y, h, .inl e⟩
      · exact ⟨_, h, .inr (by rw [show x - (y - s) - s = x - y by omega]; exact e)⟩
    · rintro ⟨y, h, e | e⟩
      · exact ⟨y, mem_grow.mpr (.inl h), e⟩
      · exact ⟨y + s, mem_grow.mpr (.inr (by rw [Int.add_sub_cancel]; exact h)), by rw [show x - (y + s) = x - y - s by omega]; exact e⟩
theorem mem_PS {x : Int} {ss : List Int} : x ∈ Pts ss ↔ PSum ss x := by
  unfold Pts
  rw [mem_foldG]
  constructor
  · rintro ⟨y, h, e⟩
    rw [List.mem_singleton] at h
    subst h
    rw [Int.sub_zero] at e
    exact e
  · intro h
    exact ⟨0, List.mem_singleton.mpr rfl, by rw [Int.sub_zero]; exact h⟩
theorem foldG_lt : ∀ {ss f : List Int}, f.Pairwise (· < ·) → (ss.foldl grow f).Pairwise (· < ·)
  | [], f, h => h
  | s :: r, f, _ => foldG_lt (ss := r) (sdu_lt _)
theorem PS_lt (ss : List Int) : (Pts ss).Pairwise (· < ·) := foldG_lt (by simp)
theorem grow_length (r : List Int) (s : Int) : (grow r s).length ≤ 2 * r.length := by
  have h := sdu_length (r ++ r.map fun x => x + s)
  rw [List.length_append, List.length_map] at h
  show (sdu _).length ≤ _
  omega
theorem foldG_length : ∀ (ss f : List Int), (ss.foldl grow f).length ≤ f.length * 2 ^ ss.length
  | [], f => by simp
  | s :: r, f => by
    have h := foldG_length r (grow f s)
    have h2 := grow_length f s
    show (r.foldl grow (grow f s)).length ≤ _
    rw [List.length_cons, Nat.pow_succ]
    have h3 : (grow f s).length * 2 ^ r.length ≤ 2 * f.length * 2 ^ r.length := Nat.mul_le_mul_right _ h2
    have h4 : 2 * f.length * 2 ^ r.length = f.length * (2 ^ r.length * 2) := by rw [Nat.mul_comm 2 f.length, Nat.mul_assoc, Nat.mul_comm 2]
    omega
theorem psum_tot : ∀ ss : List Int, PSum ss (tot ss)
  | [] => rfl
  | s :: r => .inr (by rw [show tot (s :: r) - s = tot r by show s + tot r - s = _; omega]; exact psum_tot r)
theorem psum_zero : ∀ ss : List Int, PSum ss 0
  | [] => rfl
  | s :: r => .inl (psum_zero r)
theorem tot_nn : ∀ {ss : List Int}, (∀ s ∈ ss, 0 ≤ s) → 0 ≤ tot ss
  | [], _ => Int.le_refl 0
  | s :: r, h => by
    have h1 := h s List.mem_cons_self
    have h2 := tot_nn (ss := r) fun z hz => h z (List.mem_cons_of_mem _ hz)
    show 0 ≤ s + tot r
    omega
theorem psum_le : ∀ {ss : List Int} {x : Int}, (∀ s ∈ ss, 0 ≤ s) → PSum ss x → 0 ≤ x ∧ x ≤ tot ss
  | [], x, _, h => by
    have h : x = 0 := h
    subst h
    exact ⟨Int.le_refl _, Int.le_refl _⟩
  | s :: r, x, hs, h => by
    have h1 := hs s List.mem_cons_self
    have hr : ∀ z ∈ r, 0 ≤ z := fun z hz => hs z (List.mem_cons_of_mem _ hz)
    show 0 ≤ x ∧ x ≤ s + tot r
    rcases h with h | h
    · have := psum_le hr h; omega
    · have := psum_le hr h; omega
theorem psum_append : ∀ {l m : List Int} {x : Int}, PSum (l ++ m) x ↔ ∃ y, PSum l y ∧ PSum m (x - y)
  | [], m, x => by
    constructor
    · intro h; exact ⟨0, rfl, by rw [Int.sub_zero]; exact h⟩
    · rintro ⟨y, e, h⟩
      have e : y = 0 := e
      subst e
      rw [Int.sub_zero] at h
      exact h
  | s :: r, m, x => by
    show (PSum (r ++ m) x ∨ PSum (r ++ m) (x - s)) ↔ _
    rw [psum_append, psum_append]
    constructor
    · rintro (⟨y, h1, h2⟩ | ⟨y, h1, h2⟩)
      · exact ⟨y, .inl h1, h2⟩
      · exact ⟨y + s, .inr (by rw [Int.add_sub_cancel]; exact h1), by rw [show x - (y + s) = x - s - y by omega]; exact h2⟩
    · rintro ⟨y, h1 | h1, h2⟩
      · exact .inl ⟨y, h1, h2⟩
      · exact .inr ⟨y - s, h1, by rw [show x - s - (y - s) = x - y by omega]; exact h2⟩
theorem tot_append : ∀ l m : List Int, tot (l ++ m) = tot l + tot m
  | [], m => by show tot m = 0 + tot m; omega
  | s :: r, m => by
    have := tot_append r m
    show s + tot (r ++ m) = s + tot r + tot m
    omega
/-- a rising list's last is its greatest -/
theorem last_max : ∀ {l : List Int} {m : Int}, l.Pairwise (· < ·) → m ∈ l → (∀ x ∈ l, x ≤ m) → l.getLastD 0 = m
  | [a], m, _, h, _ => (List.mem_singleton.mp h).symm
  | a :: b :: r, m, hl, h, hx => by
    obtain ⟨h1, h2⟩ := List.pairwise_cons.mp hl
    show (b :: r).getLastD 0 = m
    rcases List.mem_cons.mp h with e | h
    · have := h1 b List.mem_cons_self
      have := hx b (List.mem_cons_of_mem _ List.mem_cons_self)
      omega
    · exact last_max h2 h fun x hx' => hx x (List.mem_cons_of_mem _ hx')
theorem last_PS {ss : List Int} (h : ∀ s ∈ ss, 0 ≤ s) : (Pts ss).getLastD 0 = tot ss :=
  last_max (PS_lt ss) (mem_PS.mpr (psum_tot ss)) fun x hx => (psum_le h (mem_PS.mp hx)).2
/-! signed sums and part sums -/
theorem ssum_psum : ∀ {l : List Int} {x : Int}, SSum l (2 * x - tot l) ↔ PSum l x
  | [], x => by
    show 2 * x - 0 = 0 ↔ x = 0
    omega
  | s :: r, x => by
    show (SSum r (2 * x - (s + tot r) - s) ∨ SSum r (2 * x - (s + tot r) + s)) ↔ (PSum r x ∨ PSum r (x - s))
    rw [show 2 * x - (s + tot r) - s = 2 * (x - s) - tot r by omega, show 2 * x - (s + tot r) + s = 2 * x - tot r by omega, ssum_psum, ssum_psum]
    exact or_comm
theorem ssum_even : ∀ {l : List Int} {z : Int}, SSum l z → ∃ x, z = 2 * x - tot l
  | [], z, h => ⟨0, by
    have h : z = 0 := h
    show z = 2 * 0 - 0
    omega⟩
  | s :: r, z, h => by
    rcases h with h | h
    · obtain ⟨x, e⟩ := ssum_even h
      exact ⟨x + s, by show z = 2 * (x + s) - (s + tot r); omega⟩
    · obtain ⟨x, e⟩ := ssum_even h
      exact ⟨x, by show z = 2 * x - (s + tot r); omega⟩
theorem psum_filter : ∀ {l : List Int} {x : Int}, PSum (l.filter fun s => decide (s ≠ 0)) x ↔ PSum l x
  | [], x => Iff.rfl
  | s :: r, x => by
    by_cases h : s = 0
    · subst h
      rw [List.filter_cons_of_neg (by simp), psum_filter]
      show _ ↔ (PSum r x ∨ PSum r (x - 0))
      rw [Int.sub_zero, or_self]
    · rw [List.filter_cons_of_pos (by simpa using h)]
      exact or_congr psum_filter psum_filter
def goal (fs : List Int) : List Int := (sumsIn fs).map fun t => (t + (sumsIn fs).getLastD 0) / 2
def nzs (fs : List Int) : List Int := (stepsL fs).filter fun s => decide (s ≠ 0)
theorem absI_nn (i : Int) : 0 ≤ absI i := by
  unfold absI
  split <;> omega
theorem steps_nn {fs : List Int} : ∀ s ∈ stepsL fs, 0 ≤ s := fun s h => by
  have h := mem_srt.mp h
  obtain ⟨p, _, rfl⟩ := List.mem_map.mp h
  exact absI_nn _
theorem nzs_pos {fs : List Int} : ∀ s ∈ nzs fs, 1 ≤ s := fun s h => by
  obtain ⟨h1, h2⟩ := List.mem_filter.mp h
  have h2 : s ≠ 0 := of_decide_eq_true h2
  have := steps_nn s h1
  omega
theorem nzs_le (fs : List Int) : (nzs fs).Pairwise (· ≤ ·) := (srt_le _).filter _
theorem nzs_length (fs : List Int) : (nzs fs).length ≤ fs.length - 1 := by
  have h := List.length_filter_le (fun s => decide (s ≠ 0)) (stepsL fs)
  rw [stepsL_length] at h
  exact h
theorem goal_eq {fs : List Int} (hf : fs ≠ []) : goal fs = Pts (nzs fs) := by
  have hm : ∀ x, x ∈ sumsIn fs ↔ SSum (stepsL fs) x := fun x => by
    unfold sumsIn
    rw [if_neg hf, mem_allSums]
  have hl : (sumsIn fs).getLastD 0 = tot (stepsL fs) := by
    refine last_max (sumsIn_lt fs) ?_ fun x hx => ?_
    · rw [hm, show tot (stepsL fs) = 2 * tot (stepsL fs) - tot (stepsL fs) by omega, ssum_psum]
      exact psum_tot _
    · obtain ⟨y, e⟩ := ssum_even ((hm x).mp hx)
      have h := (hm x).mp hx
      rw [e, ssum_psum] at h
      have := psum_le steps_nn h
      omega
  refine lt_ext ?_ (PS_lt _) fun x => ?_
  · unfold goal
    refine List.pairwise_map.mpr (List.Pairwise.imp_of_mem (R := fun a b => a < b) (fun {a b} ha hb hab => ?_) (sumsIn_lt fs))
    rw [hl]
    obtain ⟨y, e⟩ := ssum_even ((hm a).mp ha)
    obtain ⟨z, e'⟩ := ssum_even ((hm b).mp hb)
    omega
  · unfold goal nzs
    rw [mem_PS, psum_filter, ← ssum_psum, ← hm, List.mem_map, hl]
    constructor
    · rintro ⟨t, ht, rfl⟩
      obtain ⟨y, e⟩ := ssum_even ((hm t).mp ht)
      rw [show 2 * ((t + tot (stepsL fs)) / 2) - tot (stepsL fs) = t by omega]
      exact ht
    · intro h
      exact ⟨_, h, by omega⟩
/-! the search -/
def miss (g r : List Int) : List Int := g.filter fun x => !decide (x ∈ r)
def canR (g r : List Int) (m : Nat) : Bool := decide (g.length ≤ r.length * 2 ^ m)
def candT (g r : List Int) (last : Int) (m : Nat) (s : Int) : Bool := (decide (last ≤ s) && decide (s ≤ (miss g r).headD 0)) && (if m = 1 then decide (s = g.getLastD 0 - r.getLastD 0) else decide (s ≤ g.getLastD 0 - r.getLastD 0))
def cand (g r : List Int) (last : Int) (m : Nat) : List Int := g.filter (candT g r last m)
def behindS (g r : List Int) (last : Int) (m : Nat) : List Int := if (decide (miss g r = []) || (decide (m = 0) || !canR g r m)) = true then [] else (cand g r last m).filter fun s => r.all fun x => decide (x + s ∈ g)
def lastS (ss : List Int) : Int := if ss ≠ [] then ss.getLastD 0 else 1
abbrev LP := List Int × List Int
def longer (g : List Int) (m : Nat) (p : LP) : List LP := (behindS g p.2 (lastS p.1) m).map fun s => (p.1 ++ [s], grow p.2 s)
def lineN (g : List Int) (many : Nat) : Nat → List LP
  | 0 => [([], [0])]
  | t + 1 => (lineN g many t).flatMap (longer g (many - t))
def tuplesOf (g : List Int) (many : Nat) : List (List Int) := ((lineN g many many).filter fun p => decide (p.2 = g)).map fun p => p.1
theorem behind_length (g r : List Int) (last : Int) (m : Nat) : (behindS g r last m).length ≤ g.length := by
  unfold behindS
  split
  · simp
  · exact Nat.le_trans (List.length_filter_le _ _) (List.length_filter_le _ _)
theorem flatMap_length_le {α β : Type} {f : α → List β} {k : Nat} : ∀ {l : List α}, (∀ x ∈ l, (f x).length ≤ k) → (l.flatMap f).length ≤ l.length * k
  | [], _ => by simp
  | x :: r, h => by
    rw [List.flatMap_cons, List.length_append, List.length_cons, Nat.succ_mul]
    have h1 := h x List.mem_cons_self
    have h2 := flatMap_length_le (l := r) fun z hz => h z (List.mem_cons_of_mem _ hz)
    omega
theorem line_length (g : List Int) (many : Nat) : ∀ t, (lineN g many t).length ≤ g.length ^ t
  | 0 => by simp [lineN]
  | t + 1 => by
    have h := flatMap_length_le (f := longer g (many - t)) (k := g.length) (l := lineN g many t) fun p _ => by
      unfold longer
      rw [List.length_map]
      exact behind_length _ _ _ _
    rw [Nat.pow_succ]
    exact Nat.le_trans h (Nat.mul_le_mul_right _ (line_length g many t))
theorem line_steps (g : List Int) (many : Nat) : ∀ t, ∀ p ∈ lineN g many t, p.1.length = t ∧ p.2.length ≤ 2 ^ t ∧ p.2 ≠ []
  | 0, p, h => by
    have e : p = ([], [0]) := List.mem_singleton.mp h
    subst e
    exact ⟨rfl, Nat.le_refl _, by simp⟩
  | t + 1, p, h => by
    obtain ⟨q, hq, h⟩ := List.mem_flatMap.mp h
    obtain ⟨s, _, rfl⟩ := List.mem_map.mp h
    obtain ⟨h1, h2, h3⟩ := line_steps g many t q hq
    refine ⟨by rw [List.length_append, h1]; rfl, ?_, fun z => ?_⟩
    · have := grow_length q.2 s
      rw [Nat.pow_succ]
      show (grow q.2 s).length ≤ _
      omega
    · obtain ⟨a, ha⟩ := List.exists_mem_of_ne_nil _ h3
      have h5 : a ∈ grow q.2 s := mem_grow.mpr (.inl ha)
      have z : grow q.2 s = [] := z
      rw [z] at h5
      cases h5
theorem tuples_steps {g : List Int} {many : Nat} : ∀ ss ∈ tuplesOf g many, ss.length = many := fun ss h => by
  obtain ⟨p, hp, rfl⟩ := List.mem_map.mp h
  exact (line_steps g many many p (List.mem_filter.mp hp).1).1
theorem psum_take {ss : List Int} {x : Int} (t : Nat) (h : PSum (ss.take t) x) : PSum ss x := by
  rw [← List.take_append_drop t ss, psum_append]
  exact ⟨x, h, by rw [Int.sub_self]; exact psum_zero _⟩
theorem PS_snoc (l : List Int) (s : Int) : Pts (l ++ [s]) = grow (Pts l) s := by
  unfold Pts
  rw [List.foldl_append]
  rfl
theorem psum_least : ∀ {m : List Int} {s x : Int}, (∀ z ∈ m, s ≤ z ∧ 0 ≤ z) → PSum m x → x = 0 ∨ s ≤ x
  | [], s, x, _, h => .inl h
  | z :: r, s, x, hs, h => by
    have h1 := hs z List.mem_cons_self
    have hr : ∀ z ∈ r, s ≤ z ∧ 0 ≤ z := fun z hz => hs z (List.mem_cons_of_mem _ hz)
    rcases h with h | h
    · exact psum_least hr h
    · have := (psum_le (fun z hz => (hr z hz).2) h).1
      exact .inr (by omega)
theorem line_has {ss : List Int} (hp : ∀ s ∈ ss, 1 ≤ s) (hs : ss.Pairwise (· ≤ ·)) {g : List Int} {j : Nat} (hj : j ≤ ss.length) (hg : Pts (ss.take j) = g) (hmin : ∀ t, t < j → Pts (ss.take t) ≠ g) : ∀ t, t ≤ j → (ss.take t, Pts (ss.take t)) ∈ lineN g j t
  | 0, _ => by
    rw [List.take_zero]
    exact List.mem_singleton.mpr rfl
  | t + 1, ht => by
    have hlt : t < ss.length := by omega
    have htk : ss.take (t + 1) = ss.take t ++ [ss[t]] := by
      rw [List.take_add_one, List.getElem?_eq_getElem hlt]; rfl
    have ih := line_has hp hs hj hg hmin t (by omega)
    refine List.mem_flatMap.mpr ⟨_, ih, List.mem_map.mpr ⟨ss[t], ?_, by rw [htk, PS_snoc]⟩⟩
    have hpt : ∀ k, ∀ s ∈ ss.take k, 0 ≤ s := fun k s h => by
      have := hp s (List.mem_of_mem_take h)
      omega
    have hsub : ∀ x, x ∈ Pts (ss.take t) → x ∈ g := fun x hx => by
      rw [← hg, mem_PS]
      have h := mem_PS.mp hx
      have e : ss.take t = (ss.take j).take t := by rw [List.take_take]; congr 1; omega
      rw [e] at h
      exact psum_take t h
    have hsub1 : ∀ x, x ∈ Pts (ss.take (t + 1)) → x ∈ g := fun x hx => by
      rw [← hg, mem_PS]
      have h := mem_PS.mp hx
      have e : ss.take (t + 1) = (ss.take j).take (t + 1) := by rw [List.take_take]; congr 1; omega
      rw [e] at h
      exact psum_take (t + 1) h
    have hgs : g.Pairwise (· < ·) := hg ▸ PS_lt _
    have hmiss : miss g (Pts (ss.take t)) ≠ [] := fun e => by
      refine hmin t (by omega) (lt_ext (PS_lt _) hgs fun x => ⟨hsub x, fun hx => ?_⟩)
      by_cases q : x ∈ Pts (ss.take t)
      · exact q
      · have : x ∈ miss g (Pts (ss.take t)) := List.mem_filter.mpr ⟨hx, by simpa using q⟩
        rw [e] at this
        cases this
    have hdec : ss.take j = ss.take t ++ (ss.take j).drop t := by
      have e : ss.take t = (ss.take j).take t := by rw [List.take_take]; congr 1; omega
      rw [e, List.take_append_drop]
    have hdr : (ss.take j).drop t = ss[t] :: (ss.take j).drop (t + 1) := by
      rw [List.drop_eq_getElem_cons (by rw [List.length_take]; omega)]
      congr 1
      rw [List.getElem_take]
    have hrest : g.getLastD 0 - (Pts (ss.take t)).getLastD 0 = ss[t] + tot ((ss.take j).drop (t + 1)) := by
      rw [← hg, last_PS (hpt j), last_PS (hpt t)]
      have e := congrArg tot hdec
      rw [tot_append, hdr] at e
      have e2 : tot (ss[t] :: (ss.take j).drop (t + 1)) = ss[t] + tot ((ss.take j).drop (t + 1)) := rfl
      omega
    have hge : ∀ z ∈ (ss.take j).drop t, ss[t] ≤ z := fun z hz => by
      rw [hdr] at hz
      rcases List.mem_cons.mp hz with e | hz
      · omega
      · have h2 : (ss.take j).drop t = ss[t] :: (ss.take j).drop (t + 1) := hdr
        have h3 : ((ss.take j).drop t).Pairwise (· ≤ ·) := List.Pairwise.sublist ((List.drop_sublist _ _).trans (List.take_sublist _ _)) hs
        rw [h2] at h3
        exact (List.pairwise_cons.mp h3).1 z hz
    have hnn : 0 ≤ tot ((ss.take j).drop (t + 1)) := tot_nn fun s h => hpt j s (List.mem_of_mem_drop h)
    unfold behindS
    rw [if_neg ?_]
    · refine List.mem_filter.mpr ⟨List.mem_filter.mpr ⟨?_, ?_⟩, ?_⟩
      · refine hsub1 _ (mem_PS.mpr ?_)
        rw [htk, psum_append]
        exact ⟨0, psum_zero _, .inr (by
          show ss[t] - 0 - ss[t] = 0
          omega)⟩
      · unfold candT
        rw [Bool.and_eq_true, Bool.and_eq_true]
        refine ⟨⟨decide_eq_true ?_, decide_eq_true ?_⟩, ?_⟩
        · show lastS (ss.take t) ≤ ss[t]
          unfold lastS
          split
          · rename_i hne
            have hl := List.getLastD_eq_getLast? (a := 0) (l := ss.take t)
            obtain ⟨y, hy⟩ : ∃ y, (ss.take t).getLast? = some y := by
              cases q : (ss.take t).getLast? with
              | none => exact absurd (List.getLast?_eq_none_iff.mp q) hne
              | some y => exact ⟨y, rfl⟩
            rw [hl, hy]
            show y ≤ ss[t]
            have hm := List.mem_of_getLast? hy
            have h4 : ss = ss.take t ++ ss.drop t := (List.take_append_drop t ss).symm
            rw [h4] at hs
            exact (List.pairwise_append.mp hs).2.2 y hm ss[t] (by rw [List.drop_eq_getElem_cons hlt]; exact List.mem_cons_self)
          · exact hp _ (List.getElem_mem hlt)
        · show ss[t] ≤ (miss g (Pts (ss.take t))).headD 0
          cases q : miss g (Pts (ss.take t)) with
          | nil => exact absurd q hmiss
          | cons a r =>
            show ss[t] ≤ a
            have ha : a ∈ miss g (Pts (ss.take t)) := by rw [q]; exact List.mem_cons_self
            obtain ⟨h1, h2⟩ := List.mem_filter.mp ha
            have h2 : ¬ a ∈ Pts (ss.take t) := by simpa using h2
            rw [← hg, mem_PS, hdec, psum_append] at h1
            obtain ⟨y, hy1, hy2⟩ := h1
            have hy0 := (psum_le (hpt t) hy1).1
            rcases psum_least (s := ss[t]) (fun z hz => ⟨hge z hz, hpt j z (List.mem_of_mem_drop hz)⟩) hy2 with e | e
            · have : a = y := by omega
              subst this
              exact absurd (mem_PS.mpr hy1) h2
            · omega
        · split
          · rename_i h1
            refine decide_eq_true ?_
            show ss[t] = g.getLastD 0 - (Pts (ss.take t)).getLastD 0
            rw [hrest]
            have e : (ss.take j).drop (t + 1) = [] := List.drop_eq_nil_of_le (by rw [List.length_take]; omega)
            rw [e]
            show ss[t] = ss[t] + 0
            omega
          · refine decide_eq_true ?_
            show ss[t] ≤ g.getLastD 0 - (Pts (ss.take t)).getLastD 0
            omega
      · refine List.all_eq_true.mpr fun x hx => decide_eq_true (hsub1 _ (mem_PS.mpr ?_))
        rw [htk, psum_append]
        exact ⟨x, mem_PS.mp hx, .inr (by
          show x + ss[t] - x - ss[t] = 0
          omega)⟩
    · intro z
      rw [Bool.or_eq_true, Bool.or_eq_true, decide_eq_true_iff, decide_eq_true_iff] at z
      rcases z with z | z | z
      · exact hmiss z
      · omega
      · have hc : canR g (Pts (ss.take t)) (j - t) = true := by
          refine decide_eq_true ?_
          have h := foldG_length ((ss.take j).drop t) (Pts (ss.take t))
          have e : ((ss.take j).drop t).foldl grow (Pts (ss.take t)) = g := by
            unfold Pts
            rw [← List.foldl_append, ← hdec]
            exact hg
          rw [e, List.length_drop, List.length_take] at h
          have e3 : min j ss.length - t = j - t := by omega
          rw [e3] at h
          exact h
        rw [hc] at z
        cases z
/-- the search finds something -/
theorem fewest_has {fs : List Int} (hf : fs ≠ []) : ∃ m, m + 1 ≤ fs.length ∧ tuplesOf (goal fs) m ≠ [] ∧ ∀ i, i < m → tuplesOf (goal fs) i = [] := by
  have h1 : ∃ j, j ≤ (nzs fs).length ∧ Pts ((nzs fs).take j) = goal fs ∧ ∀ t, t < j → Pts ((nzs fs).take t) ≠ goal fs := by
    have key : ∀ n, Pts ((nzs fs).take n) = goal fs → ∃ j, j ≤ n ∧ Pts ((nzs fs).take j) = goal fs ∧ ∀ t, t < j → Pts ((nzs fs).take t) ≠ goal fs := by
      intro n
      induction n using Nat.strongRecOn with
      | ind n ih =>
        intro h
        by_cases q : ∃ t, t < n ∧ Pts ((nzs fs).take t) = goal fs
        · obtain ⟨t, ht, e⟩ := q
          obtain ⟨j, hj, r⟩ := ih t ht e
          exact ⟨j, by omega, r⟩
        · exact ⟨n, Nat.le_refl _, h, fun t ht e => q ⟨t, ht, e⟩⟩
    obtain ⟨j, hj, r⟩ := key (nzs fs).length (by rw [List.take_length, goal_eq hf])
    exact ⟨j, hj, r⟩
  obtain ⟨j, hj, e, hmin⟩ := h1
  have hne : tuplesOf (goal fs) j ≠ [] := fun z => by
    have h := line_has (fun s hs => nzs_pos s hs) (nzs_le fs) hj e hmin j (Nat.le_refl _)
    have h2 : (nzs fs).take j ∈ tuplesOf (goal fs) j := List.mem_map.mpr ⟨_, List.mem_filter.mpr ⟨h, decide_eq_true e⟩, rfl⟩
    rw [z] at h2
    cases h2
  have key : ∀ n, tuplesOf (goal fs) n ≠ [] → ∃ m, m ≤ n ∧ tuplesOf (goal fs) m ≠ [] ∧ ∀ i, i < m → tuplesOf (goal fs) i = [] := by
    intro n
    induction n using Nat.strongRecOn with
    | ind n ih =>
      intro h
      by_cases q : ∃ t, t < n ∧ tuplesOf (goal fs) t ≠ []
      · obtain ⟨t, ht, e⟩ := q
        obtain ⟨j, hj, r⟩ := ih t ht e
        exact ⟨j, by omega, r⟩
      · refine ⟨n, Nat.le_refl _, h, fun t ht => ?_⟩
        by_cases e : tuplesOf (goal fs) t = []
        · exact e
        · exact absurd ⟨t, ht, e⟩ q
  obtain ⟨m, hm, r⟩ := key j hne
  have := nzs_length fs
  have : fs.length ≠ 0 := fun z => hf (List.length_eq_zero_iff.mp z)
  exact ⟨m, by omega, r⟩
theorem goal_length (fs : List Int) : (goal fs).length ≤ 2 ^ (fs.length - 1) := by
  unfold goal
  rw [List.length_map]
  exact sumsIn_length fs
end L2.K79

set_option linter.all false
namespace L2.K79
/-! ### strips -/
abbrev Sp2 := List (Int × Int)
def pl (s : Sp2) : List Int := s.map (·.1)
def addS (s o : Sp2) : Sp2 := zstrip (zmerge (zmerge [] (zmerge [] s)) (zmerge [] (o.map fun p => (p.1, (zget (zmerge [] s) p.1).getD 0 + p.2))))
def mirS (s : Sp2) (c : Int) : Sp2 := s.reverse.map fun p => (c - p.1, p.2)
def foldS (s : Sp2) (c : Int) : Sp2 := addS s (mirS s c)
def foldsS (s : Sp2) (fs : List Int) : Sp2 := fs.foldl foldS s
theorem srt_sdu {l : List Int} (h : l.Nodup) : srt l = sdu l := by
  refine sdu_eq ?_ fun z => mem_srt
  have h1 := srt_le l
  have h2 : (srt l).Nodup := (srt_perm l).nodup_iff.mpr h
  exact h1.imp₂ (fun a b x y => by omega) h2
theorem zstrip_pl {l : Sp2} (h : (l.map (·.1)).Nodup) : pl (zstrip l) = sdu (l.map (·.1)) := by
  rw [← srt_sdu h]
  unfold pl zstrip
  rw [List.map_map]
  exact List.map_id _
theorem zstrip_length (l : Sp2) : (zstrip l).length = l.length := by
  unfold zstrip
  rw [List.length_map, srt_length, List.length_map]
theorem sdu_congr {l m : List Int} (h : ∀ z, z ∈ l ↔ z ∈ m) : sdu l = sdu m := lt_ext (sdu_lt _) (sdu_lt _) fun z => by rw [mem_sdu, mem_sdu, h]
theorem addS_pl (s o : Sp2) : pl (addS s o) = sdu (pl s ++ pl o) := by
  unfold addS
  rw [zstrip_pl (zmerge_nodup _ _ (zmerge_nodup _ _ (by simp)))]
  refine sdu_congr fun z => ?_
  rw [zmerge_keys, zmerge_keys, zmerge_keys, zmerge_keys, List.mem_append]
  unfold pl
  rw [List.map_map]
  simp
theorem mirS_pl (s : Sp2) (c : Int) : pl (mirS s c) = ((pl s).map fun p => c - p).reverse := by
  unfold pl mirS
  rw [List.map_map, List.map_map, ← List.map_reverse]
  rfl
theorem foldS_pl (s : Sp2) (c : Int) : pl (foldS s c) = inkS (pl s) c := by
  unfold foldS inkS
  rw [addS_pl]
  refine sdu_congr fun z => ?_
  rw [mirS_pl, List.mem_append, List.mem_append, List.mem_reverse]
theorem foldsS_pl (fs : List Int) : ∀ s : Sp2, pl (foldsS s fs) = ink (pl s) fs := by
  induction fs with
  | nil => intro s; rfl
  | cons c r ih =>
    intro s
    show pl (foldsS (foldS s c) r) = ink (inkS (pl s) c) r
    rw [ih, foldS_pl]
theorem pl_length (s : Sp2) : (pl s).length = s.length := List.length_map _
theorem stripF_length (s : Sp2) (c : Int) : (foldS s c).length ≤ 2 * s.length := by
  have h := inkS_length (pl s) c
  rw [← foldS_pl, pl_length, pl_length] at h
  exact h
theorem stripsF_length (s : Sp2) (fs : List Int) : (foldsS s fs).length ≤ s.length * 2 ^ fs.length := by
  have h := ink_length fs (pl s)
  rw [← foldsS_pl, pl_length, pl_length] at h
  exact h
/-! the dict of signed sums -/
def lessD (f : Sp2) (s : Int) : Sp2 := zmerge [] (f.map fun p => (p.1 - s, (zget f p.1).getD 0))
def moreD (f : Sp2) (s : Int) : Sp2 := zmerge [] (f.map fun p => (p.1 + s, (zget (lessD f s) (p.1 + s)).getD 0 + (zget f p.1).getD 0))
def stepD (f : Sp2) (s : Int) : Sp2 := zmerge (zmerge [] (lessD f s)) (moreD f s)
def sumsD (ss : List Int) : Sp2 := ss.foldl stepD [(0, 1)]
theorem stepD_keys {f : Sp2} {s z : Int} : z ∈ pl (stepD f s) ↔ z + s ∈ pl f ∨ z - s ∈ pl f := by
  unfold stepD lessD moreD pl
  rw [zmerge_keys, zmerge_keys, zmerge_keys, zmerge_keys, List.map_map, List.map_map]
  simp only [List.map_nil, List.not_mem_nil, false_or, List.mem_map, Function.comp]
  constructor
  · rintro (⟨p, h, rfl⟩ | ⟨p, h, rfl⟩)
    · exact .inl ⟨p, h, by omega⟩
    · exact .inr ⟨p, h, by omega⟩
  · rintro (⟨p, h, e⟩ | ⟨p, h, e⟩)
    · exact .inl ⟨p, h, by omega⟩
    · exact .inr ⟨p, h, by omega⟩
theorem stepD_nodup (f : Sp2) (s : Int) : (pl (stepD f s)).Nodup := zmerge_nodup _ _ (zmerge_nodup _ _ (by simp))
theorem foldD_keys {z : Int} : ∀ {ss : List Int} {f : Sp2}, z ∈ pl (ss.foldl stepD f) ↔ ∃ y ∈ pl f, SSum ss (z - y)
  | [], f => by
    show z ∈ pl f ↔ _
    constructor
    · intro h
      exact ⟨z, h, by show z - z = 0; omega⟩
    · rintro ⟨y, h, e⟩
      have e : z - y = 0 := e
      have : z = y := by omega
      rw [this]; exact h
  | s :: r, f => by
    show z ∈ pl (r.foldl stepD (stepD f s)) ↔ _
    rw [foldD_keys (ss := r)]
    constructor
    · rintro ⟨y, h, e⟩
      rcases stepD_keys.mp h with h | h
      · exact ⟨_, h, .inr (by rw [show z - (y + s) + s = z - y by omega]; exact e)⟩
      · exact ⟨_, h, .inl (by rw [show z - (y - s) - s = z - y by omega]; exact e)⟩
    · rintro ⟨y, h, e | e⟩
      · exact ⟨y + s, stepD_keys.mpr (.inr (by rw [Int.add_sub_cancel]; exact h)), by rw [show z - (y + s) = z - y - s by omega]; exact e⟩
      · exact ⟨y - s, stepD_keys.mpr (.inl (by rw [Int.sub_add_cancel]; exact h)), by rw [show z - (y - s) = z - y + s by omega]; exact e⟩
theorem foldD_nodup : ∀ {ss : List Int} {f : Sp2}, (pl f).Nodup → (pl (ss.foldl stepD f)).Nodup
  | [], f, h => h
  | s :: r, f, _ => foldD_nodup (ss := r) (stepD_nodup f s)
theorem sumsD_keys {ss : List Int} {z : Int} : z ∈ pl (sumsD ss) ↔ SSum ss z := by
  unfold sumsD
  rw [foldD_keys]
  constructor
  · rintro ⟨y, h, e⟩
    have h : y = 0 := List.mem_singleton.mp h
    subst h
    rw [Int.sub_zero] at e
    exact e
  · intro h
    exact ⟨0, List.mem_singleton.mpr rfl, by rw [Int.sub_zero]; exact h⟩
theorem zmerge_len (l : Sp2) : (zmerge [] l).length ≤ l.length := by
  have h := zmerge_length l []
  simpa using h
theorem stepD_length (f : Sp2) (s : Int) : (stepD f s).length ≤ 2 * f.length := by
  unfold stepD
  have h1 := zmerge_length (moreD f s) (zmerge [] (lessD f s))
  have h2 := zmerge_len (lessD f s)
  have h3 : (lessD f s).length ≤ f.length := by
    unfold lessD
    have h := zmerge_len (f.map fun p => (p.1 - s, (zget f p.1).getD 0))
    rw [List.length_map] at h
    exact h
  have h4 : (moreD f s).length ≤ f.length := by
    unfold moreD
    have h := zmerge_len (f.map fun p => (p.1 + s, (zget (lessD f s) (p.1 + s)).getD 0 + (zget f p.1).getD 0))
    rw [List.length_map] at h
    exact h
  omega
theorem foldD_length : ∀ (ss : List Int) (f : Sp2), (ss.foldl stepD f).length ≤ f.length * 2 ^ ss.length
  | [], f => by simp
  | s :: r, f => by
    have h := foldD_length r (stepD f s)
    have h2 := stepD_length f s
    show (r.foldl stepD (stepD f s)).length ≤ _
    rw [List.length_cons, Nat.pow_succ]
    have h3 : (stepD f s).length * 2 ^ r.length ≤ 2 * f.length * 2 ^ r.length := Nat.mul_le_mul_right _ h2
    have h4 : 2 * f.length * 2 ^ r.length = f.length * (2 ^ r.length * 2) := by rw [Nat.mul_comm 2 f.length, Nat.mul_assoc, Nat.mul_comm 2]
    omega
def psums (p : Int) (fs : List Int) : Sp2 := sumsD (stepsL fs ++ [absI (2 * p - fs.headD 0)])
def printD (p : Int) (fs : List Int) : Sp2 := zmerge [] ((psums p fs).map fun q => ((fs.getLastD 0 + q.1) / 2, (zget (psums p fs) q.1).getD 0))
def printS (p : Int) (fs : List Int) : Sp2 := zstrip (printD p fs)
theorem psums_length (p : Int) (fs : List Int) : (psums p fs).length ≤ 2 ^ (fs.length - 1 + 1) := by
  unfold psums sumsD
  have h := foldD_length (stepsL fs ++ [absI (2 * p - fs.headD 0)]) [(0, 1)]
  rw [List.length_append, stepsL_length] at h
  simpa using h
/-- the places of a print -/
theorem print_pl {fs : List Int} (hf : fs ≠ []) (p : Int) : pl (printS p fs) = ink [p] fs := by
  unfold printS printD
  rw [zstrip_pl (zmerge_nodup _ _ (by simp)), ink_due hf]
  refine sdu_congr fun z => ?_
  rw [zmerge_keys, List.map_map]
  simp only [List.map_nil, List.not_mem_nil, false_or, List.mem_map, Function.comp]
  have hk : ∀ t, t ∈ pl (psums p fs) ↔ t - way fs p ∈ sumsIn fs ∨ t + way fs p ∈ sumsIn fs := fun t => by
    unfold psums
    rw [sumsD_keys, ssum_perm (List.perm_append_comm : (stepsL fs ++ [absI (2 * p - fs.headD 0)]).Perm _)]
    show SSum (absI (2 * p - fs.headD 0) :: stepsL fs) t ↔ _
    rw [ssum_abs]
    unfold sumsIn way
    rw [if_neg hf, mem_allSums, mem_allSums]
  unfold dueL
  rw [List.mem_append, List.mem_map, List.mem_map]
  constructor
  · rintro ⟨q, hq, rfl⟩
    rcases (hk q.1).mp (List.mem_map.mpr ⟨q, hq, rfl⟩) with h | h
    · exact .inl ⟨_, h, by congr 1; omega⟩
    · exact .inr ⟨_, h, by congr 1; omega⟩
  · rintro (⟨s, h, rfl⟩ | ⟨s, h, rfl⟩)
    · obtain ⟨q, hq, e⟩ := List.mem_map.mp ((hk (s + way fs p)).mpr (.inl (by rw [Int.add_sub_cancel]; exact h)))
      exact ⟨q, hq, by rw [e]; congr 1; omega⟩
    · obtain ⟨q, hq, e⟩ := List.mem_map.mp ((hk (s - way fs p)).mpr (.inr (by rw [Int.sub_add_cancel]; exact h)))
      exact ⟨q, hq, by rw [e]; congr 1; omega⟩
/-! the law's own fold -/
def bump (f : Sp2) (t d : Int) : Sp2 := zput f t ((zget f t).getD 0 + d)
def lawFD (s : Sp2) (c : Int) : Sp2 := s.foldl (fun f q => bump (bump f q.1 q.2) (c - q.1) q.2) []
def lawFold (s : Sp2) (c : Int) : Sp2 := zstrip (lawFD s c)
def lawFolds (s : Sp2) (fs : List Int) : Sp2 := fs.foldl lawFold s
theorem bump_keys {f : Sp2} {t d z : Int} : z ∈ pl (bump f t d) ↔ z ∈ pl f ∨ z = t := zput_keys _ _ _ _
theorem foldB_keys {z c : Int} : ∀ {s f : Sp2}, z ∈ pl (s.foldl (fun f q => bump (bump f q.1 q.2) (c - q.1) q.2) f) ↔ z ∈ pl f ∨ z ∈ pl s ∨ ∃ p ∈ pl s, c - p = z
  | [], f => by simp [pl]
  | q :: s, f => by
    show z ∈ pl (s.foldl _ (bump (bump f q.1 q.2) (c - q.1) q.2)) ↔ _
    rw [foldB_keys (s := s), bump_keys, bump_keys]
    have e : pl (q :: s) = q.1 :: pl s := rfl
    rw [e, List.mem_cons]
    constructor
    · rintro (((h | h) | h) | h | ⟨p, hp, h⟩)
      · exact .inl h
      · exact .inr (.inl (.inl h))
      · exact .inr (.inr ⟨q.1, List.mem_cons_self, h.symm⟩)
      · exact .inr (.inl (.inr h))
      · exact .inr (.inr ⟨p, List.mem_cons_of_mem _ hp, h⟩)
    · rintro (h | (h | h) | ⟨p, hp, h⟩)
      · exact .inl (.inl (.inl h))
      · exact .inl (.inl (.inr h))
      · exact .inr (.inl h)
      · rcases List.mem_cons.mp hp with e | hp
        · subst e; exact .inl (.inr h.symm)
        · exact .inr (.inr ⟨p, hp, h⟩)
theorem bump_nodup {f : Sp2} {t d : Int} (h : (pl f).Nodup) : (pl (bump f t d)).Nodup := zput_nodup h
theorem foldB_nodup {c : Int} : ∀ {s f : Sp2}, (pl f).Nodup → (pl (s.foldl (fun f q => bump (bump f q.1 q.2) (c - q.1) q.2) f)).Nodup
  | [], f, h => h
  | q :: s, f, h => foldB_nodup (s := s) (bump_nodup (bump_nodup h))
theorem lawFold_pl (s : Sp2) (c : Int) : pl (lawFold s c) = inkS (pl s) c := by
  unfold lawFold
  rw [zstrip_pl (l := lawFD s c) (foldB_nodup (by simp [pl]))]
  unfold inkS
  refine sdu_congr fun z => ?_
  show z ∈ pl (lawFD s c) ↔ _
  unfold lawFD
  rw [foldB_keys, List.mem_append, List.mem_map]
  simp [pl]
theorem lawFolds_pl (fs : List Int) : ∀ s : Sp2, pl (lawFolds s fs) = ink (pl s) fs := by
  induction fs with
  | nil => intro s; rfl
  | cons c r ih =>
    intro s
    show pl (lawFolds (lawFold s c) r) = ink (inkS (pl s) c) r
    rw [ih, lawFold_pl]
theorem zput_length (l : Sp2) (k v : Int) : (zput l k v).length ≤ l.length + 1 := by
  unfold zput
  split <;> simp
theorem bump_length (l : Sp2) (k v : Int) : (bump l k v).length ≤ l.length + 1 := zput_length _ _ _
theorem lawFold_length (s : Sp2) (c : Int) : (lawFold s c).length ≤ 2 * s.length := by
  have h := inkS_length (pl s) c
  rw [← lawFold_pl, pl_length, pl_length] at h
  exact h
end L2.K79

set_option Elab.async false
set_option linter.all false
set_option maxRecDepth 100000
set_option maxHeartbeats 4000000
namespace L2.K79
open PySem PySem.Spec PyProof.Rows L2
section
variable {X : Cx} {G : Gm} {pos : Pos} {a b c e : Expr} {es : List Expr} {α : Type}
/-! ### comparisons as tests -/
theorem jt_lt {i j : Int} (ha : JE X a G (.int i)) (hb : JE X b G (.int j)) : JT X (.Compare a [.Lt] [b] pos) G ((decide (i < j))) :=
  jt_cmpR op_lt (nomark _) ha hb fun C x y H al r1 r2 Q q => ⟨i, j, rp_int r1, rp_int r2, q _ H (Same.refl H) (.bl _)⟩
theorem jt_le {i j : Int} (ha : JE X a G (.int i)) (hb : JE X b G (.int j)) : JT X (.Compare a [.LtE] [b] pos) G ((decide (i ≤ j))) :=
  jt_cmpR op_le (nomark _) ha hb fun C x y H al r1 r2 Q q => ⟨i, j, rp_int r1, rp_int r2, q _ H (Same.refl H) (.bl _)⟩
theorem jt_gt {i j : Int} (ha : JE X a G (.int i)) (hb : JE X b G (.int j)) : JT X (.Compare a [.Gt] [b] pos) G ((decide (j < i))) :=
  jt_cmpR op_gt (nomark _) ha hb fun C x y H al r1 r2 Q q => ⟨i, j, rp_int r1, rp_int r2, q _ H (Same.refl H) (.bl _)⟩
theorem jt_ge {i j : Int} (ha : JE X a G (.int i)) (hb : JE X b G (.int j)) : JT X (.Compare a [.GtE] [b] pos) G ((decide (j ≤ i))) :=
  jt_cmpR op_ge (nomark _) ha hb fun C x y H al r1 r2 Q q => ⟨i, j, rp_int r1, rp_int r2, q _ H (Same.refl H) (.bl _)⟩
theorem jt_eqI {i j : Int} (ha : JE X a G (.int i)) (hb : JE X b G (.int j)) : JT X (.Compare a [.Eq] [b] pos) G ((decide (i = j))) :=
  jt_cmpR op_eq (nomark _) ha hb fun C x y H al r1 r2 Q q => by
    cases r1; cases r2
    exact ⟨rfl, q _ H (Same.refl H) (by rw [show decide (V.int i = V.int j) = decide (i = j) by rw [dec_int, Bool.beq_eq_decide_eq]]; exact .bl _)⟩
theorem jt_neI {i j : Int} (ha : JE X a G (.int i)) (hb : JE X b G (.int j)) : JT X (.Compare a [.NotEq] [b] pos) G ((!decide (i = j))) :=
  jt_cmpR op_ne (nomark _) ha hb fun C x y H al r1 r2 Q q => by
    cases r1; cases r2
    exact ⟨rfl, q _ H (Same.refl H) (by rw [show decide (V.int i = V.int j) = decide (i = j) by rw [dec_int, Bool.beq_eq_decide_eq]]; exact .bl _)⟩
theorem jt_neB {i j : Bool} (ha : JE X a G (.bl i)) (hb : JE X b G (.bl j)) : JT X (.Compare a [.NotEq] [b] pos) G ((!decide (i = j))) :=
  jt_cmpR op_ne (nomark _) ha hb fun C x y H al r1 r2 Q q => by
    cases r1; cases r2
    exact ⟨rfl, q _ H (Same.refl H) (by rw [show decide (V.bl i = V.bl j) = decide (i = j) by rw [dec_bl, Bool.beq_eq_decide_eq]]; exact .bl _)⟩
theorem jt_isnotB {i j : Bool} (ha : JE X a G (.bl i)) (hb : JE X b G (.bl j)) : JT X (.Compare a [.IsNot] [b] pos) G ((!decide (i = j))) :=
  jt_cmpR op_isnot_bl (nomark _) ha hb fun C x y H al r1 r2 Q q => ⟨i, j, rp_bl r1, rp_bl r2, q _ H (Same.refl H) (.bl _)⟩
theorem jt_in {i : Int} {ns : List Int} {d : D} (hd : d = lI ns ∨ d = tI ns) (ha : JE X a G (.int i)) (hb : JE X b G d) (hm : behindInMarks .In b = false := by rfl) : JT X (.Compare a [.In] [b] pos) G ((decide (i ∈ ns))) :=
  jt_cmpR op_in_seq hm ha hb fun C x y H al r1 r2 Q q => in_sem hd r1 r2 (q _ H (Same.refl H) (.bl _))
theorem jt_nin {i : Int} {ns : List Int} {d : D} (hd : d = lI ns ∨ d = tI ns) (ha : JE X a G (.int i)) (hb : JE X b G d) (hm : behindInMarks .NotIn b = false := by rfl) : JT X (.Compare a [.NotIn] [b] pos) G ((!decide (i ∈ ns))) :=
  jt_cmpR op_notIn_seq hm ha hb fun C x y H al r1 r2 Q q => in_sem hd r1 r2 (q _ H (Same.refl H) (.bl _))
theorem jt_eq {d e : D} {k : Bool} {m : Nat} (hr : Room m X.A) (ho : okD 60 d = true) (ho' : okD 60 e = true) (hk : k = true ↔ d.py = e.py) (ha : JE X a G d) (hb : JE X b G e) : JT X (.Compare a [.Eq] [b] pos) G (k) :=
  jt_cmpR (op_eqD hr.units) (nomark _) ha hb fun C x y H al r1 r2 Q q => by
    refine ⟨d.py, e.py, dp_of 60 d x ho r1, dp_of 60 e y ho' r2, ?_, ?_, q _ H (Same.refl H) ?_⟩
    · have h := ok_lay 60 d ho
      unfold SeqAt.shaped
      rw [h.1, decide_eq_true (by omega)]
      rfl
    · have h := ok_lay 60 e ho'
      unfold SeqAt.shaped
      rw [h.1, decide_eq_true (by omega)]
      rfl
    · rw [eq_bool (eqv_iff' (ip_of 60 d ho) _ (ip_of 60 e ho')) hk]
      exact .bl _
theorem jt_ne {d e : D} {k : Bool} {m : Nat} (hr : Room m X.A) (ho : okD 60 d = true) (ho' : okD 60 e = true) (hk : k = true ↔ d.py = e.py) (ha : JE X a G d) (hb : JE X b G e) : JT X (.Compare a [.NotEq] [b] pos) G ((!k)) :=
  jt_cmpR (op_neD hr.units) (nomark _) ha hb fun C x y H al r1 r2 Q q => by
    refine ⟨d.py, e.py, dp_of 60 d x ho r1, dp_of 60 e y ho' r2, ?_, ?_, q _ H (Same.refl H) ?_⟩
    · have h := ok_lay 60 d ho
      unfold SeqAt.shaped
      rw [h.1, decide_eq_true (by omega)]
      rfl
    · have h := ok_lay 60 e ho'
      unfold SeqAt.shaped
      rw [h.1, decide_eq_true (by omega)]
      rfl
    · rw [eq_bool (eqv_iff' (ip_of 60 d ho) _ (ip_of 60 e ho')) hk]
      exact .bl _
theorem jt_eqT {ns ms : List Int} {m : Nat} (hr : Room m X.A) (ha : JE X a G (tI ns)) (hb : JE X b G (tI ms)) : JT X (.Compare a [.Eq] [b] pos) G ((decide (ns = ms))) :=
  jt_eq hr (ok_tI 59 _) (ok_tI 59 _) (by rw [decide_eq_true_iff, py_tI]) ha hb
theorem jt_eqL {ns ms : List Int} {m : Nat} (hr : Room m X.A) (ha : JE X a G (lI ns)) (hb : JE X b G (lI ms)) : JT X (.Compare a [.Eq] [b] pos) G ((decide (ns = ms))) :=
  jt_eq hr (ok_lI 59 _) (ok_lI 59 _) (by rw [decide_eq_true_iff, py_lI]) ha hb
theorem jt_neT {ns ms : List Int} {m : Nat} (hr : Room m X.A) (ha : JE X a G (tI ns)) (hb : JE X b G (tI ms)) : JT X (.Compare a [.NotEq] [b] pos) G ((!decide (ns = ms))) :=
  jt_ne hr (ok_tI 59 _) (ok_tI 59 _) (by rw [decide_eq_true_iff, py_tI]) ha hb
theorem jt_neL {ns ms : List Int} {m : Nat} (hr : Room m X.A) (ha : JE X a G (lI ns)) (hb : JE X b G (lI ms)) : JT X (.Compare a [.NotEq] [b] pos) G ((!decide (ns = ms))) :=
  jt_ne hr (ok_lI 59 _) (ok_lI 59 _) (by rw [decide_eq_true_iff, py_lI]) ha hb
theorem jt_isNL {ds : List D} {j : Nat} {p' : Pos} (ha : JE X a G (.lst ds)) (h1 : behindInMarks .Is (.Constant .none j p') = false := by first | exact nobehind _ (by decide) (by decide) | rfl) : JT X (.Compare a [.Is] [.Constant .none j p'] pos) G false :=
  (pt_cmp (pc_isN ha) h1).wk fun σ H Q ⟨C, al, s, q⟩ => ⟨C, al, s, fun v H1 e1 r1 => by
    cases r1
    exact ⟨_, rfl, q H1 e1⟩⟩
theorem jt_chainI {r r' : R2} {op op' : CmpOp} {i j k : Int} {b1 b2 : Bool} (ho : OpR X (compareOp op) r) (ho' : OpR X (compareOp op') r') (ha : JE X a G (.int i)) (hb : JE X b G (.int j)) (hc : JE X c G (.int k))
    (h1 : ∀ H (Q : VK), Q (.bl b1) H → r (.int i) (.int j) H Q) (h2 : ∀ H (Q : VK), Q (.bl b2) H → r' (.int j) (.int k) H Q) (hl : lastMarks [op, op'] [b, c] = false := by with_unfolding_all rfl) : JT X (.Compare a [op, op'] [b, c] pos) G (b1 && b2) :=
  (pt_chain ho ho' ha hb hc hl).wk fun σ H Q ⟨C, al, s, q⟩ => two al s fun x y H2 e r1 r2 => by
    cases r1; cases r2
    refine h1 _ _ ⟨b1, rfl, ?_⟩
    cases b1 with
    | true => exact iteT ⟨C, e.al al, s.ex e, fun z H3 e3 r3 => by
        cases r3
        exact h2 _ _ ⟨_, rfl, by rw [Bool.true_and] at q; exact q H3 (e.trans e3)⟩⟩
    | false => exact iteF ⟨_, rfl, q H2 e⟩
theorem jt_lele {i j k : Int} (ha : JE X a G (.int i)) (hb : JE X b G (.int j)) (hc : JE X c G (.int k)) (hl : lastMarks [.LtE, .LtE] [b, c] = false := by with_unfolding_all rfl) : JT X (.Compare a [.LtE, .LtE] [b, c] pos) G (decide (i ≤ j) && decide (j ≤ k)) :=
  jt_chainI op_le op_le ha hb hc (fun H Q q => ⟨i, j, rfl, rfl, q⟩) (fun H Q q => ⟨j, k, rfl, rfl, q⟩) hl
theorem jt_ltle {i j k : Int} (ha : JE X a G (.int i)) (hb : JE X b G (.int j)) (hc : JE X c G (.int k)) (hl : lastMarks [.Lt, .LtE] [b, c] = false := by with_unfolding_all rfl) : JT X (.Compare a [.Lt, .LtE] [b, c] pos) G (decide (i < j) && decide (j ≤ k)) :=
  jt_chainI op_lt op_le ha hb hc (fun H Q q => ⟨i, j, rfl, rfl, q⟩) (fun H Q q => ⟨j, k, rfl, rfl, q⟩) hl
theorem pt_ex {k : Prop} {e : Expr} {t : TT} (h : k → PT X e t) : PT X e (fun σ H Q => k ∧ t σ H Q) := ⟨fun pins s σ H Q I q => (h q.1).run pins s σ H Q I q.2⟩
theorem jt_if {k l : Bool} (hc : JT X c G k) (ha : k = true → JT X a G l) (hb : k = false → JT X b G l) : JT X (.IfExp c a b pos) G l := by
  refine ⟨fun pins s σ H Q I ⟨C, al, st, q⟩ => ?_⟩
  refine isTrue_IfExp (thn (hc.run pins s σ H (fun d H1 => d = k ∧ Ex H H1) I ⟨C, al, st, fun H1 e1 => ⟨rfl, e1⟩⟩) fun d s1 ⟨H1, I1, ed, e1⟩ => ?_)
  subst ed
  cases d with
  | true => exact (ha rfl).run pins s1 σ H1 Q I1 ⟨C, e1.al al, st.ex e1, fun H2 e2 => q H2 (e1.trans e2)⟩
  | false => exact (hb rfl).run pins s1 σ H1 Q I1 ⟨C, e1.al al, st.ex e1, fun H2 e2 => q H2 (e1.trans e2)⟩
end
end L2.K79

set_option Elab.async false
set_option linter.all false
set_option maxRecDepth 100000
set_option maxHeartbeats 4000000
namespace L2.K79
open PySem PySem.Spec PyProof.Rows L2
theorem zget_get {l : List (Int × Int)} {k : Int} (h : k ∈ l.map (·.1)) : zget l k = some ((zget l k).getD 0) := by
  obtain ⟨v, e⟩ := zget_of h
  rw [e]
  rfl
theorem zip_pD (l : List (Int × Int)) : List.zipWith (fun x y => D.tup [x, y]) (l.map pD) ((l.map pD).drop 1) = (l.zip (l.drop 1)).map fun q => D.tup [pD q.1, pD q.2] := by
  rw [← List.map_drop, List.zipWith_map, List.zip, List.map_zipWith]
section
variable {X : Cx} {G : Gm} {pos : Pos} {a b c e : Expr} {es : List Expr} {α : Type}
theorem ji_conv {tg : Expr} {xs ys : List D} (h : JI X tg e G xs) (he : xs = ys) : JI X tg e G ys := he ▸ h
theorem je_t1 {d1 : D} {k : Nat} (ha : JE X a G d1) (h1 : starEach [a] X.env = (false, eval a X.env) :: starEach [] X.env := by rfl) : JE X (.Tuple [a] k pos) G (.tup [d1]) := je_tup (ja_cons ha ja_nil h1) (by simp)
theorem je_t2 {d1 d2 : D} {k : Nat} (ha : JE X a G d1) (hb : JE X b G d2) (h1 : starEach [a, b] X.env = (false, eval a X.env) :: starEach [b] X.env := by rfl) (h2 : starEach [b] X.env = (false, eval b X.env) :: starEach [] X.env := by rfl) : JE X (.Tuple [a, b] k pos) G (.tup [d1, d2]) := je_tup (ja_cons ha (ja_cons hb ja_nil h2) h1) (by simp)
theorem je_t3 {d1 d2 d3 : D} {k : Nat} (ha : JE X a G d1) (hb : JE X b G d2) (hc : JE X c G d3) (h1 : starEach [a, b, c] X.env = (false, eval a X.env) :: starEach [b, c] X.env := by rfl) (h2 : starEach [b, c] X.env = (false, eval b X.env) :: starEach [c] X.env := by rfl) (h3 : starEach [c] X.env = (false, eval c X.env) :: starEach [] X.env := by rfl) : JE X (.Tuple [a, b, c] k pos) G (.tup [d1, d2, d3]) := je_tup (ja_cons ha (ja_cons hb (ja_cons hc ja_nil h3) h2) h1) (by simp)
theorem je_t0 {k : Nat} : JE X (.Tuple [] k pos) G (.tup []) := je_tup ja_nil (by simp)
theorem je_l0 : JE X (.List [] pos) G (.lst []) := je_lst ja_nil (by simp)
theorem je_l1 {d1 : D} (ha : JE X a G d1) (h1 : starEach [a] X.env = (false, eval a X.env) :: starEach [] X.env := by rfl) : JE X (.List [a] pos) G (.lst [d1]) := je_lst (ja_cons ha ja_nil h1) (by simp)
variable {N : Gm → Prop} {R : D → Prop}
theorem jb_do {d : D} {sts : List Stmt} (he : JE X e G d) (q : JB X sts G N R) (hs : swapsWith e none pos.line X.env = pure false := by rfl) : JB X (.Expr e pos :: sts) G N R :=
  jb_cons (N1 := fun G' => G' = G) (js_expr he rfl hs) fun G' z => by rw [z]; exact q
theorem jb_skip {k : Bool} {sts rest : List Stmt} {c : Expr} (hc : JT X c G k) (hk : k = false) (q : JB X rest G N R) : JB X (.If c sts [] pos :: rest) G N R :=
  jb_ifret hc (fun z => by rw [hk] at z; cases z) fun _ => q
theorem jb_for {st : Stmt} {sts : List Stmt} {G1 : Gm} (h : JS X st G (fun G' => G' = G1) R) (q : JB X sts G1 N R) : JB X (st :: sts) G N R := jb_cons h fun G' z => by rw [z]; exact q
theorem wk_c {o : Option D} {G G' : Gm} (h : Wk G G') : Wk (o :: G) (o :: G') := ⟨by simp [h.1], fun i d e => by
  cases i with
  | zero => simpa using e
  | succ i => exact h.2 i d (by simpa using e)⟩
theorem wk_n {o : Option D} {G G' : Gm} (h : Wk G G') : Wk (o :: G) (none :: G') := ⟨by simp [h.1], fun i d e => by
  cases i with
  | zero => simp at e
  | succ i => exact h.2 i d (by simpa using e)⟩
theorem wk_0 : Wk [] [] := Wk.refl _
theorem get_map {β : Type} {l : List β} {f : β → D} {i : Nat} {d : D} (h : (l.map f)[i]? = some d) : ∃ x, l[i]? = some x ∧ d = f x := by
  rw [List.getElem?_map] at h
  cases e : l[i]? with
  | none => rw [e] at h; cases h
  | some x => rw [e] at h; exact ⟨x, rfl, (Option.some.inj h).symm⟩
theorem take_get {β : Type} {l : List β} {i : Nat} {x : β} (h : l[i]? = some x) : l.take (i + 1) = l.take i ++ [x] := by
  rw [List.take_add_one, h]; rfl
theorem zip_adj {β : Type} {Rl : β → β → Prop} : ∀ {l : List β}, l.Pairwise Rl → ∀ q ∈ l.zip (l.drop 1), Rl q.1 q.2
  | [], _, q, h => by simp at h
  | [a], _, q, h => by simp at h
  | a :: b :: r, h, q, hq => by
    obtain ⟨h1, h2⟩ := List.pairwise_cons.mp h
    have e : (a :: b :: r).zip ((a :: b :: r).drop 1) = (a, b) :: (b :: r).zip ((b :: r).drop 1) := rfl
    rw [e] at hq
    rcases List.mem_cons.mp hq with z | hq
    · rw [z]; exact h1 b List.mem_cons_self
    · exact zip_adj h2 q hq
/-- for, with a plain fact that is carried -/
theorem js_forI {tg iter : Expr} {body : List Stmt} {g : TG} (xs : List D) (Gi : Nat → Gm) (Gx : Nat → D → Gm) (I : Nat → Prop) (hp : PassesOwn (model X.prog X.w) X.A X.env X.xe) (hcalm : X.calm = true) (hi : JI X tg iter G xs) (hg : PG X tg g) (h0 : Wk G (Gi 0)) (hI : I 0)
    (hgo : ∀ i d, xs[i]? = some d → GF g (Gi i) d (Gx i d)) (hb : ∀ i d, xs[i]? = some d → I i → JB X body (Gx i d) (fun G' => Wk G' (Gi (i + 1)) ∧ I (i + 1)) R) (q : I xs.length → N (Gi xs.length)) (hs : ∀ x, foldedSetIterable iter X.env x = pure x := by intro _; rfl) : JS X (.For tg iter body [] pos) G N R :=
  (ps_for hp hcalm hi hg (PSs.all (ι := Nat × D) (p := fun p => xs[p.1]? = some p.2 ∧ I p.1) fun p hp => hb p.1 p.2 hp.1 hp.2) hs).wk fun D σ H ⟨C, al, s, n, r⟩ => ⟨C, al, s, fun J H1 e1 it => by
    refine ⟨fun i m σ' H' => m = xs.length - i ∧ i ≤ xs.length ∧ I i ∧ Sat C H' σ' (Gi i) ∧ Ex H1 H', ⟨xs.length, rfl, Nat.zero_le _, hI, (s.ex e1).wk h0, Same.refl H1⟩, ?_⟩
    rintro i m σ' H' ⟨rfl, hi', hIi, s', e'⟩
    obtain ⟨stop, go⟩ := it C H' (fun a h => .inl h) ((e1.trans e').al al) (e'.xc C)
    by_cases hlt : i < xs.length
    · obtain ⟨g1, g2⟩ := go i xs[i] (List.getElem?_eq_getElem hlt)
      refine .inr ⟨g1, fun σ2 H2 => i + 1 ≤ xs.length ∧ I (i + 1) ∧ Sat C H2 σ2 (Gi (i + 1)) ∧ Ex H1 H2, fun σ2 H2 w => ⟨xs.length - (i + 1), by omega, rfl, w⟩, fun x H2 y => ?_⟩
      obtain ⟨e2, rx⟩ := g2 x H2 y
      refine hgo i xs[i] (List.getElem?_eq_getElem hlt) C x σ' H2 _ (s'.ex e2) rx fun σ3 s3 => ?_
      refine ⟨(i, xs[i]), ⟨List.getElem?_eq_getElem hlt, hIi⟩, C, (e1.trans (e'.trans e2)).al al, s3, fun σ4 H4 G4 e4 s4 w4 => ⟨hlt, w4.2, s4.wk w4.1, e'.trans (e2.trans e4)⟩, fun v H4 d e4 rp => r v H4 d (e1.trans (e'.trans (e2.trans e4))) rp⟩
    · have e : i = xs.length := by omega
      subst e
      exact .inl ⟨stop _ (Nat.le_refl _), n σ' H' _ (e1.trans e') s' (q hIi)⟩⟩
end
end L2.K79

set_option Elab.async false
set_option linter.all false
set_option maxRecDepth 100000
set_option maxHeartbeats 4000000
namespace L2.K79
open PySem PySem.Spec PyProof.Rows L2
section
variable {P : Program} {w : World} {K : PySem.W.Frag} {mg : Str → Option Value} {base : Heap}
/-! ### strips -/
def R_strip_of (ds : List D) (r : D) : Prop := ∃ l : Sp2, l.length ≤ 5000 ∧ ds = [dZ l] ∧ r = tS (zstrip l)
theorem f_strip_of (B : BI mg) (F : DefAt K mg "strip_of" s_strip_of) : Cal P w K mg base 1 "strip_of" ["drops"] (spJ R_strip_of) := by
  refine fn_cal F c_strip_of (fun ds r h => ?_) (fun _ _ _ _ _ _ us hl => match us, hl with | [_], _ => rfl) (fun f cdv A outer s H E ds r hr h => ?_)
  · obtain ⟨l, hl, rfl, rfl⟩ := h
    rfl
  obtain ⟨l, hl, rfl, rfl⟩ := h
  exact jb_one (js_ret (je_tupleX B.b_tuple (je_mapN (x := "place") 1 (l := srt (l.map (·.1))) (emb := D.int) (f := fun k => pD (k, (zget l k).getD 0)) c_strip_of.nd (ji_lI (je_sortedD rfl B.b_sorted (je_var 0))) (blkOk_by (N := n_strip_of) (sc := defScope s_strip_of) (by decide +kernel)) (by rw [srt_length, List.length_map]; omega) (fun _ _ _ _ _ => pg_name (i := 1) c_strip_of.nd rfl (.inl rfl))
    fun k hk s H C cl fp => je_t2 (je_var 1) (je_dget (hu_of hr) (je_var 0) (je_var 1) (zget_get (mem_srt.mp hk))))) (by unfold tS zstrip; rw [List.map_map]; rfl))
def R_mirrored (ds : List D) (r : D) : Prop := ∃ (s : Sp2) (c : Int), s.length ≤ 5000 ∧ ds = [tS s, .int c] ∧ r = tS (mirS s c)
theorem f_mirrored (B : BI mg) (F : DefAt K mg "mirrored" s_mirrored) : Cal P w K mg base 1 "mirrored" ["strip", "crease"] (spJ R_mirrored) := by
  refine fn_cal F c_mirrored (fun ds r h => ?_) (fun _ _ _ _ _ _ us hl => match us, hl with | [_, _], _ => rfl) (fun f cdv A outer s H E ds r hr h => ?_)
  · obtain ⟨l, c, hl, rfl, rfl⟩ := h
    rfl
  obtain ⟨l, c, hl, rfl, rfl⟩ := h
  exact jb_one (js_ret (je_tupleX B.b_tuple (je_mapP (x := "place") (y := "drops") 2 3 (l := l.reverse) (d1 := fun p => .int p.1) (d2 := fun p => .int p.2) (f := fun p => pD (c - p.1, p.2)) c_mirrored.nd (ji_conv (ji_tup (je_rev (je_weak (je_var 0)))) (by rw [List.map_reverse]; rfl)) (blkOk_by (N := n_mirrored) (sc := defScope s_mirrored) (by decide +kernel)) (by rw [List.length_reverse]; omega) (fun _ _ _ _ _ => pg_tup rfl (pgs_cons (pg_name (i := 2) c_mirrored.nd rfl (.inl rfl)) (pgs_cons (pg_name (i := 3) c_mirrored.nd rfl (.inl rfl)) pgs_nil)))
    fun k hk s H C cl fp => je_t2 (je_sub (je_var 1) (je_var 2)) (je_var 3))) (by unfold tS mirS; rw [List.map_map]; rfl))
def R_added (ds : List D) (r : D) : Prop := ∃ s o : Sp2, s.length ≤ 2000 ∧ o.length ≤ 2000 ∧ ds = [tS s, tS o] ∧ r = tS (addS s o)
theorem f_added (B : BI mg) (F : DefAt K mg "added" s_added) (F_strip_of : Cal P w K mg base 1 "strip_of" ["drops"] (spJ R_strip_of)) : Cal P w K mg base 2 "added" ["strip", "other"] (spJ R_added) := by
  refine fn_cal F c_added (fun ds r h => ?_) (fun _ _ _ _ _ _ us hl => match us, hl with | [_, _], _ => rfl) (fun f cdv A outer s H E ds r hr h => ?_)
  · obtain ⟨l, o, hl, ho, rfl, rfl⟩ := h
    rfl
  obtain ⟨l, o, hl, ho, rfl, rfl⟩ := h
  refine jb_let 2 c_added.nd (je_dictS rfl B.b_dict (je_var 0)) (jb_let 3 c_added.nd (je_dictL (l := o) (k := fun p => p.1) (v := fun p => (zget (zmerge [] l) p.1).getD 0 + p.2) rfl B.b_dict
    (je_mapP (x := "place") (y := "drops") 4 5 (l := o) (d1 := fun p => .int p.1) (d2 := fun p => .int p.2) c_added.nd (ji_tup (je_weak (je_var 1))) (blkOk_by (N := n_added) (sc := defScope s_added) (by decide +kernel)) (by omega) (fun _ _ _ _ _ => pg_tup rfl (pgs_cons (pg_name (i := 4) c_added.nd rfl (.inl rfl)) (pgs_cons (pg_name (i := 5) c_added.nd rfl (.inl rfl)) pgs_nil)))
    fun k hk s H C cl fp => je_t2 (je_var 4) (je_add (je_dget2 (hu_of hr) (je_var 2) (je_var 4) je_int) (je_var 5)))) (jb_one (js_ret (je_call F_strip_of (hr.mono (by decide)) (ja_cons (je_star2 ?_ (je_var 2) (je_var 3)) ja_nil) ⟨_, ?_, rfl, rfl⟩) rfl)))
  · have h1 := zmerge_len l
    have h2 := zmerge_len (o.map fun p => (p.1, (zget (zmerge [] l) p.1).getD 0 + p.2))
    rw [List.length_map] at h2
    omega
  · have h1 := zmerge_len l
    have h2 := zmerge_len (o.map fun p => (p.1, (zget (zmerge [] l) p.1).getD 0 + p.2))
    rw [List.length_map] at h2
    have h3 := zmerge_len (zmerge [] l)
    have h4 := zmerge_length (zmerge [] (o.map fun p => (p.1, (zget (zmerge [] l) p.1).getD 0 + p.2))) (zmerge [] (zmerge [] l))
    omega
def R_folded_at (ds : List D) (r : D) : Prop := ∃ (s : Sp2) (c : Int), s.length ≤ 2000 ∧ ds = [tS s, .int c] ∧ r = tS (foldS s c)
theorem f_folded_at (B : BI mg) (F : DefAt K mg "folded_at" s_folded_at) (F_added : Cal P w K mg base 2 "added" ["strip", "other"] (spJ R_added)) (F_mirrored : Cal P w K mg base 1 "mirrored" ["strip", "crease"] (spJ R_mirrored)) : Cal P w K mg base 3 "folded_at" ["strip", "crease"] (spJ R_folded_at) := by
  refine fn_cal F c_folded_at (fun ds r h => ?_) (fun _ _ _ _ _ _ us hl => match us, hl with | [_, _], _ => rfl) (fun f cdv A outer s H E ds r hr h => ?_)
  · obtain ⟨l, c, hl, rfl, rfl⟩ := h
    rfl
  obtain ⟨l, c, hl, rfl, rfl⟩ := h
  exact jb_one (js_ret (je_call F_added (hr.mono (by decide)) (ja_cons ((je_var 0)) (ja_cons ((je_call F_mirrored (hr.mono (by decide)) (ja_cons ((je_var 0)) (ja_cons ((je_var 1)) ja_nil)) ⟨_, _, (by omega), rfl, rfl⟩)) ja_nil)) ⟨_, _, hl, (by unfold mirS; rw [List.length_map, List.length_reverse]; exact hl), rfl, rfl⟩) rfl)
end
end L2.K79

set_option Elab.async false
set_option linter.all false
set_option maxRecDepth 100000
set_option maxHeartbeats 4000000
namespace L2.K79
open PySem PySem.Spec PyProof.Rows L2
structure okS (s : Sp2) : Prop where
  len : s.length ≤ 200
  each : ∀ p ∈ s, -1000000000 ≤ p.1 ∧ p.1 ≤ 1000000000 ∧ 0 < p.2
  lt : s.Pairwise fun p q => p.1 < q.1
section
variable {P : Program} {w : World} {K : PySem.W.Frag} {mg : Str → Option Value} {base : Heap}
def R_fits_strip (ds : List D) (r : D) : Prop := ∃ s : Sp2, okS s ∧ ds = [tS s] ∧ r = .bl true
theorem f_fits_strip (B : BI mg) (F : DefAt K mg "fits_strip" s_fits_strip) (F_is_tuple_of : Cal P w K mg base 1 "is_tuple_of" ["value", "low", "high"] (spJ R_tuple)) (F_fits_place : Cal P w K mg base 2 "fits_place" ["value"] (spJ R_place)) (F_fits_drops : Cal P w K mg base 1 "fits_drops" ["value"] (spJ R_drops)) : Cal P w K mg base 3 "fits_strip" ["value"] (spJ R_fits_strip) := by
  refine fn_cal F c_fits_strip (fun ds r h => ?_) (fun _ _ _ _ _ _ us hl => match us, hl with | [_], _ => rfl) (fun f cdv A outer s H E ds r hr h => ?_)
  · obtain ⟨l, ok, rfl, rfl⟩ := h
    rfl
  obtain ⟨l, ok, rfl, rfl⟩ := h
  have hl := ok.len
  refine jb_skip (k := false) (jt_conv (jw_pt (jw_or (k := !inR 0 (l.map pD).length 200) (jt_not (jt_of (je_call F_is_tuple_of (hr.mono (by decide)) (ja_cons ((je_var 0)) (ja_cons je_int (ja_cons (je_globI B.k_PAIRS) ja_nil))) ⟨_, _, _, _, .inr rfl, rfl, rfl⟩))) fun _ => jw_or1 (k := !(l.all fun p => true)) (jt_not (jt_of (je_allM (l := l) (g := fun _ => true) B.b_all
      (je_mapN (x := "pair") 1 (l := l) (emb := pD) c_fits_strip.nd (ji_tup (je_weak (je_var 0))) (blkOk_by (N := n_fits_strip) (sc := defScope s_fits_strip) (by decide +kernel)) (by omega) (fun _ _ _ _ _ => pg_name (i := 1) c_fits_strip.nd rfl (.inl rfl)) fun p hp s H C cl fp => je_call F_is_tuple_of (hr.mono (by decide)) (ja_cons ((je_var 1)) (ja_cons je_int (ja_cons je_int ja_nil))) ⟨[.int p.1, .int p.2], _, 2, 2, .inl rfl, rfl, rfl⟩)))))) ?_) rfl
    (jb_skip (k := false) (jt_conv (jt_not (jt_of (je_allM (l := l) (g := fun p => inR (-1000000000) p.1 1000000000 && decide (0 < p.2)) B.b_all
      (je_mapP (x := "place") (y := "drops") 2 3 (l := l) (d1 := fun p => .int p.1) (d2 := fun p => .int p.2) c_fits_strip.nd (ji_tup (je_weak (je_var 0))) (blkOk_by (N := n_fits_strip) (sc := defScope s_fits_strip) (by decide +kernel)) (by omega) (fun _ _ _ _ _ => pg_tup rfl (pgs_cons (pg_name (i := 2) c_fits_strip.nd rfl (.inl rfl)) (pgs_cons (pg_name (i := 3) c_fits_strip.nd rfl (.inl rfl)) pgs_nil))) fun p hp s H C cl fp =>
        je_and (k := inR (-1000000000) p.1 1000000000) (je_call F_fits_place (hr.mono (by decide)) (ja_cons ((je_var 2)) ja_nil) ⟨_, rfl, rfl⟩) fun _ => je_one (je_call F_fits_drops (hr.mono (by decide)) (ja_cons ((je_var 3)) ja_nil) ⟨_, rfl, rfl⟩))))) ?_) rfl
    (jb_one (js_ret (je_allM (l := l.zip (l.drop 1)) (g := fun q => decide (q.1.1 < q.2.1)) B.b_all
      (je_mapP (x := "one") (y := "other") 4 5 (l := l.zip (l.drop 1)) (d1 := fun q => pD q.1) (d2 := fun q => pD q.2) c_fits_strip.nd (ji_conv (ji_zip B.b_zip (je_weak (je_var 0)) (je_tailT (je_weak (je_var 0)))) (zip_pD l)) (blkOk_by (N := n_fits_strip) (sc := defScope s_fits_strip) (by decide +kernel)) (by rw [List.length_zip]; omega) (fun _ _ _ _ _ => pg_tup rfl (pgs_cons (pg_name (i := 4) c_fits_strip.nd rfl (.inl rfl)) (pgs_cons (pg_name (i := 5) c_fits_strip.nd rfl (.inl rfl)) pgs_nil))) fun q hq s H C cl fp =>
        je_lt (je_ixT (ds := [.int q.1.1, .int q.1.2]) (je_var 4) je_int (atI_nat (j := 0) rfl)) (je_ixT (ds := [.int q.2.1, .int q.2.2]) (je_var 5) je_int (atI_nat (j := 0) rfl)))) ?_)))
  · have h1 : inR 0 (l.map pD).length 200 = true := inR_iff.mpr ⟨by omega, by rw [List.length_map]; omega⟩
    have h2 : (l.all fun _ => true) = true := List.all_eq_true.mpr fun _ _ => rfl
    rw [h1, h2]
    rfl
  · have h2 : (l.all fun p => inR (-1000000000) p.1 1000000000 && decide (0 < p.2)) = true := List.all_eq_true.mpr fun p hp => by
      obtain ⟨h1, h2, h3⟩ := ok.each p hp
      rw [inR_iff.mpr ⟨h1, h2⟩, decide_eq_true h3]
      rfl
    rw [h2]
    rfl
  · have h2 : ((l.zip (l.drop 1)).all fun q => decide (q.1.1 < q.2.1)) = true := List.all_eq_true.mpr fun q hq => decide_eq_true (zip_adj ok.lt q hq)
    rw [h2]
def R_need_strip (ds : List D) (r : D) : Prop := ∃ s : Sp2, okS s ∧ ds = [tS s] ∧ r = .non
theorem f_need_strip (B : BI mg) (F : DefAt K mg "need_strip" s_need_strip) (F_fits_strip : Cal P w K mg base 3 "fits_strip" ["value"] (spJ R_fits_strip)) : Cal P w K mg base 4 "need_strip" ["value"] (spJ R_need_strip) := by
  refine fn_cal F c_need_strip (fun ds r h => ?_) (fun _ _ _ _ _ _ us hl => match us, hl with | [_], _ => rfl) (fun f cdv A outer s H E ds r hr h => ?_)
  · obtain ⟨l, ok, rfl, rfl⟩ := h
    rfl
  obtain ⟨l, ok, rfl, rfl⟩ := h
  exact jb_skip (k := false) (jt_not (k := true) (jt_of (je_call F_fits_strip (hr.mono (by decide)) (ja_cons ((je_var 0)) ja_nil) ⟨_, ok, rfl, rfl⟩))) rfl (jb_nil rfl)
def R_need_place (ds : List D) (r : D) : Prop := ∃ p : Int, (-1000000000 ≤ p ∧ p ≤ 1000000000) ∧ ds = [.int p] ∧ r = .non
theorem f_need_place (B : BI mg) (F : DefAt K mg "need_place" s_need_place) (F_fits_place : Cal P w K mg base 2 "fits_place" ["value"] (spJ R_place)) : Cal P w K mg base 3 "need_place" ["value"] (spJ R_need_place) := by
  refine fn_cal F c_need_place (fun ds r h => ?_) (fun _ _ _ _ _ _ us hl => match us, hl with | [_], _ => rfl) (fun f cdv A outer s H E ds r hr h => ?_)
  · obtain ⟨p, ok, rfl, rfl⟩ := h
    rfl
  obtain ⟨p, ok, rfl, rfl⟩ := h
  exact jb_skip (jt_not (jt_of (je_call F_fits_place (hr.mono (by decide)) (ja_cons ((je_var 0)) ja_nil) ⟨_, rfl, rfl⟩))) (by rw [inR_iff.mpr ok]; rfl) (jb_nil rfl)
/-! ### folding -/
def strL (s : Sp2) (fs : List Int) (i : Nat) : List D := ((List.range i).map fun j => tS (foldsS s (fs.take j))) ++ [tS (foldsS s (fs.take i))]
theorem strL_next (s : Sp2) (fs : List Int) (i : Nat) : strL s fs (i + 1) = strL s fs i ++ [tS (foldsS s (fs.take (i + 1)))] := by
  unfold strL
  rw [List.range_succ, List.map_append]
  rfl
theorem strL_length (s : Sp2) (fs : List Int) (i : Nat) : (strL s fs i).length = i + 1 := by
  unfold strL
  rw [List.length_append, List.length_map, List.length_range]
  rfl
theorem foldsS_next {s : Sp2} {fs : List Int} {i : Nat} {c : Int} (h : fs[i]? = some c) : foldsS s (fs.take (i + 1)) = foldS (foldsS s (fs.take i)) c := by
  rw [take_get h]
  unfold foldsS
  rw [List.foldl_append]
  rfl
theorem foldsS_bound {s : Sp2} {fs : List Int} (hb : s.length * 2 ^ fs.length ≤ 2000) (i : Nat) : (foldsS s (fs.take i)).length ≤ 2000 := by
  have h := stripsF_length s (fs.take i)
  have h2 : s.length * 2 ^ (fs.take i).length ≤ s.length * 2 ^ fs.length := Nat.mul_le_mul_left _ (Nat.pow_le_pow_right (by decide) (by rw [List.length_take]; omega))
  omega
def R_strips_on (ds : List D) (r : D) : Prop := ∃ (s : Sp2) (fs : List Int), s.length * 2 ^ fs.length ≤ 2000 ∧ fs.length ≤ 12 ∧ ds = [tS s, tI fs] ∧ r = .lst (strL s fs fs.length)
theorem f_strips_on (B : BI mg) (F : DefAt K mg "strips_on" s_strips_on) (F_folded_at : Cal P w K mg base 3 "folded_at" ["strip", "crease"] (spJ R_folded_at)) : Cal P w K mg base 4 "strips_on" ["strip", "folds"] (spJ R_strips_on) := by
  refine fn_cal F c_strips_on (fun ds r h => ?_) (fun _ _ _ _ _ _ us hl => match us, hl with | [_, _], _ => rfl) (fun f cdv A outer s H E ds r hr h => ?_)
  · obtain ⟨l, fs, hb, hf, rfl, rfl⟩ := h
    rfl
  obtain ⟨l, fs, hb, hf, rfl, rfl⟩ := h
  refine jb_let 2 c_strips_on.nd (je_l1 (je_var 0)) (jb_for (G1 := [some (tS l), some (tI fs), some (.lst (strL l fs fs.length)), none]) (js_for (fs.map D.int) (fun i => [some (tS l), some (tI fs), some (.lst (strL l fs i)), none]) (fun i d => [some (tS l), some (tI fs), some (.lst (strL l fs i)), some d]) PassesOwn.never rfl (ji_tI (je_var 1)) (pg_name (i := 3) c_strips_on.nd rfl (.inl rfl)) (Wk.refl _)
    (fun i d h => gf_name) (fun i d h => ?_) ?_) (jb_one (js_ret (je_var 2) rfl)))
  · obtain ⟨c, hc, rfl⟩ := get_map h
    have hlt := (List.getElem?_eq_some_iff.mp hc).1
    refine jb_let 2 c_strips_on.nd (je_conv (je_catL (ds := strL l fs i) (by rw [strL_length]; show i + 1 + 1 ≤ _; omega) (je_var 2) (je_l1 (je_call F_folded_at (hr.mono (by decide)) (ja_cons ((je_ixL (je_var 2) (je_neg je_int) (atI_last _ _))) (ja_cons ((je_var 3)) ja_nil)) ⟨_, c, foldsS_bound hb i, rfl, rfl⟩))) (congrArg D.lst (show _ = strL l fs (i + 1) by rw [strL_next, foldsS_next hc])))
      (jb_skip (jt_gt (je_lenT (x := "len") B.b_len (je_weak (je_ixL (je_var 2) (je_neg je_int) (atI_last _ _)))) (je_globI B.k_MOST_folding)) ?_ (jb_nil (wk_c (wk_c (wk_c (wk_n wk_0))))))
    refine decide_eq_false ?_
    have := foldsS_bound hb (i + 1)
    rw [List.length_map]
    omega
  · rw [List.length_map]
def R_need_strips (ds : List D) (r : D) : Prop := R_strips_on ds r
theorem f_need_strips (B : BI mg) (F : DefAt K mg "need_strips" s_need_strips) (F_strips_on : Cal P w K mg base 4 "strips_on" ["strip", "folds"] (spJ R_strips_on)) : Cal P w K mg base 5 "need_strips" ["strip", "folds"] (spJ R_need_strips) := by
  refine fn_cal F c_need_strips (fun ds r h => ?_) (fun _ _ _ _ _ _ us hl => match us, hl with | [_, _], _ => rfl) (fun f cdv A outer s H E ds r hr h => ?_)
  · obtain ⟨l, fs, hb, hf, rfl, rfl⟩ := h
    rfl
  obtain ⟨l, fs, hb, hf, rfl, rfl⟩ := h
  exact jb_let 2 c_need_strips.nd (je_call F_strips_on (hr.mono (by decide)) (ja_cons ((je_var 0)) (ja_cons ((je_var 1)) ja_nil)) ⟨_, _, hb, hf, rfl, rfl⟩) (jb_skip (jt_isNL (je_var 2)) rfl (jb_one (js_ret (je_var 2) rfl)))
def R_folded_by (ds : List D) (r : D) : Prop := ∃ (s : Sp2) (fs : List Int), okS s ∧ okF fs ∧ s.length * 2 ^ fs.length ≤ 2000 ∧ ds = [tS s, tI fs] ∧ r = tS (foldsS s fs)
theorem f_folded_by (B : BI mg) (F : DefAt K mg "folded_by" s_folded_by) (F_need_strip : Cal P w K mg base 4 "need_strip" ["value"] (spJ R_need_strip)) (F_need_folds : Cal P w K mg base 4 "need_folds" ["value"] (spJ R_needF)) (F_need_strips : Cal P w K mg base 5 "need_strips" ["strip", "folds"] (spJ R_need_strips)) : Cal P w K mg base 6 "folded_by" ["strip", "folds"] (spJ R_folded_by) := by
  refine fn_cal F c_folded_by (fun ds r h => ?_) (fun _ _ _ _ _ _ us hl => match us, hl with | [_, _], _ => rfl) (fun f cdv A outer s H E ds r hr h => ?_)
  · obtain ⟨l, fs, ok, okf, hb, rfl, rfl⟩ := h
    rfl
  obtain ⟨l, fs, ok, okf, hb, rfl, rfl⟩ := h
  exact jb_do (je_call F_need_strip (hr.mono (by decide)) (ja_cons ((je_var 0)) ja_nil) ⟨_, ok, rfl, rfl⟩) (jb_do (je_call F_need_folds (hr.mono (by decide)) (ja_cons ((je_var 1)) ja_nil) ⟨_, okf, rfl, rfl⟩) (jb_one (js_ret (je_conv (je_ixL (je_call F_need_strips (hr.mono (by decide)) (ja_cons ((je_var 0)) (ja_cons ((je_var 1)) ja_nil)) ⟨_, _, hb, okf.len, rfl, rfl⟩) (je_neg je_int) (atI_last _ _)) (by rw [List.take_length])) rfl)))
/-! ### prints -/
def R_steps_in (ds : List D) (r : D) : Prop := ∃ fs : List Int, fs.length ≤ 12 ∧ ds = [tI fs] ∧ r = tI (stepsL fs)
theorem f_steps_in (B : BI mg) (F : DefAt K mg "steps_in" s_steps_in) : Cal P w K mg base 1 "steps_in" ["folds"] (spJ R_steps_in) := by
  refine fn_cal F c_steps_in (fun ds r h => ?_) (fun _ _ _ _ _ _ us hl => match us, hl with | [_], _ => rfl) (fun f cdv A outer s H E ds r hr h => ?_)
  · obtain ⟨fs, hf, rfl, rfl⟩ := h
    rfl
  obtain ⟨fs, hf, rfl, rfl⟩ := h
  exact jb_one (js_ret (je_tupleL B.b_tuple (je_sortedL B.b_sorted (je_conv (je_mapP (x := "one") (y := "other") 1 2 (l := fs.zip (fs.drop 1)) (d1 := fun q => .int q.1) (d2 := fun q => .int q.2) (f := fun q => .int (absI (q.1 - q.2))) c_steps_in.nd (ji_zipI B.b_zip (je_var 0) (je_tailI (je_var 0))) (blkOk_by (N := n_steps_in) (sc := defScope s_steps_in) (by decide +kernel)) (by rw [List.length_zip]; omega) (fun _ _ _ _ _ => pg_tup rfl (pgs_cons (pg_name (i := 1) c_steps_in.nd rfl (.inl rfl)) (pgs_cons (pg_name (i := 2) c_steps_in.nd rfl (.inl rfl)) pgs_nil))) fun q hq s H C cl fp =>
    je_abs B.b_abs (je_sub (je_var 1) (je_var 2))) (show _ = lI (dif fs) by unfold lI dif; rw [List.map_map]; rfl)))) rfl)
def R_sums_of (ds : List D) (r : D) : Prop := ∃ ss : List Int, ss.length ≤ 8 ∧ ds = [tI ss] ∧ r = dZ (sumsD ss)
theorem sumsD_bound {ss : List Int} (h : ss.length ≤ 8) (i : Nat) : (sumsD (ss.take i)).length ≤ 256 := by
  have h1 := foldD_length (ss.take i) [(0, 1)]
  have h2 : 2 ^ (ss.take i).length ≤ 2 ^ 8 := Nat.pow_le_pow_right (by decide) (by rw [List.length_take]; omega)
  have h3 : [((0 : Int), (1 : Int))].length = 1 := rfl
  rw [h3, Nat.one_mul] at h1
  show (List.foldl stepD [(0, 1)] (ss.take i)).length ≤ 256
  omega
theorem sumsD_next {ss : List Int} {i : Nat} {c : Int} (h : ss[i]? = some c) : sumsD (ss.take (i + 1)) = stepD (sumsD (ss.take i)) c := by
  rw [take_get h]
  unfold sumsD
  rw [List.foldl_append]
  rfl
theorem f_sums_of (B : BI mg) (F : DefAt K mg "sums_of" s_sums_of) : Cal P w K mg base 1 "sums_of" ["steps"] (spJ R_sums_of) := by
  refine fn_cal F c_sums_of (fun ds r h => ?_) (fun _ _ _ _ _ _ us hl => match us, hl with | [_], _ => rfl) (fun f cdv A outer s H E ds r hr h => ?_)
  · obtain ⟨ss, hs, rfl, rfl⟩ := h
    rfl
  obtain ⟨ss, hs, rfl, rfl⟩ := h
  refine jb_let 1 c_sums_of.nd (je_disp1 je_int je_int) (jb_for (G1 := [some (tI ss), some (dZ (sumsD (ss.take ss.length))), none, none, none, none]) (js_for (ss.map D.int) (fun i => [some (tI ss), some (dZ (sumsD (ss.take i))), none, none, none, none]) (fun i d => [some (tI ss), some (dZ (sumsD (ss.take i))), some d, none, none, none]) PassesOwn.never rfl (ji_tI (je_var 0)) (pg_name (i := 2) c_sums_of.nd rfl (.inr rfl)) (Wk.refl _)
    (fun i d h => gf_name) (fun i d h => ?_) ?_) (jb_one (js_ret (je_conv (je_var 1) (by rw [List.take_length])) rfl)))
  · obtain ⟨c, hc, rfl⟩ := get_map h
    have hb := sumsD_bound hs i
    have h1 : (lessD (sumsD (ss.take i)) c).length ≤ 256 := by
      have h := zmerge_len ((sumsD (ss.take i)).map fun p => (p.1 - c, (zget (sumsD (ss.take i)) p.1).getD 0))
      rw [List.length_map] at h
      exact Nat.le_trans h hb
    have h2 : (moreD (sumsD (ss.take i)) c).length ≤ 256 := by
      have h := zmerge_len ((sumsD (ss.take i)).map fun p => (p.1 + c, (zget (lessD (sumsD (ss.take i)) c) (p.1 + c)).getD 0 + (zget (sumsD (ss.take i)) p.1).getD 0))
      rw [List.length_map] at h
      exact Nat.le_trans h hb
    refine jb_let 3 c_sums_of.nd (je_dictL (l := sumsD (ss.take i)) (k := fun p => p.1 - c) (v := fun p => (zget (sumsD (ss.take i)) p.1).getD 0) rfl B.b_dict
        (je_lcD 1 [("total", 4)] rfl rfl c_sums_of.nd (blkOk_by (N := n_sums_of) (sc := defScope s_sums_of) (by decide +kernel)) (by omega) (fun _ _ _ _ _ => pg_name (i := 4) c_sums_of.nd rfl (.inl rfl)) fun p hp s H C cl fp => je_t2 (je_sub (je_var 4) (je_var 2)) (je_dget (hu_of hr) (je_var 1) (je_var 4) (zget_get (List.mem_map.mpr ⟨p, hp, rfl⟩)))))
      (jb_let 5 c_sums_of.nd (je_dictL (l := sumsD (ss.take i)) (k := fun p => p.1 + c) (v := fun p => (zget (lessD (sumsD (ss.take i)) c) (p.1 + c)).getD 0 + (zget (sumsD (ss.take i)) p.1).getD 0) rfl B.b_dict
        (je_lcD 1 [("total", 4)] rfl rfl c_sums_of.nd (blkOk_by (N := n_sums_of) (sc := defScope s_sums_of) (by decide +kernel)) (by omega) (fun _ _ _ _ _ => pg_name (i := 4) c_sums_of.nd rfl (.inl rfl)) fun p hp s H C cl fp => je_t2 (je_add (je_var 4) (je_var 2)) (je_add (je_dget2 (l := lessD (sumsD (ss.take i)) c) (hu_of hr) (je_var 3) (je_add (je_var 4) (je_var 2)) je_int) (je_dget (hu_of hr) (je_var 1) (je_var 4) (zget_get (List.mem_map.mpr ⟨p, hp, rfl⟩))))))
      (jb_one (js_set 1 c_sums_of.nd (je_conv (je_star2 (l := lessD (sumsD (ss.take i)) c) (m := moreD (sumsD (ss.take i)) c) (by omega) (je_var 3) (je_var 5)) (show _ = dZ (sumsD (ss.take (i + 1))) by rw [sumsD_next hc]; rfl)) (wk_c (wk_c (wk_n (wk_n (wk_n (wk_n wk_0)))))))))
  · rw [List.length_map]
def R_print_by (ds : List D) (r : D) : Prop := ∃ (p : Int) (fs : List Int), fs ≠ [] ∧ fs.length ≤ 8 ∧ ds = [.int p, tI fs] ∧ r = tS (printS p fs)
theorem eq_nil {fs : List Int} (h : fs ≠ []) : decide (fs = []) = false := decide_eq_false h
theorem mul_two {j : Int} : CMul 2 j := .inl ⟨by decide, by decide⟩
theorem div_two {j : Int} : CDiv j 2 := ⟨by decide, by decide⟩
theorem at_last0 {ns : List Int} (h : ns ≠ []) : atI ns (-1) = some (ns.getLastD 0) := at_last h 0
theorem at_head0 {ns : List Int} (h : ns ≠ []) : atI ns 0 = some (ns.headD 0) := by
  cases ns with
  | nil => exact absurd rfl h
  | cons x r => exact atI_nat (j := 0) rfl
theorem f_print_by (B : BI mg) (F : DefAt K mg "print_by" s_print_by) (F_steps_in : Cal P w K mg base 1 "steps_in" ["folds"] (spJ R_steps_in)) (F_sums_of : Cal P w K mg base 1 "sums_of" ["steps"] (spJ R_sums_of)) (F_strip_of : Cal P w K mg base 1 "strip_of" ["drops"] (spJ R_strip_of)) : Cal P w K mg base 2 "print_by" ["place", "folds"] (spJ R_print_by) := by
  refine fn_cal F c_print_by (fun ds r h => ?_) (fun _ _ _ _ _ _ us hl => match us, hl with | [_, _], _ => rfl) (fun f cdv A outer s H E ds r hr h => ?_)
  · obtain ⟨p, fs, hf, hl, rfl, rfl⟩ := h
    rfl
  obtain ⟨p, fs, hf, hl, rfl, rfl⟩ := h
  have hps : (psums p fs).length ≤ 256 := by
    have h := psums_length p fs
    have h2 : 2 ^ (fs.length - 1 + 1) ≤ 2 ^ 8 := Nat.pow_le_pow_right (by decide) (by have : fs.length ≠ 0 := fun z => hf (List.length_eq_zero_iff.mp z); omega)
    omega
  refine jb_skip (jt_eqT (ms := []) hr (je_var 1) je_t0) (eq_nil hf) (jb_let 2 c_print_by.nd (je_call F_sums_of (hr.mono (by decide)) (ja_cons ((je_catT (es := [.int (absI (2 * p - fs.headD 0))]) ?_ (je_call F_steps_in (hr.mono (by decide)) (ja_cons ((je_var 1)) ja_nil) ⟨_, (by omega), rfl, rfl⟩) (je_t1 (je_abs B.b_abs (je_sub (je_mul mul_two je_int (je_var 0)) (je_ixTI (je_var 1) je_int (at_head0 hf))))))) ja_nil) ⟨stepsL fs ++ [absI (2 * p - fs.headD 0)], ?_, by unfold tI; rw [List.map_append]; rfl, rfl⟩)
    (jb_one (js_ret (je_call F_strip_of (hr.mono (by decide)) (ja_cons ((je_dictL (l := psums p fs) (k := fun q => (fs.getLastD 0 + q.1) / 2) (v := fun q => (zget (psums p fs) q.1).getD 0) rfl B.b_dict
      (je_lcD (l := psums p fs) 2 [("total", 3)] rfl rfl c_print_by.nd (blkOk_by (N := n_print_by) (sc := defScope s_print_by) (by decide +kernel)) (by omega) (fun _ _ _ _ _ => pg_name (i := 3) c_print_by.nd rfl (.inl rfl)) fun q hq s H C cl fp => je_t2 (je_div div_two (je_add (je_ixTI (je_var 1) (je_neg je_int) (at_last0 hf)) (je_var 3)) je_int) (je_dget (hu_of hr) (je_var 2) (je_var 3) (zget_get (List.mem_map.mpr ⟨q, hq, rfl⟩)))))) ja_nil) ⟨printD p fs, ?_, rfl, rfl⟩) rfl)))
  · rw [List.length_map, stepsL_length]
    show fs.length - 1 + 1 ≤ _
    omega
  · rw [List.length_append, stepsL_length]
    have : fs.length ≠ 0 := fun z => hf (List.length_eq_zero_iff.mp z)
    show fs.length - 1 + 1 ≤ 8
    omega
  · have h := zmerge_len ((psums p fs).map fun q => ((fs.getLastD 0 + q.1) / 2, (zget (psums p fs) q.1).getD 0))
    rw [List.length_map] at h
    unfold printD
    omega
def R_print_of (ds : List D) (r : D) : Prop := ∃ (p : Int) (fs : List Int), (-1000000000 ≤ p ∧ p ≤ 1000000000) ∧ okF fs ∧ fs ≠ [] ∧ fs.length ≤ 8 ∧ ds = [.int p, tI fs] ∧ r = tS (printS p fs)
theorem f_print_of (B : BI mg) (F : DefAt K mg "print_of" s_print_of) (F_need_place : Cal P w K mg base 3 "need_place" ["value"] (spJ R_need_place)) (F_need_folds : Cal P w K mg base 4 "need_folds" ["value"] (spJ R_needF)) (F_print_by : Cal P w K mg base 2 "print_by" ["place", "folds"] (spJ R_print_by)) : Cal P w K mg base 5 "print_of" ["place", "folds"] (spJ R_print_of) := by
  refine fn_cal F c_print_of (fun ds r h => ?_) (fun _ _ _ _ _ _ us hl => match us, hl with | [_, _], _ => rfl) (fun f cdv A outer s H E ds r hr h => ?_)
  · obtain ⟨p, fs, hp, ok, hf, hl, rfl, rfl⟩ := h
    rfl
  obtain ⟨p, fs, hp, ok, hf, hl, rfl, rfl⟩ := h
  exact jb_do (je_call F_need_place (hr.mono (by decide)) (ja_cons ((je_var 0)) ja_nil) ⟨_, hp, rfl, rfl⟩) (jb_do (je_call F_need_folds (hr.mono (by decide)) (ja_cons ((je_var 1)) ja_nil) ⟨_, ok, rfl, rfl⟩) (jb_one (js_ret (je_call F_print_by (hr.mono (by decide)) (ja_cons ((je_var 0)) (ja_cons ((je_var 1)) ja_nil)) ⟨_, _, hf, hl, rfl, rfl⟩) rfl)))
end
end L2.K79

set_option Elab.async false
set_option linter.all false
set_option maxRecDepth 100000
set_option maxHeartbeats 4000000
namespace L2.K79
open PySem PySem.Spec PyProof.Rows L2
structure okL (l : List Int) : Prop where
  len : l.length ≤ 256
  each : ∀ p ∈ l, -100000 ≤ p ∧ p ≤ 100000
  lt : l.Pairwise (· < ·)
/-- a tuple of ints, known or not -/
def isT (d : D) (ns : List Int) : Prop := d = tI ns ∨ d = .tux (ns.map D.int)
section
variable {P : Program} {w : World} {K : PySem.W.Frag} {mg : Str → Option Value} {base : Heap}
theorem je_isT {X : Cx} {G : Gm} {e : Expr} {d : D} {ns : List Int} (h : isT d ns) (he : JE X e G d) : JE X e G (tI ns) := by
  rcases h with rfl | rfl
  · exact he
  · exact je_weak he
def R_fits_lot (ds : List D) (r : D) : Prop := ∃ (d : D) (l : List Int), isT d l ∧ okL l ∧ ds = [d] ∧ r = .bl true
theorem f_fits_lot (B : BI mg) (F : DefAt K mg "fits_lot" s_fits_lot) (F_is_tuple_of : Cal P w K mg base 1 "is_tuple_of" ["value", "low", "high"] (spJ R_tuple)) (F_is_whole : Cal P w K mg base 1 "is_whole" ["value", "low", "high"] (spJ R_whole)) : Cal P w K mg base 2 "fits_lot" ["value"] (spJ R_fits_lot) := by
  refine fn_cal F c_fits_lot (fun ds r h => ?_) (fun _ _ _ _ _ _ us hl => match us, hl with | [_], _ => rfl) (fun f cdv A outer s H E ds r hr h => ?_)
  · obtain ⟨d, l, hd, ok, rfl, rfl⟩ := h
    rfl
  obtain ⟨d, l, hd, ok, rfl, rfl⟩ := h
  have hl := ok.len
  refine jb_skip (k := false) (jt_conv (jw_pt (jw_or (k := !inR 0 (l.map D.int).length 256) (jt_not (jt_of (je_call F_is_tuple_of (hr.mono (by decide)) (ja_cons ((je_var 0)) (ja_cons je_int (ja_cons (je_globI B.k_PLACES) ja_nil))) ⟨_, _, _, _, hd, rfl, rfl⟩))) fun _ => jw_or1 (k := !(l.all fun p => inR (-100000) p 100000)) (jt_not (jt_of (je_allM (l := l) (g := fun p => inR (-100000) p 100000) B.b_all
      (je_mapN (x := "place") 1 (l := l) (emb := D.int) c_fits_lot.nd (ji_tI (je_isT hd (je_var 0))) (blkOk_by (N := n_fits_lot) (sc := defScope s_fits_lot) (by decide +kernel)) (by omega) (fun _ _ _ _ _ => pg_name (i := 1) c_fits_lot.nd rfl (.inl rfl)) fun p hp s H C cl fp => je_call F_is_whole (hr.mono (by decide)) (ja_cons ((je_var 1)) (ja_cons ((je_neg (je_globI B.k_FARTHEST_inkedplaces))) (ja_cons (je_globI B.k_FARTHEST_inkedplaces) ja_nil))) ⟨_, _, _, rfl, rfl⟩)))))) ?_) rfl
    (jb_one (js_ret (je_allM (l := l.zip (l.drop 1)) (g := fun q => decide (q.1 < q.2)) B.b_all
      (je_mapP (x := "one") (y := "other") 2 3 (l := l.zip (l.drop 1)) (d1 := fun q => .int q.1) (d2 := fun q => .int q.2) c_fits_lot.nd (ji_zipI B.b_zip (je_isT hd (je_var 0)) (je_tailI (je_isT hd (je_var 0)))) (blkOk_by (N := n_fits_lot) (sc := defScope s_fits_lot) (by decide +kernel)) (by rw [List.length_zip]; omega) (fun _ _ _ _ _ => pg_tup rfl (pgs_cons (pg_name (i := 2) c_fits_lot.nd rfl (.inl rfl)) (pgs_cons (pg_name (i := 3) c_fits_lot.nd rfl (.inl rfl)) pgs_nil))) fun q hq s H C cl fp => je_lt (je_var 2) (je_var 3))) ?_))
  · have h1 : inR 0 (l.map D.int).length 256 = true := inR_iff.mpr ⟨by omega, by rw [List.length_map]; omega⟩
    have h2 : (l.all fun p => inR (-100000) p 100000) = true := List.all_eq_true.mpr fun p hp => inR_iff.mpr (ok.each p hp)
    rw [h1, h2]
    rfl
  · have h2 : ((l.zip (l.drop 1)).all fun q => decide (q.1 < q.2)) = true := List.all_eq_true.mpr fun q hq => decide_eq_true (zip_adj ok.lt q hq)
    rw [h2]
def R_need_lot (ds : List D) (r : D) : Prop := ∃ (d : D) (l : List Int), isT d l ∧ okL l ∧ ds = [d] ∧ r = .non
theorem f_need_lot (B : BI mg) (F : DefAt K mg "need_lot" s_need_lot) (F_fits_lot : Cal P w K mg base 2 "fits_lot" ["value"] (spJ R_fits_lot)) : Cal P w K mg base 3 "need_lot" ["value"] (spJ R_need_lot) := by
  refine fn_cal F c_need_lot (fun ds r h => ?_) (fun _ _ _ _ _ _ us hl => match us, hl with | [_], _ => rfl) (fun f cdv A outer s H E ds r hr h => ?_)
  · obtain ⟨d, l, hd, ok, rfl, rfl⟩ := h
    rfl
  obtain ⟨d, l, hd, ok, rfl, rfl⟩ := h
  exact jb_skip (k := false) (jt_not (k := true) (jt_of (je_call F_fits_lot (hr.mono (by decide)) (ja_cons ((je_var 0)) ja_nil) ⟨_, _, hd, ok, rfl, rfl⟩))) rfl (jb_nil rfl)
def R_inked (ds : List D) (r : D) : Prop := ∃ (d : D) (l fs : List Int), isT d l ∧ l.length * 2 ^ fs.length ≤ 4000 ∧ ds = [d, tI fs] ∧ r = lI (ink l fs)
theorem ink_next {l fs : List Int} {i : Nat} {c : Int} (h : fs[i]? = some c) : ink l (fs.take (i + 1)) = inkS (ink l (fs.take i)) c := by
  rw [take_get h]
  unfold ink
  rw [List.foldl_append]
  rfl
theorem ink_bound {l fs : List Int} {b : Nat} (hb : l.length * 2 ^ fs.length ≤ b) {i : Nat} (hi : i < fs.length) : 2 * (ink l (fs.take i)).length ≤ b := by
  have h := ink_length (fs.take i) l
  have h2 : 2 ^ (i + 1) ≤ 2 ^ fs.length := Nat.pow_le_pow_right (by decide) hi
  have h3 : l.length * 2 ^ (i + 1) ≤ l.length * 2 ^ fs.length := Nat.mul_le_mul_left _ h2
  rw [List.length_take, Nat.min_eq_left (Nat.le_of_lt hi)] at h
  rw [Nat.pow_succ, ← Nat.mul_assoc] at h3
  omega
theorem f_inked (B : BI mg) (F : DefAt K mg "inked" s_inked) : Cal P w K mg base 1 "inked" ["lot", "folds"] (spJ R_inked) := by
  refine fn_cal F c_inked (fun ds r h => ?_) (fun _ _ _ _ _ _ us hl => match us, hl with | [_, _], _ => rfl) (fun f cdv A outer s H E ds r hr h => ?_)
  · obtain ⟨d, l, fs, hd, hb, rfl, rfl⟩ := h
    rfl
  obtain ⟨d, l, fs, hd, hb, rfl, rfl⟩ := h
  refine jb_let 2 c_inked.nd (je_listT B.b_list (je_isT hd (je_var 0))) (jb_for (G1 := [some d, some (tI fs), some (lI (ink l (fs.take fs.length))), none, none]) (js_for (fs.map D.int) (fun i => [some d, some (tI fs), some (lI (ink l (fs.take i))), none, none]) (fun i x => [some d, some (tI fs), some (lI (ink l (fs.take i))), some x, none]) PassesOwn.never rfl (ji_tI (je_var 1)) (pg_name (i := 3) c_inked.nd rfl (.inr rfl)) (Wk.refl _)
    (fun i d h => gf_name) (fun i d h => ?_) ?_) (jb_one (js_ret (je_conv (je_var 2) (by rw [List.take_length])) rfl)))
  · obtain ⟨c, hc, rfl⟩ := get_map h
    have hb2 := ink_bound hb (List.getElem?_eq_some_iff.mp hc).1
    refine jb_one (js_set 2 c_inked.nd (je_conv (je_sset (ns := ink l (fs.take i) ++ (ink l (fs.take i)).map fun p => c - p) (.inl rfl) rfl B.b_sorted B.b_set (je_conv (je_catL (ds := (ink l (fs.take i)).map D.int) (es := (ink l (fs.take i)).map fun p => .int (c - p)) (by rw [List.length_map, List.length_map]; omega) (je_var 2) (je_mapN (x := "place") 4 (l := ink l (fs.take i)) (emb := D.int) (f := fun p => .int (c - p)) c_inked.nd (ji_lI (je_var 2)) (blkOk_by (N := n_inked) (sc := defScope s_inked) (by decide +kernel)) (by omega) (fun _ _ _ _ _ => pg_name (i := 4) c_inked.nd rfl (.inl rfl)) fun p hp s H C cl fp => je_sub (je_var 3) (je_var 4))) (by unfold lI; rw [List.map_append, List.map_map]; rfl)) (by rw [List.length_append, List.length_map]; omega))
      (show _ = lI (ink l (fs.take (i + 1))) by rw [ink_next hc]; rfl)) (wk_c (wk_c (wk_c (wk_n (wk_n wk_0))))))
  · rw [List.length_map]
def R_all_sums (ds : List D) (r : D) : Prop := ∃ ss : List Int, ss.length ≤ 8 ∧ ds = [tI ss] ∧ r = tI (allSums ss)
theorem sums_next {ss : List Int} {i : Nat} {c : Int} (h : ss[i]? = some c) : allSums (ss.take (i + 1)) = sumS (allSums (ss.take i)) c := by
  rw [take_get h]
  unfold allSums
  rw [List.foldl_append]
  rfl
theorem sums_bound {ss : List Int} (h : ss.length ≤ 8) (i : Nat) : (allSums (ss.take i)).length ≤ 256 := by
  have h1 := allSums_length (ss.take i)
  have h2 : 2 ^ (ss.take i).length ≤ 2 ^ 8 := Nat.pow_le_pow_right (by decide) (by rw [List.length_take]; omega)
  omega
theorem f_all_sums (B : BI mg) (F : DefAt K mg "all_sums" s_all_sums) : Cal P w K mg base 1 "all_sums" ["steps"] (spJ R_all_sums) := by
  refine fn_cal F c_all_sums (fun ds r h => ?_) (fun _ _ _ _ _ _ us hl => match us, hl with | [_], _ => rfl) (fun f cdv A outer s H E ds r hr h => ?_)
  · obtain ⟨ss, hs, rfl, rfl⟩ := h
    rfl
  obtain ⟨ss, hs, rfl, rfl⟩ := h
  refine jb_let 1 c_all_sums.nd (je_l1 je_int) (jb_for (G1 := [some (tI ss), some (lI (allSums (ss.take ss.length))), none, none]) (js_for (ss.map D.int) (fun i => [some (tI ss), some (lI (allSums (ss.take i))), none, none]) (fun i x => [some (tI ss), some (lI (allSums (ss.take i))), some x, none]) PassesOwn.never rfl (ji_tI (je_var 0)) (pg_name (i := 2) c_all_sums.nd rfl (.inr rfl)) (Wk.refl _)
    (fun i d h => gf_name) (fun i d h => ?_) ?_) (jb_one (js_ret (je_tupleL B.b_tuple (je_conv (je_var 1) (show _ = lI (allSums ss) by rw [List.take_length]))) rfl)))
  · obtain ⟨c, hc, rfl⟩ := get_map h
    have hb := sums_bound hs i
    refine jb_one (js_set 1 c_all_sums.nd (je_conv (je_sset (ns := ((allSums (ss.take i)).map fun t => t + c) ++ (allSums (ss.take i)).map fun t => t - c) (.inl rfl) rfl B.b_sorted B.b_set (je_conv (je_catL (ds := (allSums (ss.take i)).map fun t => .int (t + c)) (es := (allSums (ss.take i)).map fun t => .int (t - c)) (by rw [List.length_map, List.length_map]; omega)
        (je_mapN (x := "total") 3 (l := allSums (ss.take i)) (emb := D.int) (f := fun t => .int (t + c)) c_all_sums.nd (ji_lI (je_var 1)) (blkOk_by (N := n_all_sums) (sc := defScope s_all_sums) (by decide +kernel)) (by omega) (fun _ _ _ _ _ => pg_name (i := 3) c_all_sums.nd rfl (.inl rfl)) fun p hp s H C cl fp => je_add (je_var 3) (je_var 2))
        (je_mapN (x := "total") 3 (l := allSums (ss.take i)) (emb := D.int) (f := fun t => .int (t - c)) c_all_sums.nd (ji_lI (je_var 1)) (blkOk_by (N := n_all_sums) (sc := defScope s_all_sums) (by decide +kernel)) (by omega) (fun _ _ _ _ _ => pg_name (i := 3) c_all_sums.nd rfl (.inl rfl)) fun p hp s H C cl fp => je_sub (je_var 3) (je_var 2))) (by unfold lI; rw [List.map_append, List.map_map, List.map_map]; rfl)) (by rw [List.length_append, List.length_map, List.length_map]; omega))
      (show _ = lI (allSums (ss.take (i + 1))) by rw [sums_next hc]; rfl)) (wk_c (wk_c (wk_n (wk_n wk_0)))))
  · rw [List.length_map]
def R_sums_in (ds : List D) (r : D) : Prop := ∃ fs : List Int, fs.length ≤ 8 ∧ ds = [tI fs] ∧ r = tI (sumsIn fs)
theorem f_sums_in (B : BI mg) (F : DefAt K mg "sums_in" s_sums_in) (F_all_sums : Cal P w K mg base 1 "all_sums" ["steps"] (spJ R_all_sums)) (F_steps_in : Cal P w K mg base 1 "steps_in" ["folds"] (spJ R_steps_in)) : Cal P w K mg base 2 "sums_in" ["folds"] (spJ R_sums_in) := by
  refine fn_cal F c_sums_in (fun ds r h => ?_) (fun _ _ _ _ _ _ us hl => match us, hl with | [_], _ => rfl) (fun f cdv A outer s H E ds r hr h => ?_)
  · obtain ⟨fs, hf, rfl, rfl⟩ := h
    rfl
  obtain ⟨fs, hf, rfl, rfl⟩ := h
  refine jb_one (js_ret (je_if (k := !decide (fs = [])) (jt_neT (ms := []) hr (je_var 0) je_t0) (fun h => je_conv (je_call F_all_sums (hr.mono (by decide)) (ja_cons ((je_call F_steps_in (hr.mono (by decide)) (ja_cons ((je_var 0)) ja_nil) ⟨_, (by omega), rfl, rfl⟩)) ja_nil) ⟨stepsL fs, by rw [stepsL_length]; omega, rfl, rfl⟩) ?_) (fun h => je_conv je_t0 ?_)) rfl)
  · have h : fs ≠ [] := by simpa using h
    unfold sumsIn
    rw [if_neg h]
  · have h : fs = [] := by simpa using h
    unfold sumsIn
    rw [if_pos h]
    rfl
def R_are_alike (ds : List D) (r : D) : Prop := ∃ fs gs : List Int, fs.length ≤ 8 ∧ gs.length ≤ 8 ∧ ds = [tI fs, tI gs] ∧ r = .bl (alikeB fs gs)
theorem or_nil {fs gs : List Int} : (decide (fs = []) || decide (gs = [])) = true ↔ (fs = [] ∨ gs = []) := by
  rw [Bool.or_eq_true, decide_eq_true_iff, decide_eq_true_iff]
theorem je_eqTP {X : Cx} {G : Gm} {pos : Pos} {a b : Expr} {m : Nat} {i j k l : Int} (hr : Room m X.A) (ha : JE X a G (.tup [.int i, .int j])) (hb : JE X b G (.tup [.int k, .int l])) : JE X (.Compare a [.Eq] [b] pos) G (.bl (decide (i = k ∧ j = l))) :=
  je_conv (je_eqT (ns := [i, j]) (ms := [k, l]) hr ha hb) (by simp)
theorem f_are_alike (B : BI mg) (F : DefAt K mg "are_alike" s_are_alike) (F_sums_in : Cal P w K mg base 2 "sums_in" ["folds"] (spJ R_sums_in)) : Cal P w K mg base 3 "are_alike" ["folds", "other_folds"] (spJ R_are_alike) := by
  refine fn_cal F c_are_alike (fun ds r h => ?_) (fun _ _ _ _ _ _ us hl => match us, hl with | [_, _], _ => rfl) (fun f cdv A outer s H E ds r hr h => ?_)
  · obtain ⟨fs, gs, hf, hg, rfl, rfl⟩ := h
    rfl
  obtain ⟨fs, gs, hf, hg, rfl, rfl⟩ := h
  refine jb_ifret (k := decide (fs = []) || decide (gs = [])) (jw_pt (jw_or (jt_eqT (ms := []) hr (je_var 0) je_t0) fun _ => jw_or1 (jt_eqT (ms := []) hr (je_var 1) je_t0))) (fun h => jb_one (js_ret (je_eqT hr (je_var 0) (je_var 1)) ?_)) fun h => ?_
  · unfold alikeB
    rw [if_pos (or_nil.mp h)]
  · have hn : ¬ (fs = [] ∨ gs = []) := fun z => by rw [or_nil.mpr z] at h; cases h
    have hf0 : fs ≠ [] := fun z => hn (.inl z)
    have hg0 : gs ≠ [] := fun z => hn (.inr z)
    refine jb_let 2 c_are_alike.nd (je_eqTP hr (je_t2 (je_ixTI (je_var 0) je_int (at_head0 hf0)) (je_ixTI (je_var 0) (je_neg je_int) (at_last0 hf0))) (je_t2 (je_ixTI (je_var 1) je_int (at_head0 hg0)) (je_ixTI (je_var 1) (je_neg je_int) (at_last0 hg0))))
      (jb_one (js_ret (je_and (k := decide (fs.headD 0 = gs.headD 0 ∧ fs.getLastD 0 = gs.getLastD 0)) (je_var 2) fun _ => je_one (je_eqT hr (je_call F_sums_in (hr.mono (by decide)) (ja_cons ((je_var 0)) ja_nil) ⟨_, hf, rfl, rfl⟩) (je_call F_sums_in (hr.mono (by decide)) (ja_cons ((je_var 1)) ja_nil) ⟨_, hg, rfl, rfl⟩))) ?_))
    unfold alikeB
    rw [if_neg hn]
def R_need_few_folds (ds : List D) (r : D) : Prop := ∃ fs : List Int, fs.length ≤ 8 ∧ ds = [tI fs] ∧ r = .non
theorem f_need_few_folds (B : BI mg) (F : DefAt K mg "need_few_folds" s_need_few_folds) : Cal P w K mg base 1 "need_few_folds" ["folds"] (spJ R_need_few_folds) := by
  refine fn_cal F c_need_few_folds (fun ds r h => ?_) (fun _ _ _ _ _ _ us hl => match us, hl with | [_], _ => rfl) (fun f cdv A outer s H E ds r hr h => ?_)
  · obtain ⟨fs, hf, rfl, rfl⟩ := h
    rfl
  obtain ⟨fs, hf, rfl, rfl⟩ := h
  exact jb_skip (jt_gt (je_lenTI B.b_len (je_var 0)) (je_globI B.k_FOLDS_inkedplaces)) (decide_eq_false (by omega)) (jb_nil rfl)
def R_inked_by (ds : List D) (r : D) : Prop := ∃ (d : D) (l fs : List Int), isT d l ∧ okL l ∧ okF fs ∧ l.length * 2 ^ fs.length ≤ 4000 ∧ ds = [d, tI fs] ∧ r = tI (ink l fs)
theorem f_inked_by (B : BI mg) (F : DefAt K mg "inked_by" s_inked_by) (F_need_lot : Cal P w K mg base 3 "need_lot" ["value"] (spJ R_need_lot)) (F_need_folds : Cal P w K mg base 4 "need_folds" ["value"] (spJ R_needF)) (F_inked : Cal P w K mg base 1 "inked" ["lot", "folds"] (spJ R_inked)) : Cal P w K mg base 5 "inked_by" ["lot", "folds"] (spJ R_inked_by) := by
  refine fn_cal F c_inked_by (fun ds r h => ?_) (fun _ _ _ _ _ _ us hl => match us, hl with | [_, _], _ => rfl) (fun f cdv A outer s H E ds r hr h => ?_)
  · obtain ⟨d, l, fs, hd, okl, okf, hb, rfl, rfl⟩ := h
    rfl
  obtain ⟨d, l, fs, hd, okl, okf, hb, rfl, rfl⟩ := h
  have h := ink_length fs l
  exact jb_do (je_call F_need_lot (hr.mono (by decide)) (ja_cons ((je_var 0)) ja_nil) ⟨_, _, hd, okl, rfl, rfl⟩) (jb_do (je_call F_need_folds (hr.mono (by decide)) (ja_cons ((je_var 1)) ja_nil) ⟨_, okf, rfl, rfl⟩) (jb_let 2 c_inked_by.nd (je_call F_inked (hr.mono (by decide)) (ja_cons ((je_var 0)) (ja_cons ((je_var 1)) ja_nil)) ⟨_, _, _, hd, hb, rfl, rfl⟩) (jb_skip (jt_gt (je_lenLI B.b_len (je_var 2)) (je_globI B.k_MOST_inkedplaces)) (decide_eq_false (by omega)) (jb_one (js_ret (je_tupleL B.b_tuple (je_var 2)) rfl)))))
def R_sums_by (ds : List D) (r : D) : Prop := ∃ fs : List Int, okF fs ∧ fs.length ≤ 8 ∧ ds = [tI fs] ∧ r = tI (sumsIn fs)
theorem f_sums_by (B : BI mg) (F : DefAt K mg "sums_by" s_sums_by) (F_need_folds : Cal P w K mg base 4 "need_folds" ["value"] (spJ R_needF)) (F_sums_in : Cal P w K mg base 2 "sums_in" ["folds"] (spJ R_sums_in)) : Cal P w K mg base 5 "sums_by" ["folds"] (spJ R_sums_by) := by
  refine fn_cal F c_sums_by (fun ds r h => ?_) (fun _ _ _ _ _ _ us hl => match us, hl with | [_], _ => rfl) (fun f cdv A outer s H E ds r hr h => ?_)
  · obtain ⟨fs, ok, hf, rfl, rfl⟩ := h
    rfl
  obtain ⟨fs, ok, hf, rfl, rfl⟩ := h
  exact jb_do (je_call F_need_folds (hr.mono (by decide)) (ja_cons ((je_var 0)) ja_nil) ⟨_, ok, rfl, rfl⟩) (jb_one (js_ret (je_call F_sums_in (hr.mono (by decide)) (ja_cons ((je_var 0)) ja_nil) ⟨_, hf, rfl, rfl⟩) rfl))
def R_alike_by_places (ds : List D) (r : D) : Prop := ∃ fs gs : List Int, okF fs ∧ okF gs ∧ fs.length ≤ 8 ∧ gs.length ≤ 8 ∧ ds = [tI fs, tI gs] ∧ r = .bl (alikeB fs gs)
theorem f_alike_by_places (B : BI mg) (F : DefAt K mg "alike_by_places" s_alike_by_places) (F_need_folds : Cal P w K mg base 4 "need_folds" ["value"] (spJ R_needF)) (F_are_alike : Cal P w K mg base 3 "are_alike" ["folds", "other_folds"] (spJ R_are_alike)) : Cal P w K mg base 5 "alike_by_places" ["folds", "other_folds"] (spJ R_alike_by_places) := by
  refine fn_cal F c_alike_by_places (fun ds r h => ?_) (fun _ _ _ _ _ _ us hl => match us, hl with | [_, _], _ => rfl) (fun f cdv A outer s H E ds r hr h => ?_)
  · obtain ⟨fs, gs, okf, okg, hf, hg, rfl, rfl⟩ := h
    rfl
  obtain ⟨fs, gs, okf, okg, hf, hg, rfl, rfl⟩ := h
  exact jb_do (je_call F_need_folds (hr.mono (by decide)) (ja_cons ((je_var 0)) ja_nil) ⟨_, okf, rfl, rfl⟩) (jb_do (je_call F_need_folds (hr.mono (by decide)) (ja_cons ((je_var 1)) ja_nil) ⟨_, okg, rfl, rfl⟩) (jb_one (js_ret (je_call F_are_alike (hr.mono (by decide)) (ja_cons ((je_var 0)) (ja_cons ((je_var 1)) ja_nil)) ⟨_, _, hf, hg, rfl, rfl⟩) rfl)))
/-! ### forms -/
def formD (fs : List Int) : D := .tup [.int (fs.headD 0), .int (fs.getLastD 0), tI (stepsL fs)]
def R_form_in (ds : List D) (r : D) : Prop := ∃ fs : List Int, fs ≠ [] ∧ fs.length ≤ 12 ∧ ds = [tI fs] ∧ r = formD fs
theorem f_form_in (B : BI mg) (F : DefAt K mg "form_in" s_form_in) (F_steps_in : Cal P w K mg base 1 "steps_in" ["folds"] (spJ R_steps_in)) : Cal P w K mg base 2 "form_in" ["folds"] (spJ R_form_in) := by
  refine fn_cal F c_form_in (fun ds r h => ?_) (fun _ _ _ _ _ _ us hl => match us, hl with | [_], _ => rfl) (fun f cdv A outer s H E ds r hr h => ?_)
  · obtain ⟨fs, hf, hl, rfl, rfl⟩ := h
    rfl
  obtain ⟨fs, hf, hl, rfl, rfl⟩ := h
  exact jb_one (js_ret (je_t3 (je_ixTI (je_var 0) je_int (at_head0 hf)) (je_ixTI (je_var 0) (je_neg je_int) (at_last0 hf)) (je_call F_steps_in (hr.mono (by decide)) (ja_cons ((je_var 0)) ja_nil) ⟨_, hl, rfl, rfl⟩)) rfl)
def R_are_one (ds : List D) (r : D) : Prop := ∃ fs gs : List Int, fs.length ≤ 8 ∧ gs.length ≤ 8 ∧ ds = [tI fs, tI gs] ∧ r = .bl (oneB fs gs)
theorem ok_form (fs : List Int) : okD 60 (formD fs) = true := by
  unfold formD okD
  simp only [List.all_cons, List.all_nil, Bool.and_true]
  have h1 : ∀ i : Int, okD 59 (.int i) = true := fun _ => rfl
  rw [h1, h1, ok_tI 58]
  rfl
theorem py_form {fs gs : List Int} : (formD fs).py = (formD gs).py ↔ (fs.headD 0 = gs.headD 0 ∧ fs.getLastD 0 = gs.getLastD 0 ∧ stepsL fs = stepsL gs) := by
  unfold formD
  rw [py_tup, py_tup]
  simp only [List.map_cons, List.map_nil, PyData.tuple.injEq, List.cons.injEq, and_true, py_tI, py_int, PyData.int.injEq]
theorem f_are_one (B : BI mg) (F : DefAt K mg "are_one" s_are_one) (F_form_in : Cal P w K mg base 2 "form_in" ["folds"] (spJ R_form_in)) : Cal P w K mg base 3 "are_one" ["folds", "beside"] (spJ R_are_one) := by
  refine fn_cal F c_are_one (fun ds r h => ?_) (fun _ _ _ _ _ _ us hl => match us, hl with | [_, _], _ => rfl) (fun f cdv A outer s H E ds r hr h => ?_)
  · obtain ⟨fs, gs, hf, hg, rfl, rfl⟩ := h
    rfl
  obtain ⟨fs, gs, hf, hg, rfl, rfl⟩ := h
  refine jb_ifret (k := decide (fs = []) || decide (gs = [])) (jw_pt (jw_or (jt_eqT (ms := []) hr (je_var 0) je_t0) fun _ => jw_or1 (jt_eqT (ms := []) hr (je_var 1) je_t0))) (fun h => jb_one (js_ret (je_eqT hr (je_var 0) (je_var 1)) ?_)) fun h => ?_
  · unfold oneB
    rw [if_pos (or_nil.mp h)]
  · have hn : ¬ (fs = [] ∨ gs = []) := fun z => by rw [or_nil.mpr z] at h; cases h
    have hf0 : fs ≠ [] := fun z => hn (.inl z)
    have hg0 : gs ≠ [] := fun z => hn (.inr z)
    refine jb_one (js_ret (je_eq (k := decide (fs.headD 0 = gs.headD 0 ∧ fs.getLastD 0 = gs.getLastD 0 ∧ stepsL fs = stepsL gs)) (d := formD fs) (e := formD gs) hr (ok_form fs) (ok_form gs) (by rw [decide_eq_true_iff, py_form]) (je_call F_form_in (hr.mono (by decide)) (ja_cons ((je_var 0)) ja_nil) ⟨_, hf0, (by omega), rfl, rfl⟩) (je_call F_form_in (hr.mono (by decide)) (ja_cons ((je_var 1)) ja_nil) ⟨_, hg0, (by omega), rfl, rfl⟩)) ?_)
    unfold oneB
    rw [if_neg hn]
def R_rows_alike (ds : List D) (r : D) : Prop := ∃ fs gs : List Int, okF fs ∧ okF gs ∧ fs.length ≤ 8 ∧ gs.length ≤ 8 ∧ ds = [tI fs, tI gs] ∧ r = .bl (oneB fs gs)
theorem f_rows_alike (B : BI mg) (F : DefAt K mg "rows_alike" s_rows_alike) (F_need_folds : Cal P w K mg base 4 "need_folds" ["value"] (spJ R_needF)) (F_are_one : Cal P w K mg base 3 "are_one" ["folds", "beside"] (spJ R_are_one)) : Cal P w K mg base 5 "rows_alike" ["folds", "beside"] (spJ R_rows_alike) := by
  refine fn_cal F c_rows_alike (fun ds r h => ?_) (fun _ _ _ _ _ _ us hl => match us, hl with | [_, _], _ => rfl) (fun f cdv A outer s H E ds r hr h => ?_)
  · obtain ⟨fs, gs, okf, okg, hf, hg, rfl, rfl⟩ := h
    rfl
  obtain ⟨fs, gs, okf, okg, hf, hg, rfl, rfl⟩ := h
  exact jb_do (je_call F_need_folds (hr.mono (by decide)) (ja_cons ((je_var 0)) ja_nil) ⟨_, okf, rfl, rfl⟩) (jb_do (je_call F_need_folds (hr.mono (by decide)) (ja_cons ((je_var 1)) ja_nil) ⟨_, okg, rfl, rfl⟩) (jb_one (js_ret (je_call F_are_one (hr.mono (by decide)) (ja_cons ((je_var 0)) (ja_cons ((je_var 1)) ja_nil)) ⟨_, _, hf, hg, rfl, rfl⟩) rfl)))
end
end L2.K79

set_option Elab.async false
set_option linter.all false
set_option maxRecDepth 100000
set_option maxHeartbeats 4000000
namespace L2.K79
open PySem PySem.Spec PyProof.Rows L2
/-! ### a dict as a set -/
def kb (l : List Int) : List (Key × V) := mergeK [] (l.map fun x => (Sum.inl x, V.bl true))
theorem putK_keys (l : List (Key × V)) (k : Key) (v : V) (z : Key) : z ∈ (putK l k v).map (·.1) ↔ z ∈ l.map (·.1) ∨ z = k := by
  unfold putK
  split
  · rename_i h
    rw [List.map_map]
    have e : (List.map ((fun x : Key × V => x.1) ∘ fun p : Key × V => if p.1 = k then (p.1, v) else p) l) = l.map (·.1) := by
      apply List.map_congr_left
      intro p _
      show (if p.1 = k then (p.1, v) else p).1 = p.1
      split <;> rfl
    rw [e]
    constructor
    · exact .inl
    · rintro (h1 | rfl)
      · exact h1
      · obtain ⟨p, hp, hk⟩ := List.any_eq_true.mp h
        exact List.mem_map.mpr ⟨p, hp, of_decide_eq_true hk⟩
  · rw [List.map_append, List.mem_append]
    simp
theorem mergeK_keys (z : Key) : ∀ (b a : List (Key × V)), z ∈ (mergeK a b).map (·.1) ↔ z ∈ a.map (·.1) ∨ z ∈ b.map (·.1)
  | [], a => by simp [mergeK]
  | p :: b, a => by
    show z ∈ (mergeK (putK a p.1 p.2) b).map (·.1) ↔ _
    rw [mergeK_keys z b, putK_keys, List.map_cons, List.mem_cons]
    constructor
    · rintro ((h | h) | h)
      · exact .inl h
      · exact .inr (.inl h)
      · exact .inr (.inr h)
    · rintro (h | h | h)
      · exact .inl (.inl h)
      · exact .inl (.inr h)
      · exact .inr h
theorem kb_in (l : List Int) (n : Int) : (valV (kb l) (Sum.inl n)).isSome = decide (n ∈ l) := by
  have h : (Sum.inl n : Key) ∈ (kb l).map (·.1) ↔ n ∈ l := by
    unfold kb
    rw [mergeK_keys, List.map_map]
    simp only [List.map_nil, List.not_mem_nil, false_or, List.mem_map, Function.comp]
    constructor
    · rintro ⟨x, hx, e⟩
      rw [← Sum.inl.inj e]
      exact hx
    · intro h
      exact ⟨n, h, rfl⟩
  unfold valV
  rw [Option.isSome_map]
  refine eq_bool (P := n ∈ l) ?_ decide_eq_true_iff
  rw [List.find?_isSome, ← h, List.mem_map]
  constructor
  · rintro ⟨x, hx, e⟩
    exact ⟨x, hx, of_decide_eq_true e⟩
  · rintro ⟨x, hx, e⟩
    exact ⟨x, hx, decide_eq_true e⟩
section
variable {X : Cx} {G : Gm} {pos : Pos} {a b c e : Expr}
theorem je_inD {l : List Int} {n : Int} (hu : X.A.units + 1 < cLine) (ha : JE X a G (.int n)) (hb : JE X b G (.dct (kb l))) (h1 : behindInMarks .In b = false := by rfl) : JE X (.Compare a [.In] [b] pos) G (.bl (decide (n ∈ l))) := je_conv (je_din hu ha hb h1) (by rw [kb_in])
/-! ### lists of pairs -/
theorem ok_pD (n : Nat) (p : Int × Int) : okD (n + 2) (pD p) = true := by
  unfold pD okD
  simp only [List.all_cons, List.all_nil, Bool.and_true]
  have h1 : ∀ i : Int, okD (n + 1) (.int i) = true := fun _ => rfl
  rw [h1, h1]
  rfl
theorem ok_lP (n : Nat) (l : Sp2) : okD (n + 3) (.lst (l.map pD)) = true := by
  unfold okD
  rw [List.all_map, List.all_eq_true]
  intro x _
  exact ok_pD n x
theorem py_pD {p q : Int × Int} : (pD p).py = (pD q).py ↔ p = q := by
  unfold pD
  rw [py_tup, py_tup]
  simp only [List.map_cons, List.map_nil, PyData.tuple.injEq, List.cons.injEq, and_true, py_int, PyData.int.injEq]
  exact ⟨fun h => Prod.ext h.1 h.2, fun h => by rw [h]; exact ⟨rfl, rfl⟩⟩
theorem py_lP {l m : Sp2} : (D.lst (l.map pD)).py = (D.lst (m.map pD)).py ↔ l = m := by
  constructor
  · intro h
    rw [py_lst, py_lst, PyData.list.injEq, List.map_map, List.map_map] at h
    exact List.map_inj_right (f := D.py ∘ pD) (fun x y e => py_pD.mp e) |>.mp h
  · intro h; rw [h]
theorem je_eqP {l m : Sp2} {k : Nat} (hr : Room k X.A) (ha : JE X a G (.lst (l.map pD))) (hb : JE X b G (.lst (m.map pD))) : JE X (.Compare a [.Eq] [b] pos) G (.bl (decide (l = m))) :=
  je_eq hr (ok_lP 57 _) (ok_lP 57 _) (by rw [decide_eq_true_iff, py_lP]) ha hb
end
section
variable {P : Program} {w : World} {K : PySem.W.Frag} {mg : Str → Option Value} {base : Heap}
theorem one_bound {p : Int} {fs : List Int} {b : Nat} (h : fs.length ≤ b) (hb : b ≤ 10) : ([p] : List Int).length * 2 ^ fs.length ≤ 4000 := by
  have h2 : 2 ^ fs.length ≤ 2 ^ 10 := Nat.pow_le_pow_right (by decide) (by omega)
  show 1 * 2 ^ fs.length ≤ 4000
  omega
def R_greatest_in (ds : List D) (r : D) : Prop := ∃ l fs : List Int, l.length ≤ 4000 ∧ fs.length ≤ 8 ∧ ds = [tI l, tI fs] ∧ r = tI (great l fs)
theorem f_greatest_in (B : BI mg) (F : DefAt K mg "greatest_in" s_greatest_in) (F_inked : Cal P w K mg base 1 "inked" ["lot", "folds"] (spJ R_inked)) : Cal P w K mg base 2 "greatest_in" ["lot", "folds"] (spJ R_greatest_in) := by
  refine fn_cal F c_greatest_in (fun ds r h => ?_) (fun _ _ _ _ _ _ us hl => match us, hl with | [_, _], _ => rfl) (fun f cdv A outer s H E ds r hr h => ?_)
  · obtain ⟨l, fs, hl, hf, rfl, rfl⟩ := h
    rfl
  obtain ⟨l, fs, hl, hf, rfl, rfl⟩ := h
  exact jb_let 2 c_greatest_in.nd (je_conv (je_dictB (l := l) (k := fun x => x) rfl B.b_dict (je_mapN (x := "place") 3 (l := l) (emb := D.int) (f := fun x => .tup [.int x, .bl true]) c_greatest_in.nd (ji_tI (je_var 0)) (blkOk_by (N := n_greatest_in) (sc := defScope s_greatest_in) (by decide +kernel)) (by omega) (fun _ _ _ _ _ => pg_name (i := 3) c_greatest_in.nd rfl (.inl rfl)) fun p hp s H C cl fp => je_t2 (je_var 3) je_bl)) (show _ = D.dct (kb l) from rfl))
    (jb_one (js_ret (je_tupleL B.b_tuple (je_filN (x := "place") 3 (l := l) (emb := D.int) (p := fun p => (ink [p] fs).all fun x => decide (x ∈ l)) (f := D.int) c_greatest_in.nd (ji_tI (je_var 0)) (blkOk_by (N := n_greatest_in) (sc := defScope s_greatest_in) (by decide +kernel)) (by omega) (fun _ _ _ _ _ => pg_name (i := 3) c_greatest_in.nd rfl (.inl rfl)) (fun p hp s H C cl fp => jt_of (je_allM B.b_all
      (je_mapN (x := "there") 4 (l := ink [p] fs) (emb := D.int) (f := fun x => .bl (decide (x ∈ l))) c_greatest_in.nd (ji_lI (je_call F_inked (hr.mono (by decide)) (ja_cons ((je_t1 (je_var 3))) (ja_cons ((je_var 1)) ja_nil)) ⟨_, [p], _, .inl rfl, one_bound hf (by decide), rfl, rfl⟩)) (blkOk_by (N := n_greatest_in) (by rfl)) (by have := ink_length fs [p]; have := one_bound (p := p) hf (by decide); omega) (fun _ _ _ _ _ => pg_name (i := 4) c_greatest_in.nd rfl (.inl rfl)) fun x hx s H C cl fp => je_inD (hu_of hr) (je_var 4) (je_var 2)))) fun p hp _ s H C cl fp => (je_var 3))) rfl))
def R_greatest_lot (ds : List D) (r : D) : Prop := ∃ l fs : List Int, okL l ∧ okF fs ∧ fs.length ≤ 8 ∧ ds = [tI l, tI fs] ∧ r = tI (great l fs)
theorem f_greatest_lot (B : BI mg) (F : DefAt K mg "greatest_lot" s_greatest_lot) (F_need_lot : Cal P w K mg base 3 "need_lot" ["value"] (spJ R_need_lot)) (F_need_folds : Cal P w K mg base 4 "need_folds" ["value"] (spJ R_needF)) (F_greatest_in : Cal P w K mg base 2 "greatest_in" ["lot", "folds"] (spJ R_greatest_in)) : Cal P w K mg base 5 "greatest_lot" ["lot", "folds"] (spJ R_greatest_lot) := by
  refine fn_cal F c_greatest_lot (fun ds r h => ?_) (fun _ _ _ _ _ _ us hl => match us, hl with | [_, _], _ => rfl) (fun f cdv A outer s H E ds r hr h => ?_)
  · obtain ⟨l, fs, okl, okf, hf, rfl, rfl⟩ := h
    rfl
  obtain ⟨l, fs, okl, okf, hf, rfl, rfl⟩ := h
  exact jb_do (je_call F_need_lot (hr.mono (by decide)) (ja_cons ((je_var 0)) ja_nil) ⟨_, _, .inl rfl, okl, rfl, rfl⟩) (jb_do (je_call F_need_folds (hr.mono (by decide)) (ja_cons ((je_var 1)) ja_nil) ⟨_, okf, rfl, rfl⟩) (jb_one (js_ret (je_call F_greatest_in (hr.mono (by decide)) (ja_cons ((je_var 0)) (ja_cons ((je_var 1)) ja_nil)) ⟨_, _, (by have := okl.len; omega), hf, rfl, rfl⟩) rfl)))
def R_comes_of_some (ds : List D) (r : D) : Prop := ∃ l fs : List Int, okL l ∧ okF fs ∧ fs.length ≤ 8 ∧ (great l fs).length * 2 ^ fs.length ≤ 4000 ∧ ds = [tI l, tI fs] ∧ r = .bl (decide (ink (great l fs) fs = l))
theorem f_comes_of_some (B : BI mg) (F : DefAt K mg "comes_of_some" s_comes_of_some) (F_need_lot : Cal P w K mg base 3 "need_lot" ["value"] (spJ R_need_lot)) (F_need_folds : Cal P w K mg base 4 "need_folds" ["value"] (spJ R_needF)) (F_greatest_in : Cal P w K mg base 2 "greatest_in" ["lot", "folds"] (spJ R_greatest_in)) (F_inked : Cal P w K mg base 1 "inked" ["lot", "folds"] (spJ R_inked)) : Cal P w K mg base 5 "comes_of_some" ["lot", "folds"] (spJ R_comes_of_some) := by
  refine fn_cal F c_comes_of_some (fun ds r h => ?_) (fun _ _ _ _ _ _ us hl => match us, hl with | [_, _], _ => rfl) (fun f cdv A outer s H E ds r hr h => ?_)
  · obtain ⟨l, fs, okl, okf, hf, hb, rfl, rfl⟩ := h
    rfl
  obtain ⟨l, fs, okl, okf, hf, hb, rfl, rfl⟩ := h
  exact jb_do (je_call F_need_lot (hr.mono (by decide)) (ja_cons ((je_var 0)) ja_nil) ⟨_, _, .inl rfl, okl, rfl, rfl⟩) (jb_do (je_call F_need_folds (hr.mono (by decide)) (ja_cons ((je_var 1)) ja_nil) ⟨_, okf, rfl, rfl⟩) (jb_one (js_ret (je_eqL hr (je_call F_inked (hr.mono (by decide)) (ja_cons ((je_call F_greatest_in (hr.mono (by decide)) (ja_cons ((je_var 0)) (ja_cons ((je_var 1)) ja_nil)) ⟨_, _, (by have := okl.len; omega), hf, rfl, rfl⟩)) (ja_cons ((je_var 1)) ja_nil)) ⟨_, _, _, .inl rfl, hb, rfl, rfl⟩) (je_listT B.b_list (je_var 0))) rfl)))
/-! ### holes -/
def R_holes_in (ds : List D) (r : D) : Prop := ∃ (d : D) (l : List Int), (d = tI l ∨ d = lI l) ∧ l.length ≤ 4000 ∧ ds = [d] ∧ r = .lst ((holes l).map pD)
theorem f_holes_in (B : BI mg) (F : DefAt K mg "holes_in" s_holes_in) : Cal P w K mg base 1 "holes_in" ["lot"] (spJ R_holes_in) := by
  refine fn_cal F c_holes_in (fun ds r h => ?_) (fun _ _ _ _ _ _ us hl => match us, hl with | [_], _ => rfl) (fun f cdv A outer s H E ds r hr h => ?_)
  · obtain ⟨d, l, hd, hl, rfl, rfl⟩ := h
    rfl
  obtain ⟨d, l, hd, hl, rfl, rfl⟩ := h
  refine jb_one (js_ret (je_filP (x := "one") (y := "other") 1 2 (l := l.zip (l.drop 1)) (d1 := fun q => .int q.1) (d2 := fun q => .int q.2) (p := fun q => decide (1 < q.2 - q.1)) (f := fun q => pD (q.1 + 1, q.2 - 1)) c_holes_in.nd ?_ (blkOk_by (N := n_holes_in) (sc := defScope s_holes_in) (by decide +kernel)) (by rw [List.length_zip]; omega) (fun _ _ _ _ _ => pg_tup rfl (pgs_cons (pg_name (i := 1) c_holes_in.nd rfl (.inl rfl)) (pgs_cons (pg_name (i := 2) c_holes_in.nd rfl (.inl rfl)) pgs_nil))) (fun q hq s H C cl fp => jt_gt (je_sub (je_var 2) (je_var 1)) je_int) fun q hq _ s H C cl fp => je_t2 (je_add (je_var 1) je_int) (je_sub (je_var 2) je_int)) ?_)
  · rcases hd with rfl | rfl
    · exact ji_zipI B.b_zip (je_var 0) (je_tailI (je_var 0))
    · exact ji_zipL B.b_zip (je_var 0) (je_tailLI (je_var 0))
  · unfold holes
    rw [List.map_map]
    rfl
end
end L2.K79

set_option Elab.async false
set_option linter.all false
set_option maxRecDepth 100000
set_option maxHeartbeats 4000000
namespace L2.K79
open PySem PySem.Spec PyProof.Rows L2
section
variable {P : Program} {w : World} {K : PySem.W.Frag} {mg : Str → Option Value} {base : Heap}
def R_holes_of (ds : List D) (r : D) : Prop := ∃ l : List Int, okL l ∧ ds = [tI l] ∧ r = .lst ((holes l).map pD)
theorem f_holes_of (B : BI mg) (F : DefAt K mg "holes_of" s_holes_of) (F_need_lot : Cal P w K mg base 3 "need_lot" ["value"] (spJ R_need_lot)) (F_holes_in : Cal P w K mg base 1 "holes_in" ["lot"] (spJ R_holes_in)) : Cal P w K mg base 4 "holes_of" ["lot"] (spJ R_holes_of) := by
  refine fn_cal F c_holes_of (fun ds r h => ?_) (fun _ _ _ _ _ _ us hl => match us, hl with | [_], _ => rfl) (fun f cdv A outer s H E ds r hr h => ?_)
  · obtain ⟨l, okl, rfl, rfl⟩ := h
    rfl
  obtain ⟨l, okl, rfl, rfl⟩ := h
  exact jb_do (je_call F_need_lot (hr.mono (by decide)) (ja_cons ((je_var 0)) ja_nil) ⟨_, _, .inl rfl, okl, rfl, rfl⟩) (jb_one (js_ret (je_call F_holes_in (hr.mono (by decide)) (ja_cons ((je_var 0)) ja_nil) ⟨_, _, .inl rfl, (by have := okl.len; omega), rfl, rfl⟩) rfl))
def R_inks_whole (ds : List D) (r : D) : Prop := ∃ (fs : List Int) (p : Int), okF fs ∧ fs.length ≤ 8 ∧ (-1000000000 ≤ p ∧ p ≤ 1000000000) ∧ ds = [tI fs, .int p] ∧ r = .bl (decide (holes (ink [p] fs) = []))
theorem f_inks_whole (B : BI mg) (F : DefAt K mg "inks_whole" s_inks_whole) (F_need_folds : Cal P w K mg base 4 "need_folds" ["value"] (spJ R_needF)) (F_need_place : Cal P w K mg base 3 "need_place" ["value"] (spJ R_need_place)) (F_inked : Cal P w K mg base 1 "inked" ["lot", "folds"] (spJ R_inked)) (F_holes_in : Cal P w K mg base 1 "holes_in" ["lot"] (spJ R_holes_in)) : Cal P w K mg base 5 "inks_whole" ["folds", "place"] (spJ R_inks_whole) := by
  refine fn_cal F c_inks_whole (fun ds r h => ?_) (fun _ _ _ _ _ _ us hl => match us, hl with | [_, _], _ => rfl) (fun f cdv A outer s H E ds r hr h => ?_)
  · obtain ⟨fs, p, okf, hf, hp, rfl, rfl⟩ := h
    rfl
  obtain ⟨fs, p, okf, hf, hp, rfl, rfl⟩ := h
  exact jb_do (je_call F_need_folds (hr.mono (by decide)) (ja_cons ((je_var 0)) ja_nil) ⟨_, okf, rfl, rfl⟩) (jb_do (je_call F_need_place (hr.mono (by decide)) (ja_cons ((je_var 1)) ja_nil) ⟨_, hp, rfl, rfl⟩) (jb_one (js_ret (je_eqP (m := []) hr (je_call F_holes_in (hr.mono (by decide)) (ja_cons ((je_call F_inked (hr.mono (by decide)) (ja_cons ((je_t1 (je_var 1))) (ja_cons ((je_var 0)) ja_nil)) ⟨_, [p], _, .inl rfl, one_bound hf (by decide), rfl, rfl⟩)) ja_nil) ⟨_, ink [p] fs, .inr rfl, (by have := ink_length fs [p]; have := one_bound (p := p) hf (by decide); omega), rfl, rfl⟩) je_l0) rfl)))
/-! ### usual counts -/
def R_need_some_folds (ds : List D) (r : D) : Prop := ∃ fs : List Int, okF fs ∧ fs.length ≤ 8 ∧ fs ≠ [] ∧ ds = [tI fs] ∧ r = .non
theorem f_need_some_folds (B : BI mg) (F : DefAt K mg "need_some_folds" s_need_some_folds) (F_need_folds : Cal P w K mg base 4 "need_folds" ["value"] (spJ R_needF)) (F_need_few_folds : Cal P w K mg base 1 "need_few_folds" ["folds"] (spJ R_need_few_folds)) : Cal P w K mg base 5 "need_some_folds" ["folds"] (spJ R_need_some_folds) := by
  refine fn_cal F c_need_some_folds (fun ds r h => ?_) (fun _ _ _ _ _ _ us hl => match us, hl with | [_], _ => rfl) (fun f cdv A outer s H E ds r hr h => ?_)
  · obtain ⟨fs, okf, hf, hn, rfl, rfl⟩ := h
    rfl
  obtain ⟨fs, okf, hf, hn, rfl, rfl⟩ := h
  exact jb_do (je_call F_need_folds (hr.mono (by decide)) (ja_cons ((je_var 0)) ja_nil) ⟨_, okf, rfl, rfl⟩) (jb_skip (jt_eqT (ms := []) hr (je_var 0) je_t0) (eq_nil hn) (jb_do (je_call F_need_few_folds (hr.mono (by decide)) (ja_cons ((je_var 0)) ja_nil) ⟨_, hf, rfl, rfl⟩) (jb_nil rfl)))
theorem sumsIn_bound {fs : List Int} {b : Nat} (h : fs.length ≤ b + 1) : (sumsIn fs).length ≤ 2 ^ b := Nat.le_trans (sumsIn_length fs) (Nat.pow_le_pow_right (by decide) (by omega))
def oddL (fs : List Int) : List Int := (sumsIn fs).flatMap fun a => ((sumsIn fs).filter fun b => decide (b ≤ a)).map fun b => (a - b) / 2
theorem oddL_length {fs : List Int} (h : fs.length ≤ 6) : (oddL fs).length ≤ 1024 := by
  have h1 := sumsIn_bound (b := 5) h
  have h2 : (oddL fs).length ≤ (sumsIn fs).length * (sumsIn fs).length := flatMap_length_le fun a _ => by
    rw [List.length_map]
    exact List.length_filter_le _ _
  have h3 : (sumsIn fs).length * (sumsIn fs).length ≤ 2 ^ 5 * 2 ^ 5 := Nat.mul_le_mul h1 h1
  omega
theorem oddW_length {fs : List Int} (h : fs.length ≤ 6) : (oddW fs).length ≤ 1024 := Nat.le_trans (sdu_length _) (oddL_length h)
def R_odd_ways (ds : List D) (r : D) : Prop := ∃ fs : List Int, fs.length ≤ 6 ∧ ds = [tI fs] ∧ r = lI (oddW fs)
theorem f_odd_ways (B : BI mg) (F : DefAt K mg "odd_ways" s_odd_ways) (F_sums_in : Cal P w K mg base 2 "sums_in" ["folds"] (spJ R_sums_in)) : Cal P w K mg base 3 "odd_ways" ["folds"] (spJ R_odd_ways) := by
  refine fn_cal F c_odd_ways (fun ds r h => ?_) (fun _ _ _ _ _ _ us hl => match us, hl with | [_], _ => rfl) (fun f cdv A outer s H E ds r hr h => ?_)
  · obtain ⟨fs, hf, rfl, rfl⟩ := h
    rfl
  obtain ⟨fs, hf, rfl, rfl⟩ := h
  have hb := sumsIn_bound (b := 5) hf
  exact jb_let 1 c_odd_ways.nd (je_call F_sums_in (hr.mono (by decide)) (ja_cons ((je_var 0)) ja_nil) ⟨_, (by omega), rfl, rfl⟩) (jb_one (js_ret (je_sset (ns := oddL fs) (.inl rfl) rfl B.b_sorted B.b_set (je_conv (je_lc2 (l := sumsIn fs) (m := sumsIn fs) (p := fun a b => decide (b ≤ a)) (f := fun a b => .int ((a - b) / 2)) (i := 2) (j := 3) [("one", 2), ("other", 3)] (by decide) rfl rfl c_odd_ways.nd (ji_tI (je_var 1)) (blkOk_by (N := n_odd_ways) (sc := defScope s_odd_ways) (by decide +kernel)) (by omega) (by omega) (fun _ _ _ _ _ => pg_name (i := 2) c_odd_ways.nd rfl (.inl rfl))
      (fun x hx s H C cl fp => ji_tI (je_var 1)) (fun _ _ _ _ _ => pg_name (i := 3) c_odd_ways.nd rfl (.inl rfl)) (fun x y hx hy s H C cl fp => jts_one (jt_ge (je_var 2) (je_var 3))) (fun x y hx hy _ s H C cl fp => je_div div_two (je_sub (je_var 2) (je_var 3)) je_int)) (show _ = lI (oddL fs) by unfold lI oddL; rw [List.map_flatMap]; simp only [List.map_map]; rfl)) (by have := oddL_length hf; omega)) rfl))
def R_usual_count (ds : List D) (r : D) : Prop := ∃ fs : List Int, okF fs ∧ fs.length ≤ 8 ∧ fs ≠ [] ∧ ds = [tI fs] ∧ r = .int (2 * ((sumsIn fs).length : Nat))
theorem f_usual_count (B : BI mg) (F : DefAt K mg "usual_count" s_usual_count) (F_need_some_folds : Cal P w K mg base 5 "need_some_folds" ["folds"] (spJ R_need_some_folds)) (F_sums_in : Cal P w K mg base 2 "sums_in" ["folds"] (spJ R_sums_in)) : Cal P w K mg base 6 "usual_count" ["folds"] (spJ R_usual_count) := by
  refine fn_cal F c_usual_count (fun ds r h => ?_) (fun _ _ _ _ _ _ us hl => match us, hl with | [_], _ => rfl) (fun f cdv A outer s H E ds r hr h => ?_)
  · obtain ⟨fs, okf, hf, hn, rfl, rfl⟩ := h
    rfl
  obtain ⟨fs, okf, hf, hn, rfl, rfl⟩ := h
  exact jb_do (je_call F_need_some_folds (hr.mono (by decide)) (ja_cons ((je_var 0)) ja_nil) ⟨_, okf, hf, hn, rfl, rfl⟩) (jb_one (js_ret (je_mul mul_two je_int (je_lenTI B.b_len (je_call F_sums_in (hr.mono (by decide)) (ja_cons ((je_var 0)) ja_nil) ⟨_, hf, rfl, rfl⟩))) rfl))
def R_unusual_places (ds : List D) (r : D) : Prop := ∃ fs : List Int, okF fs ∧ fs.length ≤ 6 ∧ fs ≠ [] ∧ ds = [tI fs] ∧ r = lI (unus fs)
theorem f_unusual_places (B : BI mg) (F : DefAt K mg "unusual_places" s_unusual_places) (F_need_some_folds : Cal P w K mg base 5 "need_some_folds" ["folds"] (spJ R_need_some_folds)) (F_odd_ways : Cal P w K mg base 3 "odd_ways" ["folds"] (spJ R_odd_ways)) : Cal P w K mg base 6 "unusual_places" ["folds"] (spJ R_unusual_places) := by
  refine fn_cal F c_unusual_places (fun ds r h => ?_) (fun _ _ _ _ _ _ us hl => match us, hl with | [_], _ => rfl) (fun f cdv A outer s H E ds r hr h => ?_)
  · obtain ⟨fs, okf, hf, hn, rfl, rfl⟩ := h
    rfl
  obtain ⟨fs, okf, hf, hn, rfl, rfl⟩ := h
  have hb := oddW_length hf
  have hd : (dbl fs).length ≤ 2048 := by
    unfold dbl
    rw [List.length_append, List.length_map, List.length_map]
    omega
  exact jb_do (je_call F_need_some_folds (hr.mono (by decide)) (ja_cons ((je_var 0)) ja_nil) ⟨_, okf, (by omega), hn, rfl, rfl⟩) (jb_let 1 c_unusual_places.nd (je_conv (je_catL (ds := (oddW fs).map fun w => .int (fs.headD 0 - w)) (es := (oddW fs).map fun w => .int (fs.headD 0 + w)) (by rw [List.length_map, List.length_map]; omega)
      (je_mapN (x := "way") 2 (l := oddW fs) (emb := D.int) c_unusual_places.nd (ji_lI (je_call F_odd_ways (hr.mono (by decide)) (ja_cons ((je_var 0)) ja_nil) ⟨_, hf, rfl, rfl⟩)) (blkOk_by (N := n_unusual_places) (sc := defScope s_unusual_places) (by decide +kernel)) (by omega) (fun _ _ _ _ _ => pg_name (i := 2) c_unusual_places.nd rfl (.inl rfl)) fun x hx s H C cl fp => je_sub (je_ixTI (je_var 0) je_int (at_head0 hn)) (je_var 2))
      (je_mapN (x := "way") 2 (l := oddW fs) (emb := D.int) c_unusual_places.nd (ji_lI (je_call F_odd_ways (hr.mono (by decide)) (ja_cons ((je_var 0)) ja_nil) ⟨_, hf, rfl, rfl⟩)) (blkOk_by (N := n_unusual_places) (sc := defScope s_unusual_places) (by decide +kernel)) (by omega) (fun _ _ _ _ _ => pg_name (i := 2) c_unusual_places.nd rfl (.inl rfl)) fun x hx s H C cl fp => je_add (je_ixTI (je_var 0) je_int (at_head0 hn)) (je_var 2))) (show _ = lI (dbl fs) by unfold lI dbl; rw [List.map_append, List.map_map, List.map_map]; rfl))
    (jb_one (js_ret (je_sset (ns := ((dbl fs).filter fun t => decide (t % 2 = 0)).map fun t => t / 2) (.inl rfl) rfl B.b_sorted B.b_set (je_conv (je_filN (x := "twice") 3 (l := dbl fs) (emb := D.int) (p := fun t => decide (t % 2 = 0)) (f := fun t => .int (t / 2)) c_unusual_places.nd (ji_lI (je_var 1)) (blkOk_by (N := n_unusual_places) (sc := defScope s_unusual_places) (by decide +kernel)) (by omega) (fun _ _ _ _ _ => pg_name (i := 3) c_unusual_places.nd rfl (.inl rfl)) (fun t ht s H C cl fp => jt_eqI (je_mod (by decide) (je_var 3) je_int) je_int) fun t ht _ s H C cl fp => je_div div_two (je_var 3) je_int) (by unfold lI; rw [List.map_map]; rfl)) (by rw [List.length_map]; have := List.length_filter_le (fun t => decide (t % 2 = 0)) (dbl fs); omega)) rfl)))
/-! ### fewest folds -/
def R_grown (ds : List D) (r : D) : Prop := ∃ (l : List Int) (s : Int), l.length ≤ 1000 ∧ ds = [tI l, .int s] ∧ r = tI (grow l s)
theorem f_grown (B : BI mg) (F : DefAt K mg "grown" s_grown) : Cal P w K mg base 1 "grown" ["reached", "step"] (spJ R_grown) := by
  refine fn_cal F c_grown (fun ds r h => ?_) (fun _ _ _ _ _ _ us hl => match us, hl with | [_, _], _ => rfl) (fun f cdv A outer s H E ds r hr h => ?_)
  · obtain ⟨l, c, hl, rfl, rfl⟩ := h
    rfl
  obtain ⟨l, c, hl, rfl, rfl⟩ := h
  exact jb_one (js_ret (je_tupleL B.b_tuple (je_sset (ns := l ++ l.map fun x => x + c) (.inr (.inl rfl)) rfl B.b_sorted B.b_set (je_conv (je_catT (ds := l.map D.int) (es := l.map fun x => .int (x + c)) (by rw [List.length_map, List.length_map]; omega) (je_var 0) (je_tupleL B.b_tuple
    (je_mapN (x := "one") 2 (l := l) (emb := D.int) c_grown.nd (ji_tI (je_var 0)) (blkOk_by (N := n_grown) (sc := defScope s_grown) (by decide +kernel)) (by omega) (fun _ _ _ _ _ => pg_name (i := 2) c_grown.nd rfl (.inl rfl)) fun x hx s H C cl fp => je_add (je_var 2) (je_var 1)))) (by unfold tI; rw [List.map_append, List.map_map]; rfl)) (by rw [List.length_append, List.length_map]; omega))) rfl)
def R_can_reach (ds : List D) (r : D) : Prop := ∃ (g l : List Int) (m : Nat), m ≤ 20 ∧ l.length ≤ 4000 ∧ ds = [tI g, tI l, .int (m : Nat)] ∧ r = .bl (canR g l m)
theorem f_can_reach (B : BI mg) (F : DefAt K mg "can_reach" s_can_reach) : Cal P w K mg base 1 "can_reach" ["goal", "reached", "many"] (spJ R_can_reach) := by
  refine fn_cal F c_can_reach (fun ds r h => ?_) (fun _ _ _ _ _ _ us hl => match us, hl with | [_, _, _], _ => rfl) (fun f cdv A outer s H E ds r hr h => ?_)
  · obtain ⟨g, l, m, hm, hl, rfl, rfl⟩ := h
    rfl
  obtain ⟨g, l, m, hm, hl, rfl, rfl⟩ := h
  refine jb_let 3 c_can_reach.nd (je_lenTI B.b_len (je_var 1)) (jb_for (G1 := [some (tI g), some (tI l), some (.int (m : Nat)), some (.int ((l.length * 2 ^ m : Nat) : Int)), none]) (js_for ((List.range (m : Int).toNat).map fun i => D.int (0 + (i : Nat))) (fun i => [some (tI g), some (tI l), some (.int (m : Nat)), some (.int ((l.length * 2 ^ i : Nat) : Int)), none]) (fun i x => [some (tI g), some (tI l), some (.int (m : Nat)), some (.int ((l.length * 2 ^ i : Nat) : Int)), some x]) PassesOwn.never rfl (ji_rng1 B.b_range (je_var 2) ⟨by omega, by omega⟩) (pg_name (i := 4) c_can_reach.nd rfl (.inl rfl)) ⟨rfl, fun i d h => by rw [Nat.pow_zero, Nat.mul_one] at h; exact h⟩
    (fun i d h => gf_name) (fun i d h => ?_) ?_) (jb_one (js_ret (je_ge (je_var 3) (je_lenTI B.b_len (je_var 0))) ?_)))
  · refine jb_one (js_set 3 c_can_reach.nd (je_conv (je_mul (.inr ⟨by decide, by decide⟩) (je_var 3) je_int) (show _ = D.int ((l.length * 2 ^ (i + 1) : Nat) : Int) by rw [Nat.pow_succ, ← Nat.mul_assoc]; rfl)) (wk_c (wk_c (wk_c (wk_c (wk_n wk_0))))))
  · rw [List.length_map, List.length_range, Int.toNat_natCast]
  · unfold canR
    congr 1
    rw [decide_eq_decide]
    omega
end
end L2.K79

set_option Elab.async false
set_option linter.all false
set_option maxRecDepth 100000
set_option maxHeartbeats 4000000
namespace L2.K79
open PySem PySem.Spec PyProof.Rows L2
section
variable {P : Program} {w : World} {K : PySem.W.Frag} {mg : Str → Option Value} {base : Heap}
def R_steps_behind (ds : List D) (r : D) : Prop := ∃ (g l : List Int) (last : Int) (m : Nat), g ≠ [] ∧ l ≠ [] ∧ m ≤ 20 ∧ g.length ≤ 1000 ∧ l.length ≤ 1000 ∧ ds = [tI g, tI l, .int last, .int (m : Nat)] ∧ r = lI (behindS g l last m)
theorem f_steps_behind (B : BI mg) (F : DefAt K mg "steps_behind" s_steps_behind) (F_can_reach : Cal P w K mg base 1 "can_reach" ["goal", "reached", "many"] (spJ R_can_reach)) : Cal P w K mg base 2 "steps_behind" ["goal", "reached", "last", "many"] (spJ R_steps_behind) := by
  refine fn_cal F c_steps_behind (fun ds r h => ?_) (fun _ _ _ _ _ _ us hl => match us, hl with | [_, _, _, _], _ => rfl) (fun f cdv A outer s H E ds r hr h => ?_)
  · obtain ⟨g, l, la, m, hg, hl, hm, hgl, hll, rfl, rfl⟩ := h
    rfl
  obtain ⟨g, l, la, m, hg, hl, hm, hgl, hll, rfl, rfl⟩ := h
  refine jb_let 4 c_steps_behind.nd (je_conv (je_filN (x := "one") 5 (l := g) (emb := D.int) (p := fun x => !decide (x ∈ l)) (f := D.int) c_steps_behind.nd (ji_tI (je_var 0)) (blkOk_by (N := n_steps_behind) (sc := defScope s_steps_behind) (by decide +kernel)) (by omega) (fun _ _ _ _ _ => pg_name (i := 5) c_steps_behind.nd rfl (.inl rfl)) (fun x hx s H C cl fp => jt_nin (.inr rfl) (je_var 5) (je_var 1)) fun x hx _ s H C cl fp => (je_var 5)) (show _ = lI (miss g l) from rfl))
    (jb_ifret (k := decide (miss g l = []) || (decide (m = 0) || !canR g l m)) (jw_pt (jw_or (jt_eqL (ms := []) hr (je_var 4) je_l0) fun _ => jw_or (jt_conv (jt_eqI (je_var 3) je_int) (by rw [decide_eq_decide]; omega)) fun _ => jw_or1 (jt_not (jt_of (je_call F_can_reach (hr.mono (by decide)) (ja_cons ((je_var 0)) (ja_cons ((je_var 1)) (ja_cons ((je_var 3)) ja_nil))) ⟨_, _, _, hm, (by omega), rfl, rfl⟩))))) (fun h => jb_one (js_ret je_l0 ?_)) fun h => ?_)
  · unfold behindS
    rw [if_pos h]
    rfl
  · have hne : miss g l ≠ [] := fun z => by
      rw [decide_eq_true z] at h
      cases h
    refine jb_cons (N1 := fun G' => G' = [some (tI g), some (tI l), some (.int la), some (.int (m : Nat)), some (lI (miss g l)), none, some (.int (g.getLastD 0 - l.getLastD 0)), some (.dct (kb g)), none, none]) (js_asg (je_t2 (je_sub (je_ixTI (je_var 0) (je_neg je_int) (at_last0 hg)) (je_ixTI (je_var 1) (je_neg je_int) (at_last0 hl))) (je_conv (je_dictB (l := g) (k := fun x => x) rfl B.b_dict (je_mapN (x := "one") 5 (l := g) (emb := D.int) (f := fun x => .tup [.int x, .bl true]) c_steps_behind.nd (ji_tI (je_var 0)) (blkOk_by (N := n_steps_behind) (sc := defScope s_steps_behind) (by decide +kernel)) (by omega) (fun _ _ _ _ _ => pg_name (i := 5) c_steps_behind.nd rfl (.inl rfl)) fun p hp s H C cl fp => je_t2 (je_var 5) je_bl)) (show _ = D.dct (kb g) from rfl)))
        (pg_tup rfl (pgs_cons (pg_name (i := 6) c_steps_behind.nd rfl (.inr rfl)) (pgs_cons (pg_name (i := 7) c_steps_behind.nd rfl (.inr rfl)) pgs_nil))) gf_pair rfl) fun G' hG => ?_
    subst hG
    refine jb_setFilN (x := "step") 8 9 (l := g) (emb := D.int) (p := candT g l la m) (f := D.int) c_steps_behind.nd (ji_tI (je_var 0)) (blkOk_by (N := n_steps_behind) (sc := defScope s_steps_behind) (by decide +kernel)) (by omega) (fun _ _ _ _ _ => pg_name (i := 9) c_steps_behind.nd rfl (.inl rfl)) (fun x hx s H C cl fp => jw_pt (jw_and (jt_lele (je_var 2) (je_var 9) (je_ixLI (je_var 4) je_int (at_head0 hne))) fun _ => jw_and1 (jt_if (k := decide (m = 1)) (jt_conv (jt_eqI (je_var 3) je_int) (by rw [decide_eq_decide]; omega)) (fun h1 => jt_conv (jt_eqI (je_var 9) (je_var 6)) (by rw [if_pos (of_decide_eq_true h1)])) (fun h1 => jt_conv (jt_le (je_var 9) (je_var 6)) (by rw [if_neg (of_decide_eq_false h1)]))))) (fun x hx _ s H C cl fp => (je_var 9)) ?_ (sw_true rfl rfl rfl (by decide +kernel))
    refine jb_one (js_ret (je_filN (x := "step") 9 (l := cand g l la m) (emb := D.int) (p := fun s => l.all fun x => decide (x + s ∈ g)) (f := D.int) c_steps_behind.nd (ji_lI (ns := cand g l la m) (je_var 8)) (blkOk_by (N := n_steps_behind) (sc := defScope s_steps_behind) (by decide +kernel)) (by have := List.length_filter_le (candT g l la m) g; show (List.filter (candT g l la m) g).length ≤ _; omega) (fun _ _ _ _ _ => pg_name (i := 9) c_steps_behind.nd rfl (.inr rfl)) (fun x hx s H C cl fp => jt_of (je_allM B.b_all
      (je_mapN (x := "one") 5 (l := l) (emb := D.int) (f := fun y => .bl (decide (y + x ∈ g))) c_steps_behind.nd (ji_tI (je_var 1)) (blkOk_by (N := n_steps_behind) (by rfl)) (by omega) (fun _ _ _ _ _ => pg_name (i := 5) c_steps_behind.nd rfl (.inl rfl)) fun y hy s H C cl fp => je_inD (hu_of hr) (je_add (je_var 5) (je_var 9)) (je_var 7)))) fun x hx _ s H C cl fp => (je_var 9)) ?_)
    unfold behindS
    rw [if_neg (by rw [h]; exact Bool.false_ne_true)]
    rfl
def lpD (p : LP) : D := .tup [tI p.1, tI p.2]
def R_longer_on (ds : List D) (r : D) : Prop := ∃ (g ss l : List Int) (m : Nat), g ≠ [] ∧ l ≠ [] ∧ m ≤ 20 ∧ g.length ≤ 1000 ∧ l.length ≤ 1000 ∧ ss.length ≤ 1000 ∧ ds = [tI g, tI ss, tI l, .int (m : Nat)] ∧ r = .lst ((longer g m (ss, l)).map lpD)
theorem f_longer_on (B : BI mg) (F : DefAt K mg "longer_on" s_longer_on) (F_steps_behind : Cal P w K mg base 2 "steps_behind" ["goal", "reached", "last", "many"] (spJ R_steps_behind)) (F_grown : Cal P w K mg base 1 "grown" ["reached", "step"] (spJ R_grown)) : Cal P w K mg base 3 "longer_on" ["goal", "steps", "reached", "many"] (spJ R_longer_on) := by
  refine fn_cal F c_longer_on (fun ds r h => ?_) (fun _ _ _ _ _ _ us hl => match us, hl with | [_, _, _, _], _ => rfl) (fun f cdv A outer s H E ds r hr h => ?_)
  · obtain ⟨g, ss, l, m, hg, hl, hm, hgl, hll, hss, rfl, rfl⟩ := h
    rfl
  obtain ⟨g, ss, l, m, hg, hl, hm, hgl, hll, hss, rfl, rfl⟩ := h
  refine jb_let 4 c_longer_on.nd (je_if (k := !decide (ss = [])) (jt_neT (ms := []) hr (je_var 1) je_t0) (fun h => je_conv (je_ixTI (je_var 1) (je_neg je_int) (at_last0 (by simpa using h))) (show _ = D.int (lastS ss) by unfold lastS; rw [if_pos (by simpa using h)])) (fun h => je_conv je_int (show _ = D.int (lastS ss) by unfold lastS; rw [if_neg (by simpa using h)])))
    (jb_one (js_ret (je_mapN (x := "step") 5 (l := behindS g l (lastS ss) m) (emb := D.int) (f := fun s => lpD (ss ++ [s], grow l s)) c_longer_on.nd (ji_lI (je_call F_steps_behind (hr.mono (by decide)) (ja_cons ((je_var 0)) (ja_cons ((je_var 2)) (ja_cons ((je_var 4)) (ja_cons ((je_var 3)) ja_nil)))) ⟨_, _, _, _, hg, hl, hm, hgl, hll, rfl, rfl⟩)) (blkOk_by (N := n_longer_on) (sc := defScope s_longer_on) (by decide +kernel)) (by have := behind_length g l (lastS ss) m; omega) (fun _ _ _ _ _ => pg_name (i := 5) c_longer_on.nd rfl (.inl rfl)) fun x hx s H C cl fp =>
      je_t2 (je_conv (je_catT (ds := ss.map D.int) (es := [.int x]) (by rw [List.length_map]; show ss.length + 1 ≤ _; omega) (je_var 1) (je_t1 (je_var 5))) (show _ = tI (ss ++ [x]) by unfold tI; rw [List.map_append]; rfl)) (je_call F_grown (hr.mono (by decide)) (ja_cons ((je_var 2)) (ja_cons ((je_var 5)) ja_nil)) ⟨_, _, hll, rfl, rfl⟩)) ?_))
  unfold longer
  rw [List.map_map]
  rfl
def R_tuples_of (ds : List D) (r : D) : Prop := ∃ (g : List Int) (m : Nat), g ≠ [] ∧ m ≤ 4 ∧ g.length ≤ 8 ∧ ds = [tI g, .int (m : Nat)] ∧ r = .lst ((tuplesOf g m).map tI)
theorem line_bound {g : List Int} {m t : Nat} (hg : g.length ≤ 8) (ht : t ≤ 4) : (lineN g m t).length ≤ 4096 := by
  have h := line_length g m t
  have h1 : g.length ^ t ≤ 8 ^ t := Nat.pow_le_pow_left hg t
  have h2 : 8 ^ t ≤ 8 ^ 4 := Nat.pow_le_pow_right (by decide) ht
  omega
theorem fm_next {g : List Int} {L : List LP} {m i : Nat} {p : LP} (h : L[i]? = some p) : (L.take (i + 1)).flatMap (longer g m) = (L.take i).flatMap (longer g m) ++ longer g m p := by
  rw [take_get h, List.flatMap_append, List.flatMap_cons, List.flatMap_nil, List.append_nil]
theorem fm_bound {g : List Int} {L : List LP} {m i : Nat} (hg : g.length ≤ 8) (hL : L.length ≤ 4096) : ((L.take i).flatMap (longer g m)).length ≤ 32768 := by
  have h := flatMap_length_le (f := longer g m) (k := 8) (l := L.take i) fun p _ => by
    unfold longer
    rw [List.length_map]
    exact Nat.le_trans (behind_length _ _ _ _) hg
  have h2 : (L.take i).length ≤ L.length := by rw [List.length_take]; omega
  omega
theorem f_tuples_of (B : BI mg) (F : DefAt K mg "tuples_of" s_tuples_of) (F_longer_on : Cal P w K mg base 3 "longer_on" ["goal", "steps", "reached", "many"] (spJ R_longer_on)) : Cal P w K mg base 4 "tuples_of" ["goal", "many"] (spJ R_tuples_of) := by
  refine fn_cal F c_tuples_of (fun ds r h => ?_) (fun _ _ _ _ _ _ us hl => match us, hl with | [_, _], _ => rfl) (fun f cdv A outer s H E ds r hr h => ?_)
  · obtain ⟨g, m, hg, hm, hgl, rfl, rfl⟩ := h
    rfl
  obtain ⟨g, m, hg, hm, hgl, rfl, rfl⟩ := h
  refine jb_let 2 c_tuples_of.nd (je_conv (je_l1 (je_t2 je_t0 (je_t1 je_int))) (show _ = D.lst ((lineN g m 0).map lpD) from rfl)) (jb_for (G1 := [some (tI g), some (.int (m : Nat)), some (.lst ((lineN g m m).map lpD)), none, none, none, none]) (js_for ((List.range (m : Int).toNat).map fun i => D.int (0 + (i : Nat))) (fun t => [some (tI g), some (.int (m : Nat)), some (.lst ((lineN g m t).map lpD)), none, none, none, none]) (fun t x => [some (tI g), some (.int (m : Nat)), some (.lst ((lineN g m t).map lpD)), some x, none, none, none]) PassesOwn.never rfl (ji_rng1 B.b_range (je_var 1) ⟨by omega, by omega⟩) (pg_name (i := 3) c_tuples_of.nd rfl (.inl rfl)) (Wk.refl _)
    (fun i d h => gf_name) (fun t d h => ?_) (by rw [List.length_map, List.length_range, Int.toNat_natCast])) (jb_one (js_ret (je_conv (je_filP (x := "steps") (y := "reached") 5 6 (l := lineN g m m) (d1 := fun p => tI p.1) (d2 := fun p => tI p.2) (p := fun p => decide (p.2 = g)) (f := fun p => tI p.1) c_tuples_of.nd (ji_list (ds := (lineN g m m).map lpD) (je_var 2)) (blkOk_by (N := n_tuples_of) (sc := defScope s_tuples_of) (by decide +kernel)) (by have := line_bound (m := m) hgl hm; omega) (fun _ _ _ _ _ => pg_tup rfl (pgs_cons (pg_name (i := 5) c_tuples_of.nd rfl (.inl rfl)) (pgs_cons (pg_name (i := 6) c_tuples_of.nd rfl (.inl rfl)) pgs_nil))) (fun p hp s H C cl fp => jt_eqT hr (je_var 6) (je_var 0)) fun p hp _ s H C cl fp => (je_var 5)) (by unfold tuplesOf; rw [List.map_map]; rfl)) rfl)))
  obtain ⟨t', ht', rfl⟩ := get_map h
  have htm : t < m := by
    have h1 := (List.getElem?_eq_some_iff.mp ht').1
    rw [List.length_range, Int.toNat_natCast] at h1
    exact h1
  have e : t' = t := by
    have h1 := (List.getElem?_eq_some_iff.mp ht').2
    rw [List.getElem_range] at h1
    exact h1.symm
  subst e
  have hb := line_bound (m := m) (t := t') hgl (by omega)
  refine jb_let 4 c_tuples_of.nd je_l0 (jb_for (G1 := [some (tI g), some (.int (m : Nat)), some (.lst ((lineN g m t').map lpD)), some (.int (0 + (t' : Nat))), some (.lst ((lineN g m (t' + 1)).map lpD)), none, none])
    (js_for ((lineN g m t').map lpD) (fun i => [some (tI g), some (.int (m : Nat)), some (.lst ((lineN g m t').map lpD)), some (.int (0 + (t' : Nat))), some (.lst ((((lineN g m t').take i).flatMap (longer g (m - t'))).map lpD)), none, none]) (fun i x => [some (tI g), some (.int (m : Nat)), some (.lst ((lineN g m t').map lpD)), some (.int (0 + (t' : Nat))), some (.lst ((((lineN g m t').take i).flatMap (longer g (m - t'))).map lpD)), some (tI ((lineN g m t').getD i ([], [])).1), some (tI ((lineN g m t').getD i ([], [])).2)]) PassesOwn.never rfl (ji_list (je_var 2)) (pg_tup rfl (pgs_cons (pg_name (i := 5) c_tuples_of.nd rfl (.inl rfl)) (pgs_cons (pg_name (i := 6) c_tuples_of.nd rfl (.inl rfl)) pgs_nil))) (Wk.refl _)
      (fun i d h => ?_) (fun i d h => ?_) (by rw [List.length_map, List.take_length]; rfl)) (jb_one (js_set 2 c_tuples_of.nd (je_var 4) (wk_c (wk_c (wk_c (wk_n (wk_n (wk_n (wk_n wk_0)))))))))) 
  · obtain ⟨p, hp, rfl⟩ := get_map h
    rw [List.getD_eq_getElem?_getD, hp]
    exact gf_pair
  · obtain ⟨p, hp, rfl⟩ := get_map h
    rw [List.getD_eq_getElem?_getD, hp]
    have hpm := List.mem_of_getElem? hp
    obtain ⟨h1, h2, h3⟩ := line_steps g m t' p hpm
    have h4 : 2 ^ t' ≤ 2 ^ 4 := Nat.pow_le_pow_right (by decide) (by omega)
    have h5 := fm_bound (m := m - t') (i := i) hgl hb
    have h6 := behind_length g p.2 (lastS p.1) (m - t')
    refine jb_one (js_set 4 c_tuples_of.nd (je_conv (je_catL (ds := (((lineN g m t').take i).flatMap (longer g (m - t'))).map lpD) (es := (longer g (m - t') p).map lpD) ?_ (je_var 4) (je_call F_longer_on (hr.mono (by decide)) (ja_cons ((je_var 0)) (ja_cons ((je_var 5)) (ja_cons ((je_var 6)) (ja_cons ((je_conv (je_sub (je_var 1) (je_var 3)) (show _ = D.int ((m - t' : Nat) : Int) by congr 1; omega))) ja_nil)))) ⟨g, p.1, p.2, m - t', hg, h3, by omega, by omega, by omega, by omega, rfl, rfl⟩))
      (show _ = D.lst ((((lineN g m t').take (i + 1)).flatMap (longer g (m - t'))).map lpD) by rw [fm_next hp, List.map_append])) (wk_c (wk_c (wk_c (wk_c (wk_c (wk_n (wk_n wk_0))))))))
    rw [List.length_map, List.length_map]
    have h7 : (longer g (m - t') p).length ≤ 8 := by
      unfold longer
      rw [List.length_map]
      omega
    omega
theorem ok_lT (n : Nat) (l : List (List Int)) : okD (n + 2) (.lst (l.map tI)) = true := by
  unfold okD
  rw [List.all_map, List.all_eq_true]
  intro x _
  exact ok_tI n x
theorem py_lT {l m : List (List Int)} : (D.lst (l.map tI)).py = (D.lst (m.map tI)).py ↔ l = m := by
  constructor
  · intro h
    rw [py_lst, py_lst, PyData.list.injEq, List.map_map, List.map_map] at h
    exact List.map_inj_right (f := D.py ∘ tI) (fun x y e => py_tI.mp e) |>.mp h
  · intro h; rw [h]
/-- the first of the numbers of steps for which there are tuples -/
structure Fst (g : List Int) (m : Nat) : Prop where
  has : tuplesOf g m ≠ []
  no : ∀ i, i < m → tuplesOf g i = []
def R_shortest_to (ds : List D) (r : D) : Prop := ∃ (g : List Int) (m : Nat), g ≠ [] ∧ m ≤ 4 ∧ g.length ≤ 8 ∧ Fst g m ∧ ds = [tI g, .int 7] ∧ r = .lst ((tuplesOf g m).map tI)
theorem f_shortest_to (B : BI mg) (F : DefAt K mg "shortest_to" s_shortest_to) (F_tuples_of : Cal P w K mg base 4 "tuples_of" ["goal", "many"] (spJ R_tuples_of)) : Cal P w K mg base 5 "shortest_to" ["goal", "most"] (spJ R_shortest_to) := by
  refine fn_cal F c_shortest_to (fun ds r h => ?_) (fun _ _ _ _ _ _ us hl => match us, hl with | [_, _], _ => rfl) (fun f cdv A outer s H E ds r hr h => ?_)
  · obtain ⟨g, m, hg, hm, hgl, hF, rfl, rfl⟩ := h
    rfl
  obtain ⟨g, m, hg, hm, hgl, hF, rfl, rfl⟩ := h
  refine jb_cons (N1 := fun _ => False) (js_forI ((List.range ((7 : Int) + 1).toNat).map fun i => D.int (0 + (i : Nat))) (fun t => [some (tI g), some (.int 7), none, none]) (fun t x => [some (tI g), some (.int 7), some x, none]) (fun i => i ≤ m) PassesOwn.never rfl (ji_rng1 B.b_range (je_add (je_var 1) je_int) ⟨by decide, by decide⟩) (pg_name (i := 2) c_shortest_to.nd rfl (.inl rfl)) (Wk.refl _) (Nat.zero_le _)
    (fun i d h => gf_name) (fun i d h hi => ?_) (fun h => ?_)) fun G' z => z.elim
  · obtain ⟨t', ht', rfl⟩ := get_map h
    have e : t' = i := by
      have h1 := (List.getElem?_eq_some_iff.mp ht').2
      rw [List.getElem_range] at h1
      exact h1.symm
    subst e
    refine jb_let 3 c_shortest_to.nd (je_call F_tuples_of (hr.mono (by decide)) (ja_cons ((je_var 0)) (ja_cons ((je_conv (je_var 2) (show _ = D.int (t' : Nat) by congr 1; omega))) ja_nil)) ⟨g, t', hg, by omega, hgl, rfl, rfl⟩)
      (jb_ifret (k := !decide (tuplesOf g t' = [])) (jt_ne (d := .lst ((tuplesOf g t').map tI)) (e := .lst []) hr (ok_lT 58 _) (ok_lT 58 []) (by rw [decide_eq_true_iff]; exact (py_lT (m := [])).symm) (je_var 3) je_l0) (fun h => jb_one (js_ret (je_var 3) ?_)) fun h => jb_nil ⟨wk_c (wk_c (wk_n (wk_n wk_0))), ?_⟩)
    · have hne : tuplesOf g t' ≠ [] := by simpa using h
      have : t' = m := by
        by_cases q : t' < m
        · exact absurd (hF.no t' q) hne
        · omega
      rw [this]
    · have hne : tuplesOf g t' = [] := by simpa using h
      by_cases q : t' = m
      · subst q; exact absurd hne hF.has
      · omega
  · rw [List.length_map, List.length_range] at h
    have h : 8 ≤ m := h
    omega
def R_goal_of (ds : List D) (r : D) : Prop := ∃ fs : List Int, fs ≠ [] ∧ fs.length ≤ 8 ∧ ds = [tI fs] ∧ r = tI (goal fs)
theorem f_goal_of (B : BI mg) (F : DefAt K mg "goal_of" s_goal_of) (F_sums_in : Cal P w K mg base 2 "sums_in" ["folds"] (spJ R_sums_in)) : Cal P w K mg base 3 "goal_of" ["folds"] (spJ R_goal_of) := by
  refine fn_cal F c_goal_of (fun ds r h => ?_) (fun _ _ _ _ _ _ us hl => match us, hl with | [_], _ => rfl) (fun f cdv A outer s H E ds r hr h => ?_)
  · obtain ⟨fs, hn, hf, rfl, rfl⟩ := h
    rfl
  obtain ⟨fs, hn, hf, rfl, rfl⟩ := h
  have hb := sumsIn_bound (b := 7) hf
  exact jb_let 1 c_goal_of.nd (je_call F_sums_in (hr.mono (by decide)) (ja_cons ((je_var 0)) ja_nil) ⟨_, hf, rfl, rfl⟩) (jb_one (js_ret (je_tupleL B.b_tuple (je_mapN (x := "total") 2 (l := sumsIn fs) (emb := D.int) (f := fun t => .int ((t + (sumsIn fs).getLastD 0) / 2)) c_goal_of.nd (ji_tI (je_var 1)) (blkOk_by (N := n_goal_of) (sc := defScope s_goal_of) (by decide +kernel)) (by omega) (fun _ _ _ _ _ => pg_name (i := 2) c_goal_of.nd rfl (.inl rfl)) fun x hx s H C cl fp => je_div div_two (je_add (je_var 2) (je_ixTI (je_var 1) (je_neg je_int) (at_last0 (sums_ne hn)))) je_int)) (by unfold goal tI; rw [List.map_map]; rfl)))
def R_fewest_folds (ds : List D) (r : D) : Prop := ∃ (fs : List Int) (m : Nat), okF fs ∧ fs ≠ [] ∧ fs.length ≤ 4 ∧ m ≤ 4 ∧ Fst (goal fs) m ∧ ds = [tI fs] ∧ r = .int ((m : Nat) + 1)
theorem atI_get0 {α : Type} {l : List α} (d : α) (h : l ≠ []) : atI l 0 = some (l.headD d) := by
  cases l with
  | nil => exact absurd rfl h
  | cons x r => exact atI_nat (j := 0) rfl
theorem f_fewest_folds (B : BI mg) (F : DefAt K mg "fewest_folds" s_fewest_folds) (F_need_folds : Cal P w K mg base 4 "need_folds" ["value"] (spJ R_needF)) (F_need_few_folds : Cal P w K mg base 1 "need_few_folds" ["folds"] (spJ R_need_few_folds)) (F_goal_of : Cal P w K mg base 3 "goal_of" ["folds"] (spJ R_goal_of)) (F_shortest_to : Cal P w K mg base 5 "shortest_to" ["goal", "most"] (spJ R_shortest_to)) : Cal P w K mg base 6 "fewest_folds" ["folds"] (spJ R_fewest_folds) := by
  refine fn_cal F c_fewest_folds (fun ds r h => ?_) (fun _ _ _ _ _ _ us hl => match us, hl with | [_], _ => rfl) (fun f cdv A outer s H E ds r hr h => ?_)
  · obtain ⟨fs, m, okf, hn, hf, hm, hF, rfl, rfl⟩ := h
    rfl
  obtain ⟨fs, m, okf, hn, hf, hm, hF, rfl, rfl⟩ := h
  have hg : (goal fs).length ≤ 8 := by
    have h := goal_length fs
    have h2 : 2 ^ (fs.length - 1) ≤ 2 ^ 3 := Nat.pow_le_pow_right (by decide) (by omega)
    omega
  have hgn : goal fs ≠ [] := fun z => by
    unfold goal at z
    exact sums_ne hn (List.map_eq_nil_iff.mp z)
  have hhead : atI ((tuplesOf (goal fs) m).map tI) 0 = some (tI ((tuplesOf (goal fs) m).headD [])) := by
    have h := hF.has
    cases q : tuplesOf (goal fs) m with
    | nil => exact absurd q h
    | cons x r => exact atI_nat (j := 0) rfl
  have hlen : ((tuplesOf (goal fs) m).headD []).length = m := by
    have h := hF.has
    cases q : tuplesOf (goal fs) m with
    | nil => exact absurd q h
    | cons x r => exact tuples_steps x (by rw [q]; exact List.mem_cons_self)
  refine jb_do (je_call F_need_folds (hr.mono (by decide)) (ja_cons ((je_var 0)) ja_nil) ⟨_, okf, rfl, rfl⟩) (jb_do (je_call F_need_few_folds (hr.mono (by decide)) (ja_cons ((je_var 0)) ja_nil) ⟨_, (by omega), rfl, rfl⟩) (jb_one (js_ret (je_if (k := true) (jt_conv (jt_neT (ms := []) hr (je_var 0) je_t0) (by rw [eq_nil hn]; rfl)) (fun _ => je_conv (je_add (je_lenTI B.b_len (je_ixL (je_call F_shortest_to (hr.mono (by decide)) (ja_cons ((je_call F_goal_of (hr.mono (by decide)) (ja_cons ((je_var 0)) ja_nil) ⟨_, hn, (by omega), rfl, rfl⟩)) (ja_cons (je_globI B.k_STEPS) ja_nil)) ⟨goal fs, m, hgn, hm, hg, hF, rfl, rfl⟩) je_int hhead)) je_int) (by rw [hlen])) fun z => nomatch z) rfl)))
end
end L2.K79

set_option Elab.async false
set_option linter.all false
set_option maxRecDepth 100000
set_option maxHeartbeats 4000000
namespace L2.K79
open PySem PySem.Spec PyProof.Rows L2
/-! ### one cell that changes: an object at a, named by slot k -/
def Xa (a : Addr) (H H' : Hp) : Prop := ∀ b o, b ≠ a → H b = some o → H' b = some o
theorem Xa.trans {a : Addr} {H H1 H2 : Hp} (x : Xa a H H1) (y : Xa a H1 H2) : Xa a H H2 := fun b o n e => y b o n (x b o n e)
theorem Xa.refl (a : Addr) (H : Hp) : Xa a H H := fun _ _ _ e => e
theorem xa_of {a : Addr} {H H' : Hp} (e : Ex H H') : Xa a H H' := fun b o _ h => e b o h
theorem Xa.xc {a : Addr} {H H' : Hp} {C : Addr → Prop} (x : Xa a H H') (c : C a) : Xc C H H' := fun b u n e => x b u (fun z => n (z ▸ c)) e
theorem Xa.mv {a : Addr} {H H' : Hp} {C : Addr → Prop} (x : Xa a H H') (c : C a) : Mv C H C H' := (x.xc c).mv
structure Kat (C : Addr → Prop) (a : Addr) (H : Hp) (σ : L2.St) (k : Nat) (G : Gm) (u : HO) : Prop where
  al : Al C H
  ca : C a
  sl : σ[k]? = some (some (.ref a))
  hu : H a = some u
  st : Sat C H σ G
theorem Kat.step {C : Addr → Prop} {a : Addr} {H H' : Hp} {σ : L2.St} {k : Nat} {G : Gm} {u u' : HO} (K : Kat C a H σ k G u) (x : Xa a H H') (h : H' a = some u') : Kat C a H' σ k G u' :=
  ⟨fun b c n => (by
    by_cases e : b = a
    · subst e; rw [h] at n; cases n
    · cases q : H b with
      | none => exact K.al b c q
      | some o => (rw [x b o e q] at n; cases n)), K.ca, K.sl, h, K.st.mv (x.mv K.ca)⟩
theorem Kat.ex {C : Addr → Prop} {a : Addr} {H H' : Hp} {σ : L2.St} {k : Nat} {G : Gm} {u : HO} (K : Kat C a H σ k G u) (e : Ex H H') : Kat C a H' σ k G u := K.step (xa_of e) (e _ _ K.hu)
def kE (k : Nat) (G : Gm) (u : HO) (R : D → HO → Prop) : TE := fun σ H Q => ∃ C a, Kat C a H σ k G u ∧ ∀ v H' d u', Xa a H H' → H' a = some u' → Rp C H' v d → R d u' → Q v H'
def kT (k : Nat) (G : Gm) (u : HO) (R : Bool → HO → Prop) : TT := fun σ H Q => ∃ C a, Kat C a H σ k G u ∧ ∀ b H' u', Xa a H H' → H' a = some u' → R b u' → Q b H'
def kA (k : Nat) (G : Gm) (u : HO) (R : List D → HO → Prop) : TA := fun σ H Q => ∃ C a, Kat C a H σ k G u ∧ ∀ vs H' ds u', Xa a H H' → H' a = some u' → RpA C H' vs ds → R ds u' → Q vs H'
def kI (k : Nat) (G : Gm) (u : HO) (R : List D → HO → Prop) : TI := fun σ H Q => ∃ C a, Kat C a H σ k G u ∧ ∀ J H' xs u', Xa a H H' → H' a = some u' → ItOk C J xs H' → R xs u' → Q J H'
def kS (k : Nat) (G : Gm) (u : HO) (N : Gm → HO → Prop) (R : D → HO → Prop) : TS := fun Z σ H => ∃ C a, Kat C a H σ k G u ∧ (∀ σ' H' G' u', Xa a H H' → Kat C a H' σ' k G' u' → N G' u' → Z.nx σ' H') ∧
  ∀ v H' d u', Xa a H H' → H' a = some u' → Rp C H' v d → R d u' → Z.rt v H'
abbrev KE (X : Cx) (e : Expr) (k : Nat) (G : Gm) (u : HO) (R : D → HO → Prop) : Prop := PE X e (kE k G u R)
abbrev KT (X : Cx) (e : Expr) (k : Nat) (G : Gm) (u : HO) (R : Bool → HO → Prop) : Prop := PT X e (kT k G u R)
abbrev KW (X : Cx) (e : Expr) (k : Nat) (G : Gm) (u : HO) (R : Bool → HO → Prop) : Prop := PW X e (kT k G u R)
abbrev KA (X : Cx) (e : List Expr) (k : Nat) (G : Gm) (u : HO) (R : List D → HO → Prop) : Prop := PA X e (kA k G u R)
abbrev KI (X : Cx) (tg e : Expr) (k : Nat) (G : Gm) (u : HO) (R : List D → HO → Prop) : Prop := PI X tg e (kI k G u R)
abbrev KS (X : Cx) (e : Stmt) (k : Nat) (G : Gm) (u : HO) (N : Gm → HO → Prop) (R : D → HO → Prop) : Prop := PS X e (kS k G u N R)
abbrev KB (X : Cx) (e : List Stmt) (k : Nat) (G : Gm) (u : HO) (N : Gm → HO → Prop) (R : D → HO → Prop) : Prop := PSs X e (kS k G u N R)
section
variable {X : Cx}
theorem _root_.L2.PA.all {ι : Sort _} {e : List Expr} {t : ι → TA} {p : ι → Prop} (h : ∀ x, p x → PA X e (t x)) : PA X e (fun σ H Q => ∃ x, p x ∧ t x σ H Q) := ⟨fun po pins s σ H Q I ⟨x, px, q⟩ => (h x px).run po pins s σ H Q I q⟩
theorem _root_.L2.PT.all {ι : Sort _} {e : Expr} {t : ι → TT} {p : ι → Prop} (h : ∀ x, p x → PT X e (t x)) : PT X e (fun σ H Q => ∃ x, p x ∧ t x σ H Q) := ⟨fun pins s σ H Q I ⟨x, px, q⟩ => (h x px).run pins s σ H Q I q⟩
theorem _root_.L2.PW.all {ι : Sort _} {e : Expr} {t : ι → TT} {p : ι → Prop} (h : ∀ x, p x → PW X e (t x)) : PW X e (fun σ H Q => ∃ x, p x ∧ t x σ H Q) := ⟨fun wh pins s σ H Q I ⟨x, px, q⟩ => (h x px).run wh pins s σ H Q I q⟩
end
section
variable {X : Cx} {k : Nat} {G : Gm} {u : HO} {pos : Pos} {a b c e : Expr} {es : List Expr} {R : D → HO → Prop}
/-! ### expressions -/
theorem ke_of {d : D} (h : JE X e G d) (q : R d u) : KE X e k G u R := h.wk fun σ H Q ⟨C, c, K, f⟩ => ⟨C, K.al, K.st, fun v H' ex r => f v H' d u (xa_of ex) (ex _ _ K.hu) r q⟩
theorem ke_wk {R' : D → HO → Prop} (h : KE X e k G u R) (w : ∀ d u', R d u' → R' d u') : KE X e k G u R' := h.wk fun σ H Q ⟨C, c, K, f⟩ => ⟨C, c, K, fun v H' d u' x hu r q => f v H' d u' x hu r (w d u' q)⟩
theorem kt_of {RT : Bool → HO → Prop} {t : Bool} (h : JT X c G t) (q : RT t u) : KT X c k G u RT := h.wk fun σ H Q ⟨C, c, K, f⟩ => ⟨C, K.al, K.st, fun H' ex => f t H' u (xa_of ex) (ex _ _ K.hu) q⟩
theorem kt_val {RT : Bool → HO → Prop} (h : KE X a k G u fun d u' => ∃ t, d = .bl t ∧ RT t u') (he : ∀ whole, isTrue a X.env whole = (do let v ← whole; standAt a.pos; holding [v] (truthy v)) := by intro _; rfl) : KT X a k G u RT :=
  (pt_val h he).wk fun σ H Q ⟨C, c, K, f⟩ => ⟨C, c, K, fun v H' d u' x hu r ⟨t, ed, q⟩ => by
    subst ed
    exact ⟨t, rp_bl r, f t H' u' x hu q⟩⟩
theorem kt_not {RT : Bool → HO → Prop} (h : KT X a k G u fun t u' => RT (!t) u') : KT X (.UnaryOp .Not a pos) k G u RT := (pt_not h).wk fun σ H Q ⟨C, c, K, f⟩ => ⟨C, c, K, fun t H' u' x hu q => f (!t) H' u' x hu q⟩
theorem kw_or1 {RT : Bool → HO → Prop} (h : KT X a k G u RT) : KW X (.BoolOp .Or [a] pos) k G u RT := pw_or1 h
theorem kw_or {RT R1 : Bool → HO → Prop} (h : KT X a k G u R1) (h1 : ∀ u', R1 true u' → RT true u') (hb : ∀ u', R1 false u' → KW X (.BoolOp .Or (b :: es) pos) k G u' RT) : KW X (.BoolOp .Or (a :: b :: es) pos) k G u RT :=
  (pw_or h (PW.all hb)).wk fun σ H Q ⟨C, c, K, f⟩ => ⟨C, c, K, fun t H' u' x hu q => by
    cases t with
    | true => exact iteT (f true H' u' x hu (h1 u' q))
    | false => exact iteF ⟨u', q, C, c, K.step x hu, fun t H2 u2 x2 h2 q2 => f t H2 u2 (x.trans x2) h2 q2⟩⟩
theorem ke_andT {P1 : HO → Prop} (h : KE X a k G u fun d u' => d = .bl true ∧ P1 u') (hb : ∀ u', P1 u' → KE X (.BoolOp .And (b :: es) pos) k G u' R) : KE X (.BoolOp .And (a :: b :: es) pos) k G u R :=
  (pe_and h (PE.all hb)).wk fun σ H Q ⟨C, c, K, f⟩ => ⟨C, c, K, fun v H' d u' x hu r q => by
    obtain ⟨rfl, q⟩ := q
    exact ⟨true, rp_bl r, iteT ⟨u', q, C, c, K.step x hu, fun v H2 d u2 x2 h2 r2 q2 => f v H2 d u2 (x.trans x2) h2 r2 q2⟩⟩⟩
theorem ke_one {op : BoolOp} (h : KE X a k G u R) : KE X (.BoolOp op [a] pos) k G u R := pe_one h
theorem ke_op {op : Operator} {r : R2} {R1 : D → HO → Prop} {R2' : D → D → HO → Prop} (ho : OpR X (binaryOp op) r) (ha : KE X a k G u R1) (hb : ∀ d u1, R1 d u1 → KE X b k G u1 (R2' d))
    (hr : ∀ d1 d2 u', R2' d1 d2 u' → ∃ d, R d u' ∧ ∀ C x y H, Al C H → Rp C H x d1 → Rp C H y d2 → ∀ Q : VK, (∀ v H', Ex H H' → Rp C H' v d → Q v H') → r x y H Q) : KE X (.BinOp a op b pos) k G u R :=
  (pe_op ho ha (PE.all (ι := D × HO) (p := fun p => R1 p.1 p.2) fun p hp => hb p.1 p.2 hp)).wk fun σ H Q ⟨C, c, K, f⟩ => ⟨C, c, K, fun x H1 d1 u1 x1 h1 r1 q1 => ⟨(d1, u1), q1, C, c, K.step x1 h1, fun y H2 d2 u2 x2 h2 r2 q2 => by
    obtain ⟨d, qd, hr'⟩ := hr d1 d2 u2 q2
    exact hr' C x y H2 ((K.step x1 h1).step x2 h2).al (Rp.mv (x2.mv K.ca) _ _ r1) r2 Q fun v H' ex rv => f v H' d u2 (x1.trans (x2.trans (xa_of ex))) (ex _ _ h2) rv qd⟩⟩
theorem ki_add {P1 : Int → HO → Prop} {P2 : Int → Int → HO → Prop} (ha : KE X a k G u fun d u' => ∃ i, d = .int i ∧ P1 i u') (hb : ∀ i u1, P1 i u1 → KE X b k G u1 fun d u' => ∃ j, d = .int j ∧ P2 i j u') (h : ∀ i j u', P2 i j u' → R (.int (i + j)) u') : KE X (.BinOp a .Add b pos) k G u R :=
  ke_op (R2' := fun d1 d2 u' => ∃ i j, d1 = .int i ∧ d2 = .int j ∧ P2 i j u') op_add ha (fun d u1 ⟨i, ed, p⟩ => ke_wk (hb i u1 p) fun d2 u' ⟨j, e2, p2⟩ => ⟨i, j, ed, e2, p2⟩) fun d1 d2 u' ⟨i, j, e1, e2, p⟩ => ⟨_, h i j u' p, fun C x y H al r1 r2 Q q => by
    subst e1 e2
    exact ⟨i, j, rp_int r1, rp_int r2, q _ H (Same.refl H) (.int _)⟩⟩
theorem ki_sub {P1 : Int → HO → Prop} {P2 : Int → Int → HO → Prop} (ha : KE X a k G u fun d u' => ∃ i, d = .int i ∧ P1 i u') (hb : ∀ i u1, P1 i u1 → KE X b k G u1 fun d u' => ∃ j, d = .int j ∧ P2 i j u') (h : ∀ i j u', P2 i j u' → R (.int (i - j)) u') : KE X (.BinOp a .Sub b pos) k G u R :=
  ke_op (R2' := fun d1 d2 u' => ∃ i j, d1 = .int i ∧ d2 = .int j ∧ P2 i j u') op_sub ha (fun d u1 ⟨i, ed, p⟩ => ke_wk (hb i u1 p) fun d2 u' ⟨j, e2, p2⟩ => ⟨i, j, ed, e2, p2⟩) fun d1 d2 u' ⟨i, j, e1, e2, p⟩ => ⟨_, h i j u' p, fun C x y H al r1 r2 Q q => by
    subst e1 e2
    exact ⟨i, j, rp_int r1, rp_int r2, q _ H (Same.refl H) (.int _)⟩⟩
theorem ke_if {t : Bool} (h : JT X c G t) (ha : t = true → KE X a k G u R) (hb : t = false → KE X b k G u R) : KE X (.IfExp c a b pos) k G u R :=
  (pe_ifExp h (pe_ex ha) (pe_ex hb)).wk fun σ H Q ⟨C, c, K, f⟩ => ⟨C, K.al, K.st, fun H1 e1 => by
    cases t with
    | true => exact iteT ⟨rfl, C, c, K.ex e1, fun v H2 d u2 x2 h2 r2 q2 => f v H2 d u2 ((xa_of e1).trans x2) h2 r2 q2⟩
    | false => exact iteF ⟨rfl, C, c, K.ex e1, fun v H2 d u2 x2 h2 r2 q2 => f v H2 d u2 ((xa_of e1).trans x2) h2 r2 q2⟩⟩
/-! ### arguments -/
variable {RA : List D → HO → Prop}
theorem ka_nil (q : RA [] u) : KA X [] k G u RA := pa_nil.wk fun σ H Q ⟨C, c, K, f⟩ => f [] H [] u (Xa.refl c H) K.hu .nil q
theorem ka_cons {R1 : D → HO → Prop} (h : KE X e k G u R1) (hr : ∀ d u1, R1 d u1 → KA X es k G u1 fun ds u' => RA (d :: ds) u') (hs : starEach (e :: es) X.env = (false, eval e X.env) :: starEach es X.env := by rfl) : KA X (e :: es) k G u RA :=
  (pa_cons h (PA.all (ι := D × HO) (p := fun p => R1 p.1 p.2) fun p hp => hr p.1 p.2 hp) hs).wk fun σ H Q ⟨C, c, K, f⟩ => ⟨C, c, K, fun x H1 d1 u1 x1 h1 r1 q1 => ⟨(d1, u1), q1, C, c, K.step x1 h1, fun xs H2 ds u2 x2 h2 r2 q2 => f _ H2 _ u2 (x1.trans x2) h2 (.cons (Rp.mv (x2.mv K.ca) _ _ r1) r2) q2⟩⟩
theorem ka_of {ds : List D} (h : JA X es G ds) (q : RA ds u) : KA X es k G u RA := h.wk fun σ H Q ⟨C, c, K, f⟩ => ⟨C, K.al, K.st, fun vs H' ex r => f vs H' ds u (xa_of ex) (ex _ _ K.hu) r q⟩
theorem ke_tup {kk : Nat} (h : KA X es k G u RA) (q : ∀ ds u', RA ds u' → ds.length ≤ 100000 ∧ R (.tup ds) u') : KE X (.Tuple es kk pos) k G u R :=
  (pe_tup h).wk fun σ H Q ⟨C, c, K, f⟩ => ⟨C, c, K, fun xs H1 ds u1 x1 h1 r1 q1 => ⟨by rw [r1.length]; exact sz (q ds u1 q1).1, fun p hp => f _ _ _ u1 (x1.trans (xa_of (Ex.new hp))) (Ex.new hp _ _ h1) (rp_newT (K.step x1 h1).al hp r1) (q ds u1 q1).2⟩⟩
theorem ke_lst (h : KA X es k G u RA) (q : ∀ ds u', RA ds u' → ds.length ≤ 100000 ∧ R (.lst ds) u') : KE X (.List es pos) k G u R :=
  (pe_lst h).wk fun σ H Q ⟨C, c, K, f⟩ => ⟨C, c, K, fun xs H1 ds u1 x1 h1 r1 q1 => ⟨by rw [r1.length]; exact sz (q ds u1 q1).1, fun p hp => f _ _ _ u1 (x1.trans (xa_of (Ex.new hp))) (Ex.new hp _ _ h1) (rp_newL (K.step x1 h1).al hp r1) (q ds u1 q1).2⟩⟩
/-- f(e, ..) of a built-in -/
theorem ke_cB {x : Str} {p : Pos} {id : String} {r : List V → Hp → VK → Prop} (hc : CallR X (.builtin id) r) (hm : X.mg x = none) (hv : bootBuiltins x = some (.builtin id)) (ha : KA X (e :: es) k G u RA)
    (hr : ∀ ds u', RA ds u' → ∃ d, R d u' ∧ ∀ C vs H, Al C H → RpA C H vs ds → ∀ Q : VK, (∀ v H', Ex H H' → Rp C H' v d → Q v H') → r vs H Q) (hg : Gl X x := by rfl) (hn : x ≠ "__name__" := by decide) (hdb : (x == ("__debug__" : Str)) = false := by decide)
    (he : starEach (e :: es) X.env = (false, eval e X.env) :: starEach es X.env := by rfl) (hpl : (backTo pos (starEach es X.env)).any (·.1) = false := by rfl) : KE X (.Call (.Name x p) (e :: es) [] pos) k G u R :=
  (pe_callB hc hg hm hv ha hn hdb he hpl).wk fun σ H Q ⟨C, c, K, f⟩ => ⟨C, c, K, fun vs H1 ds u1 x1 h1 r1 q1 => by
    obtain ⟨d, qd, hr'⟩ := hr ds u1 q1
    exact hr' C vs H1 (K.step x1 h1).al r1 Q fun v H2 ex r2 => f v H2 d u1 (x1.trans (xa_of ex)) (ex _ _ h1) r2 qd⟩
theorem ke_cT {x : Str} {p : Pos} {id : String} {r : List V → Hp → VK → Prop} (hc : CallR X (.type id) r) (hm : X.mg x = none) (hv : bootBuiltins x = some (.type id)) (ha : KA X (e :: es) k G u RA)
    (hr : ∀ ds u', RA ds u' → ∃ d, R d u' ∧ ∀ C vs H, Al C H → RpA C H vs ds → ∀ Q : VK, (∀ v H', Ex H H' → Rp C H' v d → Q v H') → r vs H Q) (hg : Gl X x := by rfl) (hn : x ≠ "__name__" := by decide) (hdb : (x == ("__debug__" : Str)) = false := by decide)
    (he : starEach (e :: es) X.env = (false, eval e X.env) :: starEach es X.env := by rfl) (hpl : (backTo pos (starEach es X.env)).any (·.1) = false := by rfl) : KE X (.Call (.Name x p) (e :: es) [] pos) k G u R :=
  (pe_callTy hc hg hm hv ha hn hdb he hpl).wk fun σ H Q ⟨C, c, K, f⟩ => ⟨C, c, K, fun vs H1 ds u1 x1 h1 r1 q1 => by
    obtain ⟨d, qd, hr'⟩ := hr ds u1 q1
    exact hr' C vs H1 (K.step x1 h1).al r1 Q fun v H2 ex r2 => f v H2 d u1 (x1.trans (xa_of ex)) (ex _ _ h1) r2 qd⟩
/-- tuple(e), known or not -/
theorem ke_tupleL {p : Pos} (hm : X.mg "tuple" = none) (h : KE X e k G u fun d u' => ∃ ds, d = .lst ds ∧ R (.tup ds) u') (he : starEach [e] X.env = (false, eval e X.env) :: starEach [] X.env := by rfl) (hg : Gl X "tuple" := by rfl) (hpl : (backTo pos (starEach [] X.env)).any (·.1) = false := by rfl) : KE X (.Call (.Name "tuple" p) [e] [] pos) k G u R :=
  ke_cT (RA := fun ds u' => ∃ xs, ds = [.lst xs] ∧ R (.tup xs) u') call_tuple_of hm (by decide +kernel) (ka_cons h (fun d u1 ⟨ds, ed, q⟩ => ka_nil ⟨ds, by rw [ed], q⟩) he) (fun ds u' ⟨xs, ed, q⟩ => ⟨_, q, fun C vs H al r Q f => by
    subst ed
    cases r with
    | cons h1 h2 =>
      cases h2
      cases h1 with
      | lst hc hr ht => exact ⟨_, _, rfl, .inl ⟨.inl hr.rd, fun l hl => f _ _ (Ex.new hl) (rp_newT al hl ht)⟩⟩⟩) hg (by decide) (by decide) he hpl
theorem ke_tupleX {p : Pos} (hm : X.mg "tuple" = none) (h : KE X e k G u fun d u' => ∃ ds, d = .lst ds ∧ R (.tux ds) u') (he : starEach [e] X.env = (false, eval e X.env) :: starEach [] X.env := by rfl) (hg : Gl X "tuple" := by rfl) (hpl : (backTo pos (starEach [] X.env)).any (·.1) = false := by rfl) : KE X (.Call (.Name "tuple" p) [e] [] pos) k G u R :=
  ke_cT (RA := fun ds u' => ∃ xs, ds = [.lst xs] ∧ R (.tux xs) u') call_tupleX hm (by decide +kernel) (ka_cons h (fun d u1 ⟨ds, ed, q⟩ => ka_nil ⟨ds, by rw [ed], q⟩) he) (fun ds u' ⟨xs, ed, q⟩ => ⟨_, q, fun C vs H al r Q f => by
    subst ed
    cases r with
    | cons h1 h2 =>
      cases h2
      cases h1 with
      | lst hc hr ht => exact ⟨_, _, rfl, .inl hr.rd, fun l ob hd hl => f _ _ (Ex.new hl) (.tux (fresh_C al hl) hd (.inl upd_same) (RpA.mv ((Ex.new hl).mv C) _ _ ht))⟩⟩) hg (by decide) (by decide) he hpl
/-- sorted(set(e)) -/
theorem ke_sset {p p2 pos2 : Pos} (hcalm : X.calm = true) (hm : X.mg "sorted" = none) (hm2 : X.mg "set" = none) (h : KE X e k G u fun d u' => ∃ ns : List Int, d = lI ns ∧ ns.length ≤ 4000 ∧ R (lI (sdu ns)) u') (he : starEach [e] X.env = (false, eval e X.env) :: starEach [] X.env := by rfl) (hg2 : Gl X "set" := by rfl) (hpl2 : (backTo pos2 (starEach [] X.env)).any (·.1) = false := by rfl)
    (he2 : starEach [.Call (.Name "set" p2) [e] [] pos2] X.env = (false, eval (.Call (.Name "set" p2) [e] [] pos2) X.env) :: starEach [] X.env := by rfl) (hg : Gl X "sorted" := by rfl) (hpl : (backTo pos (starEach [] X.env)).any (·.1) = false := by rfl) :
    KE X (.Call (.Name "sorted" p) [.Call (.Name "set" p2) [e] [] pos2] [] pos) k G u R :=
  (pe_callB (cr_sortedS' hcalm) hg hm (by decide +kernel) (pa_cons (pe_callTy (cr_setI hcalm) hg2 hm2 (by decide +kernel) (ka_cons (RA := fun ds u' => ∃ ns : List Int, ds = [lI ns] ∧ ns.length ≤ 4000 ∧ R (lI (sdu ns)) u') h (fun d u1 ⟨ns, ed, q⟩ => ka_nil ⟨ns, by rw [ed], q⟩) he) (by decide) (by decide) he hpl2) pa_nil he2) (by decide) (by decide) he2 hpl).wk fun σ H Q ⟨C, c, K, f⟩ => by
    refine ⟨C, c, K, fun vs H1 ds u1 x1 h1 r1 q1 => ?_⟩
    obtain ⟨ns, rfl, hl, q1⟩ := q1
    have al1 := (K.step x1 h1).al
    cases r1 with
    | cons k1 k2 =>
      cases k2
      cases k1 with
      | lst hc hr ht =>
        rw [rpA_int ht] at hr
        refine ⟨_, ns, rfl, .inl (.inl hr.rd), by omega, fun p n hp => ?_⟩
        refine ⟨p, _, n, rfl, upd_same, fun ms p' g1 g2 g3 => ?_⟩
        have e : ms = sdu ns := sdu_eq g1 fun z => (g2 z).trans (by simp)
        subst e
        have e3 : Ex H1 (upd H1 p (SetO X.w p (fun j => decide (j ∈ ns)) n)) := Ex.new hp
        have e4 := e3.trans (Ex.new (o := .lst ((sdu ns).map V.int)) g3)
        exact f _ _ _ u1 (x1.trans (xa_of e4)) (e4 _ _ h1) (rp_newL (e3.al al1) g3 (rpA_of_int _)) q1
/-- things[e] -/
theorem ke_ixL {ds : List D} {P1 : Int → HO → Prop} (ha : JE X a G (.lst ds)) (hb : KE X b k G u fun d u' => ∃ i, d = .int i ∧ P1 i u') (h : ∀ i u', P1 i u' → ∃ d, atI ds i = some d ∧ R d u') (hs : PlainIx b := by exact fun _ _ => rfl) : KE X (.Subscript a b pos) k G u R :=
  (pe_ix ix_list ha hb hs).wk fun σ H Q ⟨C, c, K, f⟩ => ⟨C, K.al, K.st, fun x H1 e1 r1 => ⟨C, c, K.ex e1, fun y H2 d u2 x2 h2 r2 ⟨i, ed, p⟩ => by
    subst ed
    obtain ⟨d, hat, qd⟩ := h i u2 p
    cases r2
    have r3 := Rp.mv (x2.mv K.ca) _ _ r1
    cases r3 with
    | @lst p xs _ hc hr ht =>
      obtain ⟨j, g1, g2, g3, g4, g5⟩ := atI_get hat
      obtain ⟨v, q1, q2⟩ := ht.get g2
      refine ⟨p, xs, i, v, rfl, rfl, .inl hr.rd, ?_, f v H2 d u2 ((xa_of e1).trans x2) h2 q2 qd⟩
      unfold atI at hat ⊢
      rw [ht.length]
      cases hx : ixN ds.length i with
      | none => rw [hx] at hat; cases hat
      | some j' =>
        have := (ixN_seq hx).1
        rw [g1] at this
        cases this
        exact q1⟩⟩
/-! ### defs that have the cell -/
def spK (Pre : List D → HO → Prop) (R0 : List D → HO → D → HO → Prop) : Sp := fun vs H Q _ => ∃ C a vs' ds u, Al C H ∧ C a ∧ H a = some u ∧ vs = .ref a :: vs' ∧ RpA C H vs' ds ∧ Pre ds u ∧ ∀ v H' d u', Xa a H H' → H' a = some u' → Rp C H' v d → R0 ds u d u' → Q v H'
theorem ke_call {x y : Str} {p p2 : Pos} {n : Nat} {ps : List Str} {Pre : List D → HO → Prop} {R0 : List D → HO → D → HO → Prop} (F : Cal X.prog X.w X.K X.mg X.base n x ps (spK Pre R0)) (hr : Room n X.A) (ha : KA X es k G u RA) (h : ∀ ds u1, RA ds u1 → Pre ds u1 ∧ ∀ d u', R0 ds u1 d u' → R d u')
    (hN : X.N[k]? = some y := by rfl) (hv : Vis X.env.scope y := by first | exact Or.inl rfl | exact Or.inr (Or.inl rfl) | exact Or.inr (Or.inr rfl)) (hd : (y == ("__debug__" : Str)) = false := by decide) (hcd : (y == ("__classdict__" : Str)) = false := by decide)
    (hg : Gl X x := by rfl) (hdb : (x == ("__debug__" : Str)) = false := by decide) (he : starEach (.Name y p2 :: es) X.env = (false, eval (.Name y p2) X.env) :: starEach es X.env := by rfl) (hpl : (backTo pos (starEach es X.env)).any (·.1) = false := by rfl) :
    KE X (.Call (.Name x p) (.Name y p2 :: es) [] pos) k G u R := by
  obtain ⟨f, fd, F, hm, hk, hb⟩ := F.ex
  exact (pe_call (E := E0) F hr hg hm hk hb .nil pass0 (pa_cons (pe_var hN hv hd hcd) ha he) hdb he hpl).wk fun σ H Q ⟨C, c, K, f⟩ => ⟨.ref c, K.sl, C, c, K, fun vs H1 ds u1 x1 h1 r1 q1 => by
    have K1 := K.step x1 h1
    refine ⟨C, c, vs, ds, u1, K1.al, K.ca, h1, by rw [List.append_nil], r1, (h ds u1 q1).1, fun v H2 d u2 x2 h2 r2 q2 => f v H2 d u2 (x1.trans x2) h2 r2 ((h ds u1 q1).2 d u2 q2)⟩⟩
end
/-! ### statements -/
section
variable {X : Cx} {k : Nat} {G : Gm} {u : HO} {pos : Pos} {a b c e : Expr} {st : Stmt} {sts els : List Stmt} {N : Gm → HO → Prop} {R : D → HO → Prop}
theorem kb_nil (q : N G u) : KB X [] k G u N R := pss_nil.wk fun Z σ H ⟨C, c, K, n, r⟩ => n σ H G u (Xa.refl c H) K q
theorem kb_cons {N1 : Gm → HO → Prop} (h1 : KS X st k G u N1 R) (h2 : ∀ G' u', N1 G' u' → KB X sts k G' u' N R) : KB X (st :: sts) k G u N R :=
  (pss_cons h1 (PSs.all (ι := Gm × HO) (p := fun p => N1 p.1 p.2) fun p hp => h2 p.1 p.2 hp)).wk fun Z σ H ⟨C, c, K, n, r⟩ => ⟨C, c, K, fun σ' H' G' u' x K' q => ⟨(G', u'), q, C, c, K', fun σ2 H2 G2 u2 x2 K2 q2 => n σ2 H2 G2 u2 (x.trans x2) K2 q2, fun v H2 d u2 x2 h2 r2 q2 => r v H2 d u2 (x.trans x2) h2 r2 q2⟩, r⟩
theorem kb_one (h : KS X st k G u N R) : KB X [st] k G u N R := pss_one h
theorem ks_wk {N' : Gm → HO → Prop} (h : KS X st k G u N' R) (w : ∀ G' u', N' G' u' → N G' u') : KS X st k G u N R := h.wk fun Z σ H ⟨C, c, K, n, r⟩ => ⟨C, c, K, fun σ' H' G' u' x K' q => n σ' H' G' u' x K' (w G' u' q), r⟩
theorem ks_ret (h : KE X e k G u R) : KS X (.Return (some e) pos) k G u N R := (ps_ret h).wk fun Z σ H ⟨C, c, K, n, r⟩ => ⟨C, c, K, r⟩
theorem Kat.set {C : Addr → Prop} {c : Addr} {H : Hp} {σ : L2.St} (K : Kat C c H σ k G u) {i : Nat} (hik : i ≠ k) {v : V} {d : D} (r : Rp C H v d) : Kat C c H (σ.set i (some v)) k (G.set i (some d)) u :=
  ⟨K.al, K.ca, by rw [List.getElem?_set_ne hik]; exact K.sl, K.hu, K.st.set i r⟩
theorem ks_set (i : Nat) {x : Str} {pos' : Pos} {R1 : D → HO → Prop} (hik : i ≠ k) (hN : X.N.Nodup) (h : KE X e k G u R1) (q : ∀ d u', R1 d u' → N (G.set i (some d)) u') (hi : X.N[i]? = some x := by rfl) (hx : Loc X.env.scope x := by first | exact .inl rfl | exact .inr rfl) (hs : swapsWith e (some (.Name x pos')) pos.line X.env = pure false := by rfl)
    (hf : X.fn x = true ∨ X.env.scope.names.lookup x = some .local := by first | exact .inl rfl | exact .inr rfl | assumption) : KS X (.Assign [.Name x pos'] e pos) k G u N R :=
  (ps_set hN hi hx h hs hf).wk fun Z σ H ⟨C, c, K, n, r⟩ => ⟨C, c, K, fun v H' d u' x' h' rp q1 => n _ H' _ u' x' ((K.step x' h').set hik rp) (q d u' q1)⟩
theorem kb_let (i : Nat) {x : Str} {pos' : Pos} {R1 : D → HO → Prop} (hik : i ≠ k) (hN : X.N.Nodup) (h : KE X e k G u R1) (q : ∀ d u', R1 d u' → KB X sts k (G.set i (some d)) u' N R) (hi : X.N[i]? = some x := by rfl) (hx : Loc X.env.scope x := by first | exact .inl rfl | exact .inr rfl) (hs : swapsWith e (some (.Name x pos')) pos.line X.env = pure false := by rfl)
    (hf : X.fn x = true ∨ X.env.scope.names.lookup x = some .local := by first | exact .inl rfl | exact .inr rfl | assumption) : KB X (.Assign [.Name x pos'] e pos :: sts) k G u N R :=
  kb_cons (N1 := fun G' u' => ∃ d, G' = G.set i (some d) ∧ R1 d u') (ks_set i hik hN h (fun d u' q => ⟨d, rfl, q⟩) hi hx hs hf) fun G' u' ⟨d, eG, q1⟩ => by rw [eG]; exact q d u' q1
theorem ks_par (i j : Nat) {x y : Str} {px py pt : Pos} {kt k2 pt2} {R1 : D → HO → Prop} {R2' : D → D → HO → Prop} (hik : i ≠ k) (hjk : j ≠ k) (hc : X.calm = true) (hN : X.N.Nodup) (ha : KE X a k G u R1) (hb : ∀ d u1, R1 d u1 → KE X b k G u1 (R2' d)) (q : ∀ d1 d2 u', R2' d1 d2 u' → N ((G.set i (some d1)).set j (some d2)) u')
    (hi : X.N[i]? = some x := by rfl) (hj : X.N[j]? = some y := by rfl) (hij : i ≠ j := by decide)
    (hx : X.env.scope.names.lookup x = some .local := by rfl) (hy : X.env.scope.names.lookup y = some .local := by rfl) (ha1 : starEach [a, b] X.env = (false, eval a X.env) :: starEach [b] X.env := by rfl) (ha2 : starEach [b] X.env = (false, eval b X.env) :: starEach [] X.env := by rfl)
    (hw : swappedStores [.Tuple [.Name x px, .Name y py] kt pt] (.Tuple [a, b] k2 pt2) X.env = pure (some [x, y]) := by rfl)
    (hs : swapsWithSole [.Tuple [.Name x px, .Name y py] kt pt] (.Tuple [a, b] k2 pt2) pos.line X.env = pure false := by rfl) :
    KS X (.Assign [.Tuple [.Name x px, .Name y py] kt pt] (.Tuple [a, b] k2 pt2) pos) k G u N R :=
  (ps_par hc hN hi hj hij hx hy (ka_cons (RA := fun ds u' => ∃ d1 d2, ds = [d1, d2] ∧ R2' d1 d2 u') ha (fun d u1 q1 => ka_cons (hb d u1 q1) (fun d2 u2 q2 => ka_nil ⟨d, d2, rfl, q2⟩) ha2) ha1) hw hs).wk fun Z σ H ⟨C, c, K, n, r⟩ => ⟨C, c, K, fun vs H' ds u' x' h' rp q1 => by
    obtain ⟨d1, d2, rfl, q1⟩ := q1
    cases rp with
    | cons h1 h2 =>
      cases h2 with
      | cons h3 h4 =>
        cases h4
        exact ⟨_, _, rfl, n _ H' _ u' x' (((K.step x' h').set hik h1).set hjk h3) (q d1 d2 u' q1)⟩⟩
theorem ks_if {RT : Bool → HO → Prop} (hc : KT X c k G u RT) (h1 : ∀ u', RT true u' → KB X sts k G u' N R) (h2 : ∀ u', RT false u' → KB X els k G u' N R) : KS X (.If c sts els pos) k G u N R :=
  (ps_if hc (PSs.all h1) (PSs.all h2)).wk fun Z σ H ⟨C, c, K, n, r⟩ => ⟨C, c, K, fun t H1 u1 x1 g1 q1 => by
    have K1 := K.step x1 g1
    cases t with
    | true => exact iteT ⟨u1, q1, C, c, K1, fun σ2 H2 G2 u2 x2 K2 q2 => n σ2 H2 G2 u2 (x1.trans x2) K2 q2, fun v H2 d u2 x2 h2 r2 q2 => r v H2 d u2 (x1.trans x2) h2 r2 q2⟩
    | false => exact iteF ⟨u1, q1, C, c, K1, fun σ2 H2 G2 u2 x2 K2 q2 => n σ2 H2 G2 u2 (x1.trans x2) K2 q2, fun v H2 d u2 x2 h2 r2 q2 => r v H2 d u2 (x1.trans x2) h2 r2 q2⟩⟩
theorem kb_skip {P1 : HO → Prop} {rest : List Stmt} (hc : KT X c k G u fun t u' => t = false ∧ P1 u') (q : ∀ u', P1 u' → KB X rest k G u' N R) : KB X (.If c sts [] pos :: rest) k G u N R :=
  kb_cons (N1 := fun G' u' => G' = G ∧ P1 u') (ks_if hc (fun u' z => by cases z.1) fun u' z => kb_nil ⟨rfl, z.2⟩) fun G' u' ⟨eG, p⟩ => by rw [eG]; exact q u' p
def GK (g : TG) (k : Nat) (G : Gm) (d : D) (G' : Gm) : Prop := ∀ C v σ H Q, Sat C H σ G → Rp C H v d → (∀ σ', Sat C H σ' G' → σ'[k]? = σ[k]? → Q σ' H) → g v σ H Q
theorem gk_name {i : Nat} {d : D} (h : i ≠ k) : GK (gName i) k G d (G.set i (some d)) := fun C v σ H Q s r q => q _ (s.set i r) (List.getElem?_set_ne h)
theorem gk_pair {K : PySem.W.Frag} {i j : Nat} {d e : D} (hi : i ≠ k) (hj : j ≠ k) : GK (gTup K 2 (gCons (gName i) (gCons (gName j) gNil))) k G (.tup [d, e]) ((G.set i (some d)).set j (some e)) := fun C v σ H Q s r q => by
  cases r with
  | tup hc hr ha =>
    cases ha with
    | cons h1 h2 =>
      cases h2 with
      | cons h3 h4 =>
        cases h4
        exact ⟨_, _, rfl, .inl hr.rd, rfl, _, _, rfl, _, _, rfl, rfl, q _ ((s.set i h1).set j h3) (by rw [List.getElem?_set_ne hj, List.getElem?_set_ne hi])⟩
theorem ks_for {tg iter : Expr} {body : List Stmt} {g : TG} (xs : List D) (I : Nat → Gm → HO → Prop) (Gx : Nat → Gm → D → Gm) (hp : PassesOwn (model X.prog X.w) X.A X.env X.xe) (hcalm : X.calm = true) (hi : JI X tg iter G xs) (hg : PG X tg g) (G0 : Gm) (h0 : Wk G G0) (hI : I 0 G0 u)
    (hgo : ∀ i d G' u', xs[i]? = some d → I i G' u' → GK g k G' d (Gx i G' d)) (hb : ∀ i d G' u', xs[i]? = some d → I i G' u' → KB X body k (Gx i G' d) u' (fun G2 u2 => ∃ G3, Wk G2 G3 ∧ I (i + 1) G3 u2) R) (q : ∀ G' u', I xs.length G' u' → N G' u') (hs : ∀ x, foldedSetIterable iter X.env x = pure x := by intro _; rfl) : KS X (.For tg iter body [] pos) k G u N R :=
  (ps_for hp hcalm hi hg (PSs.all (ι := Nat × D × Gm × HO) (p := fun p => xs[p.1]? = some p.2.1 ∧ I p.1 p.2.2.1 p.2.2.2) fun p hp => hb p.1 p.2.1 p.2.2.1 p.2.2.2 hp.1 hp.2) hs).wk fun Z σ H ⟨C, c, K, n, r⟩ => ⟨C, K.al, K.st, fun J H1 e1 it => by
    have K1 := K.ex e1
    refine ⟨fun i m σ' H' => m = xs.length - i ∧ i ≤ xs.length ∧ ∃ G' u', I i G' u' ∧ Kat C c H' σ' k G' u' ∧ Xa c H1 H', ⟨xs.length, rfl, Nat.zero_le _, G0, u, hI, ⟨K1.al, K1.ca, K1.sl, K1.hu, K1.st.wk h0⟩, Xa.refl c H1⟩, ?_⟩
    rintro i m σ' H' ⟨rfl, hi', G', u', hIi, K', x'⟩
    obtain ⟨stop, go⟩ := it C H' (fun a h => .inl h) K'.al (x'.xc K.ca)
    by_cases hlt : i < xs.length
    · obtain ⟨g1, g2⟩ := go i xs[i] (List.getElem?_eq_getElem hlt)
      refine .inr ⟨g1, fun σ2 H2 => i + 1 ≤ xs.length ∧ ∃ G2 u2, I (i + 1) G2 u2 ∧ Kat C c H2 σ2 k G2 u2 ∧ Xa c H1 H2, fun σ2 H2 w => ⟨xs.length - (i + 1), by omega, rfl, w⟩, fun x H2 y => ?_⟩
      obtain ⟨e2, rx⟩ := g2 x H2 y
      have K2 := K'.ex e2
      refine hgo i xs[i] G' u' (List.getElem?_eq_getElem hlt) hIi C x σ' H2 _ K2.st rx fun σ3 s3 hk => ?_
      refine ⟨(i, xs[i], G', u'), ⟨List.getElem?_eq_getElem hlt, hIi⟩, C, c, ⟨K2.al, K2.ca, hk.trans K2.sl, K2.hu, s3⟩, fun σ4 H4 G4 u4 x4 K4 w4 => ?_, fun v H4 d u4 x4 h4 rp q4 => r v H4 d u4 ((xa_of e1).trans (x'.trans ((xa_of e2).trans x4))) h4 rp q4⟩
      obtain ⟨G5, w5, i5⟩ := w4
      exact ⟨hlt, G5, u4, i5, ⟨K4.al, K4.ca, K4.sl, K4.hu, K4.st.wk w5⟩, x'.trans ((xa_of e2).trans x4)⟩
    · have e : i = xs.length := by omega
      subst e
      exact .inl ⟨stop _ (Nat.le_refl _), n σ' H' G' u' ((xa_of e1).trans x') K' (q G' u' hIi)⟩⟩
theorem ks_while {body : List Stmt} (I : Nat → Gm → HO → Prop) (B : Nat → Gm → HO → Bool) (hp : PassesOwn (model X.prog X.w) X.A X.env X.xe) (m0 : Nat) (G0 : Gm) (h0 : Wk G G0) (hI : I m0 G0 u) (hc : ∀ m G' u', I m G' u' → JT X c G' (B m G' u'))
    (hb : ∀ m G' u', I m G' u' → B m G' u' = true → KB X body k G' u' (fun G2 u2 => ∃ m' G3, m' < m ∧ Wk G2 G3 ∧ I m' G3 u2) R) (q : ∀ m G' u', I m G' u' → B m G' u' = false → N G' u') : KS X (.While c body [] pos) k G u N R :=
  (ps_while hp (PT.all (ι := Nat × Gm × HO) (p := fun p => I p.1 p.2.1 p.2.2) fun p hp => hc p.1 p.2.1 p.2.2 hp) (PSs.all (ι := Nat × Gm × HO) (p := fun p => I p.1 p.2.1 p.2.2 ∧ B p.1 p.2.1 p.2.2 = true) fun p hp => hb p.1 p.2.1 p.2.2 hp.1 hp.2)).wk fun Z σ H ⟨C, c, K, n, r⟩ => by
    refine ⟨fun m σ' H' => ∃ G' u', I m G' u' ∧ Kat C c H' σ' k G' u' ∧ Xa c H H', ⟨m0, G0, u, hI, ⟨K.al, K.ca, K.sl, K.hu, K.st.wk h0⟩, Xa.refl c H⟩, ?_⟩
    rintro m σ' H' ⟨G', u', hIm, K', x'⟩
    refine ⟨(m, G', u'), hIm, C, K'.al, K'.st, fun H1 e1 => ?_⟩
    have K1 := K'.ex e1
    cases hB : B m G' u' with
    | true =>
      refine iteT ⟨fun σ2 H2 => ∃ m', m' < m ∧ ∃ G2 u2, I m' G2 u2 ∧ Kat C c H2 σ2 k G2 u2 ∧ Xa c H H2, fun σ2 H2 w => w, (m, G', u'), ⟨hIm, hB⟩, C, c, K1, fun σ4 H4 G4 u4 x4 K4 w4 => ?_, fun v H4 d u4 x4 h4 rp q4 => r v H4 d u4 (x'.trans ((xa_of e1).trans x4)) h4 rp q4⟩
      obtain ⟨m', G5, hm, w5, i5⟩ := w4
      exact ⟨m', hm, G5, u4, i5, ⟨K4.al, K4.ca, K4.sl, K4.hu, K4.st.wk w5⟩, x'.trans ((xa_of e1).trans x4)⟩
    | false => exact iteF (n σ' H1 G' u' (x'.trans (xa_of e1)) K1 (q m G' u' hIm hB))
end
end L2.K79

set_option Elab.async false
set_option linter.all false
set_option maxRecDepth 100000
set_option maxHeartbeats 4000000
namespace L2.K79
open PySem PySem.Spec PyProof.Rows L2
theorem Sat.setG {C : Addr → Prop} {H : Hp} {σ : L2.St} {G : Gm} (s : Sat C H σ G) {i : Nat} {v : V} {d : D} (e : σ[i]? = some (some v)) (r : Rp C H v d) : Sat C H σ (G.set i (some d)) := by
  refine ⟨by simp [s.len], fun j d' h => ?_⟩
  by_cases q : i = j
  · subst q
    by_cases hl : i < G.length
    · rw [List.getElem?_set_self hl] at h
      cases h
      exact ⟨v, e, r⟩
    · rw [List.getElem?_eq_none (by simpa using hl)] at h
      cases h
  · rw [List.getElem?_set_ne q] at h
    exact s.at_ j d' h
theorem Sat.setS {C : Addr → Prop} {H : Hp} {σ : L2.St} {G : Gm} (s : Sat C H σ G) (i : Nat) (x : Option V) : Sat C H (σ.set i x) (G.set i none) := by
  refine ⟨by simp [s.len], fun j d' h => ?_⟩
  by_cases q : i = j
  · subst q
    by_cases hl : i < G.length
    · rw [List.getElem?_set_self hl] at h
      cases h
    · rw [List.getElem?_eq_none (by simpa using hl)] at h
      cases h
  · rw [List.getElem?_set_ne q] at h ⊢
    exact s.at_ j d' h
section
variable {X : Cx} {k : Nat} {G : Gm} {u : HO} {pos : Pos} {a b c e : Expr} {es : List Expr}
/-! ### the cup -/
def cup (x y : Int) : HO := .lst [.int x, .int y]
theorem ke_cupx {x y i v : Int} {n : Str} {p : Pos} {R : D → HO → Prop} (hb : JE X b G (.int i)) (hv : (i = 0 ∧ v = x) ∨ (i = 1 ∧ v = y)) (q : R (.int v) (cup x y)) (hN : X.N[k]? = some n := by rfl) (hvis : Vis X.env.scope n := by first | exact Or.inl rfl | exact Or.inr (Or.inl rfl) | exact Or.inr (Or.inr rfl)) (hd : (n == ("__debug__" : Str)) = false := by decide) (hcd : (n == ("__classdict__" : Str)) = false := by decide) (hs : PlainIx b := by exact fun _ _ => rfl) :
    KE X (.Subscript (.Name n p) b pos) k G (cup x y) R :=
  (pe_ix ix_list (pe_var hN hvis hd hcd) hb hs).wk fun σ H Q ⟨C, c, K, f⟩ => ⟨_, K.sl, C, K.al, K.st, fun w H1 e1 r1 => by
    cases r1
    have h1 := e1 _ _ K.hu
    refine ⟨c, _, i, .int v, rfl, rfl, .inl (.inl h1), ?_, f _ H1 (.int v) _ (xa_of e1) h1 (.int v) q⟩
    rcases hv with ⟨rfl, rfl⟩ | ⟨rfl, rfl⟩
    · exact atI_nat (j := 0) rfl
    · exact atI_nat (j := 1) rfl⟩
/-- cup[i] = e -/
theorem ks_cup {x y x' y' i v : Int} {n : Str} {p p2 : Pos} {N : Gm → HO → Prop} {R : D → HO → Prop} (he : KE X e k G (cup x y) fun d u' => d = .int v ∧ u' = cup x y) (hb : JE X b G (.int i)) (hv : (i = 0 ∧ x' = v ∧ y' = y) ∨ (i = 1 ∧ x' = x ∧ y' = v)) (q : N G (cup x' y')) (hN : X.N[k]? = some n := by rfl) (hvis : Vis X.env.scope n := by first | exact Or.inl rfl | exact Or.inr (Or.inl rfl) | exact Or.inr (Or.inr rfl)) (hd : (n == ("__debug__" : Str)) = false := by decide) (hcd : (n == ("__classdict__" : Str)) = false := by decide)
    (hs : swapsWithSole [.Subscript (.Name n p) b p2] e pos.line X.env = pure false := by rfl) (hw : swappedStores [.Subscript (.Name n p) b p2] e X.env = pure none := by rfl) (h1 : (assignEach [.Subscript (.Name n p) b p2] X.env).map (·.2) = [assign (.Subscript (.Name n p) b p2) X.env] := by rfl)
    (ha : ∀ v, assign (.Subscript (.Name n p) b p2) X.env v = (do
      let ov ← holding [v] (eval (.Name n p) X.env)
      let iv ← holding [v, ov] (eval b X.env)
      standAt p2
      holding [v, ov, iv] (setItem ov iv v)
      release [v, ov, iv] []) := by intro _; rfl) : KS X (.Assign [.Subscript (.Name n p) b p2] e pos) k G (cup x y) N R :=
  (ps_asg he (pg_sub (pe_var hN hvis hd hcd) hb set_list ha) hs hw h1).wk fun Z σ H ⟨C, c, K, nx, r⟩ => ⟨C, c, K, fun w H1 d u1 x1 g1 rp ⟨ed, eu⟩ => by
    subst ed eu
    cases rp
    have K1 := K.step x1 g1
    refine ⟨_, K1.sl, C, K1.al, K1.st, fun w2 H2 e2 r2 => ?_⟩
    cases r2
    have h2 := e2 _ _ g1
    have K2 := K1.ex e2
    have fin : ∀ j, ([V.int x, V.int y].set j (.int v)) = [V.int x', V.int y'] → Z.nx σ (upd H2 c (.lst ([V.int x, V.int y].set j (.int v)))) := fun j ej => by
      rw [ej]
      have x3 : Xa c H2 (upd H2 c (cup x' y')) := fun b o ne h => by rw [upd_ne ne]; exact h
      exact nx σ _ G (cup x' y') (x1.trans ((xa_of e2).trans x3)) (K2.step x3 upd_same) q
    rcases hv with ⟨rfl, rfl, rfl⟩ | ⟨rfl, rfl, rfl⟩
    · exact ⟨c, _, 0, 0, rfl, rfl, h2, rfl, fin 0 rfl⟩
    · exact ⟨c, _, 1, 1, rfl, rfl, h2, rfl, fin 1 rfl⟩⟩
theorem je_int1 {p : Pos} {i : Int} (hm : X.mg "int" = none) (ha : JE X e G (.int i)) (he : starEach [e] X.env = (false, eval e X.env) :: starEach [] X.env := by rfl) (hg : Gl X "int" := by rfl) (hpl : (backTo pos (starEach [] X.env)).any (·.1) = false := by rfl) : JE X (.Call (.Name "int" p) [e] [] pos) G (.int i) :=
  je_cT call_int1 hm (by decide +kernel) (ja_cons ha ja_nil he) (fun C vs H al r Q q => by
    cases r with
    | cons h1 h2 =>
      cases h2
      cases h1
      exact .inl ⟨_, rfl, q _ H (Same.refl H) (.int _)⟩) hg (by decide) (by decide) he hpl
theorem ke_int1 {p : Pos} {R : D → HO → Prop} (hm : X.mg "int" = none) (ha : KE X e k G u fun d u' => ∃ i, d = .int i ∧ R (.int i) u') (he : starEach [e] X.env = (false, eval e X.env) :: starEach [] X.env := by rfl) (hg : Gl X "int" := by rfl) (hpl : (backTo pos (starEach [] X.env)).any (·.1) = false := by rfl) : KE X (.Call (.Name "int" p) [e] [] pos) k G u R :=
  ke_cT (RA := fun ds u' => ∃ i, ds = [.int i] ∧ R (.int i) u') call_int1 hm (by decide +kernel) (ka_cons ha (fun d u1 ⟨i, ed, q⟩ => ka_nil ⟨i, by rw [ed], q⟩) he) (fun ds u' ⟨i, ed, q⟩ => ⟨_, q, fun C vs H al r Q f => by
    subst ed
    cases r with
    | cons h1 h2 =>
      cases h2
      cases h1
      exact .inl ⟨_, rfl, f _ H (Same.refl H) (.int _)⟩⟩) hg (by decide) (by decide) he hpl
theorem je_max2 {p : Pos} {i j : Int} (hcalm : X.calm = true) (hm : X.mg "max" = none) (ha : JE X a G (.int i)) (hb : JE X b G (.int j)) (he : starEach [a, b] X.env = (false, eval a X.env) :: starEach [b] X.env := by rfl) (he2 : starEach [b] X.env = (false, eval b X.env) :: starEach [] X.env := by rfl) (hg : Gl X "max" := by rfl) (hpl : (backTo pos (starEach [b] X.env)).any (·.1) = false := by rfl) :
    JE X (.Call (.Name "max" p) [a, b] [] pos) G (.int (if j > i then j else i)) :=
  je_cB (call_max2 hcalm) hm (by decide +kernel) (ja_cons ha (ja_cons hb ja_nil he2) he) (fun C vs H al r Q q => by
    cases r with
    | cons h1 h2 =>
      cases h2 with
      | cons h3 h4 =>
        cases h4
        cases h1
        cases h3
        exact ⟨_, _, rfl, q _ H (Same.refl H) (.int _)⟩) hg (by decide) (by decide) he hpl
/-! ### what a for walks -/
theorem ki_of {tg : Expr} {xs : List D} {R : List D → HO → Prop} (h : JI X tg e G xs) (q : R xs u) : KI X tg e k G u R := h.wk fun σ H Q ⟨C, c, K, f⟩ => ⟨C, K.al, K.st, fun J H1 e1 it => f J H1 xs u (xa_of e1) (e1 _ _ K.hu) it q⟩
theorem ki_rng1 {tg : Expr} {p : Pos} {R : List D → HO → Prop} (hm : X.mg "range" = none) (ha : KE X a k G u fun d u' => ∃ n : Int, d = .int n ∧ (-(2 ^ 62) ≤ n ∧ n < 2 ^ 62) ∧ R ((List.range n.toNat).map fun i => D.int (0 + (i : Nat))) u') (he : starEach [a] X.env = (false, eval a X.env) :: starEach [] X.env := by rfl) (hg : Gl X "range" := by rfl) (hs : starEach [a] X.env = [(false, eval a X.env)] := by rfl) :
    KI X tg (.Call (.Name "range" p) [a] [] pos) k G u R :=
  (pi_range1 hg hm (ka_cons (RA := fun ds u' => ∃ n : Int, ds = [.int n] ∧ (-(2 ^ 62) ≤ n ∧ n < 2 ^ 62) ∧ R ((List.range n.toNat).map fun i => D.int (0 + (i : Nat))) u') ha (fun d u1 ⟨n, ed, q⟩ => ka_nil ⟨n, by rw [ed], q⟩) he) hs).wk fun σ H Q ⟨C, c, K, f⟩ => ⟨C, c, K, fun vs H1 ds u1 x1 h1 r1 ⟨n, ed, hb, q⟩ => by
    subst ed
    cases r1 with
    | cons k1 k2 =>
      cases k2
      cases k1
      exact ⟨n, rfl, hb.1, hb.2, f _ H1 _ u1 x1 h1 (itok_rng 0 _) q⟩⟩
/-- [elt for tg in iter], the cell changing -/
theorem ke_lc {elt tg iter : Expr} {scope : Scope} {g : TG} {R : D → HO → Prop} {RI : List D → HO → Prop} {PX : D → Prop} {PU : HO → Prop} {PP : D → D → Prop} {Gx : D → Gm} (own : List (Str × Nat)) (hc : X.calm = true) (hN : X.N.Nodup) (hi : KI X tg iter k G u RI) (ok : BlkOk X.N X.env.scope scope own) (hk : k ∉ own.map (·.2))
    (hRI : ∀ xs u1, RI xs u1 → xs.length ≤ 100000 ∧ PU u1 ∧ ∀ x ∈ xs, PX x)
    (hg : ∀ (s : Shared) (H : Hp) (C : Addr) (cl : List (Str × Addr)) (fp : List Addr), PG (X.blk s H scope (compEnvC scope cl C X.env) fp) tg g) (hgo : ∀ x, PX x → GOk g (own.map (·.2)) (wipeG G (own.map (·.2))) x (Gx x))
    (he : ∀ x u1, PX x → PU u1 → ∀ (s : Shared) (H : Hp) (C : Addr) (cl : List (Str × Addr)) (fp : List Addr), KE (X.blk s H scope (compEnvC scope cl C X.env) fp) elt k (Gx x) u1 fun d u' => PP x d ∧ PU u')
    (q : ∀ (xs : List D) u1 (ds : List D) u', RI xs u1 → ds.length = xs.length → (∀ (i : Nat) x d, xs[i]? = some x → ds[i]? = some d → PP x d) → PU u' → R (.lst ds) u') (hs : ∀ x, foldedSetIterable iter X.env x = pure x := by intro _; rfl) :
    KE X (.ListComp elt [⟨tg, iter, [], 0⟩] scope pos) k G u R := by
  refine (pe_lc (own := own) (tt := tYes) hc hN hi ok hg (fun _ _ _ _ _ => pts_nil) (fun s H C cl fp => PE.all (ι := D × HO) (p := fun p => PX p.1 ∧ PU p.2) fun p hp => he p.1 p.2 hp.1 hp.2 s H C cl fp) hs).wk fun σ H Q ⟨C, c, K, f⟩ => ⟨C, c, K, fun J H1 xs u1 x1 h1 it ri => fun Dl hD => ?_⟩
  obtain ⟨hlen, pu1, hpx⟩ := hRI xs u1 ri
  have K1 := K.step x1 h1
  have hne : Dl ≠ c := fun e => by rw [e, h1] at hD; cases hD
  let C' : Addr → Prop := fun a => C a ∨ a = Dl
  have s1 : Sat C' H1 σ G := K1.st.mv (Mv.newC hD)
  refine ⟨fun i m H' => m = xs.length - i ∧ i ≤ xs.length ∧ ∃ acc ds u', H' Dl = some (.lst acc) ∧ H' c = some u' ∧ PU u' ∧ Xa c H1 H' ∧ RpA C' H' acc ds ∧ ds.length = i ∧ ∀ (j : Nat) x d, xs[j]? = some x → ds[j]? = some d → PP x d,
    ⟨xs.length, rfl, Nat.zero_le _, [], [], u1, upd_same, by rw [upd_ne hne.symm]; exact h1, pu1, xa_of (Ex.new hD), .nil, rfl, fun j x d _ e => by simp at e⟩, ?_⟩
  rintro i m H' ⟨rfl, hi', acc, ds, u', hacc, hu', pu', x', ra, hdl, hpp⟩
  have al' : Al C' H' := fun b z => by
    rcases z with cb | e
    · by_cases e : b = c
      · rw [e, hu']; intro z; cases z
      · intro n
        cases qb : H1 b with
        | none => exact K1.al b cb qb
        | some o => rw [x' b o e qb] at n; cases n
    · rw [e, hacc]; intro z; cases z
  obtain ⟨stop, go⟩ := it C' H' (fun a z => z.elim .inl fun e => .inr (e ▸ hD)) al' (x'.xc (.inl K.ca))
  by_cases hlt : i < xs.length
  · have hx := List.getElem?_eq_getElem hlt
    have px := hpx _ (List.getElem_mem hlt)
    obtain ⟨g1, g2⟩ := go i _ hx
    refine .inr ⟨g1, fun H2 => i + 1 ≤ xs.length ∧ ∃ acc ds u', H2 Dl = some (.lst acc) ∧ H2 c = some u' ∧ PU u' ∧ Xa c H1 H2 ∧ RpA C' H2 acc ds ∧ ds.length = i + 1 ∧ ∀ (j : Nat) x d, xs[j]? = some x → ds[j]? = some d → PP x d, fun H2 w => ⟨xs.length - (i + 1), by omega, rfl, w⟩, fun x H2 y => ?_⟩
    obtain ⟨e2, rx⟩ := g2 x H2 y
    have x2 : Xa c H1 H2 := x'.trans (xa_of e2)
    have s2 : Sat C' H2 (L2.wipe σ (own.map (·.2))) (wipeG G (own.map (·.2))) := (s1.mv (x2.mv (.inl K.ca))).wipe _
    refine hgo xs[i] px C' x _ H2 _ s2 rx fun σ3 s3 hw => ⟨hw.trans (wipe_wipe σ _), ?_⟩
    unfold tYes
    dsimp only
    rw [if_pos rfl]
    have hsl : σ3[k]? = some (some (.ref c)) := by
      have e3 := wipe_get σ3 k (own.map (·.2))
      rw [if_neg (fun z => hk z.1), hw, wipe_wipe, wipe_get, if_neg (fun z => hk z.1)] at e3
      rw [← e3]
      exact K.sl
    have hu2 : H2 c = some u' := e2 _ _ hu'
    refine ⟨(xs[i], u'), ⟨px, pu'⟩, C', c, ⟨e2.al al', .inl K.ca, hsl, hu2, s3⟩, fun v H3 d u3 x3 h3 rv pd => ?_⟩
    have hacc3 : H3 Dl = some (.lst acc) := x3 _ _ hne (e2 _ _ hacc)
    have hal : acc.length = i := by rw [ra.length, hdl]
    have x23 : Xa c H1 H3 := x2.trans x3
    have r3 : RpA C' H3 acc ds := RpA.mv ((x3.mv (C := C') (.inl K.ca))) _ _ (RpA.mv (e2.mv C') _ _ ra)
    refine ⟨acc, hacc3, szl (by omega), hlt, acc ++ [v], ds ++ [d], u3, upd_same, by rw [upd_ne hne.symm]; exact h3, pd.2, fun b o ne h => ?_, ?_, by rw [List.length_append, hdl]; rfl, fun j x' d' ex ed => ?_⟩
    · have nd : b ≠ Dl := fun e => by rw [e, hD] at h; cases h
      rw [upd_ne nd]
      exact x23 b o ne h
    · exact (r3.append (.one rv)).mv (Mv.upd (.inr rfl)) _ _
    · by_cases hj : j < ds.length
      · rw [List.getElem?_append_left hj] at ed
        exact hpp j x' d' ex ed
      · rw [List.getElem?_append_right (by omega)] at ed
        have hj0 : j - ds.length = 0 := by
          by_cases z : j - ds.length = 0
          · exact z
          · rw [List.getElem?_eq_none (by simp; omega)] at ed; cases ed
        have hji : j = i := by omega
        subst hji
        rw [hj0] at ed
        have ed : d = d' := by simpa using ed
        subst ed
        rw [hx] at ex
        cases ex
        exact pd.1
  · have e : i = xs.length := by omega
    subst e
    refine .inl ⟨stop _ (Nat.le_refl _), f _ H' (.lst ds) u' (x1.trans x') hu' (.lst (fun z => K1.al Dl z hD) (.inl hacc) (RpA.mv (Mv.less fun a z => .inl z) _ _ ra)) (q xs u1 ds u' ri hdl hpp pu')⟩
/-! ### a dict that changes -/
theorem ke_dget {l : List (Int × Int)} {n m : Int} {x : Str} {p apos : Pos} {R : D → HO → Prop} (hu : X.A.units + 1 < cLine) (hb : JE X b G (.int n)) (hc : JE X c G (.int m)) (q : R (.int ((zget l n).getD m)) (.dK (kz l))) (hN : X.N[k]? = some x := by rfl) (hvis : Vis X.env.scope x := by first | exact Or.inl rfl | exact Or.inr (Or.inl rfl) | exact Or.inr (Or.inr rfl)) (hd : (x == ("__debug__" : Str)) = false := by decide) (hcd : (x == ("__classdict__" : Str)) = false := by decide)
    (hm : M2 X (.Name x p) "get" apos b c pos := by exact ⟨rfl, rfl, rfl, rfl⟩) : KE X (.Call (.Attribute (.Name x p) "get" apos) [b, c] [] pos) k G (.dK (kz l)) R :=
  (pe_dget2 hu (pe_var hN hvis hd hcd) hb hc hm).wk fun σ H Q ⟨C, a, K, f⟩ => ⟨_, K.sl, a, rfl, .inl ⟨_, .inl K.hu⟩, C, K.al, K.st, fun y H2 e2 r2 => ⟨C, (K.ex e2).al, (K.ex e2).st, fun z H3 e3 r3 => by
    cases r2
    cases r3
    have h3 := e3 _ _ (e2 _ _ K.hu)
    refine ⟨(zget l n).map V.int, .inl ⟨_, Sum.inl n, .inl h3, rfl, (kz_get l n).symm⟩, ?_⟩
    have e : ((zget l n).map V.int).getD (V.int m) = V.int ((zget l n).getD m) := by cases zget l n <;> rfl
    rw [e]
    exact f _ H3 _ _ (xa_of (e2.trans e3)) h3 (.int _) q⟩⟩
theorem ks_dput {l : List (Int × Int)} {n v : Int} {x : Str} {p p2 : Pos} {N : Gm → HO → Prop} {R : D → HO → Prop} (hu : X.A.units + 1 < cLine) (he : KE X e k G (.dK (kz l)) fun d u' => d = .int v ∧ u' = .dK (kz l)) (hb : JE X b G (.int n)) (hl : l.length < 90000) (q : N G (.dK (kz (zput l n v)))) (hN : X.N[k]? = some x := by rfl) (hvis : Vis X.env.scope x := by first | exact Or.inl rfl | exact Or.inr (Or.inl rfl) | exact Or.inr (Or.inr rfl)) (hd : (x == ("__debug__" : Str)) = false := by decide) (hcd : (x == ("__classdict__" : Str)) = false := by decide)
    (hs : swapsWith e (some (.Subscript (.Name x p) b p2)) pos.line X.env = pure false := by rfl) : KS X (.Assign [.Subscript (.Name x p) b p2] e pos) k G (.dK (kz l)) N R :=
  (ps_dput hu (pe_var hN hvis hd hcd) hb he hs).wk fun Z σ H ⟨C, a, K, nx, r⟩ => ⟨C, a, K, fun w H1 d u1 x1 g1 rp ⟨ed, eu⟩ => by
    subst ed eu
    cases rp
    have K1 := K.step x1 g1
    refine ⟨_, K1.sl, C, K1.al, K1.st, fun y H2 e2 r2 => ?_⟩
    cases r2
    have h2 := e2 _ _ g1
    have K2 := K1.ex e2
    refine ⟨a, _, rfl, .inl ⟨kz l, Sum.inl n, h2, rfl, by unfold kz; rw [List.length_map]; exact szl (by omega), rfl⟩, ?_⟩
    rw [kz_put]
    have x3 : Xa a H2 (upd H2 a (.dK (kz (zput l n v)))) := fun b o ne h => by rw [upd_ne ne]; exact h
    exact nx σ _ G _ (x1.trans ((xa_of e2).trans x3)) (K2.step x3 upd_same) q⟩
/-- x = {}; a statement that changes it; then it stands still -/
theorem jb_cell (i : Nat) {x : Str} {p p2 : Pos} {st : Stmt} {rest : List Stmt} {N : Gm → Prop} {R : D → Prop} {N1 : Gm → HO → Prop} (hN : X.N.Nodup) (hGi : i < G.length) (h : KS X st i (G.set i none) (.dK []) N1 fun _ _ => False) (q : ∀ G' u', N1 G' u' → ∃ kvs, u' = .dK kvs ∧ JB X rest (G'.set i (some (.dct kvs))) N R) (hi : X.N[i]? = some x := by rfl) (hx : Loc X.env.scope x := by first | exact .inl rfl | exact .inr rfl)
    (hs : swapsWith (.Dict [] [] p2) (some (.Name x p)) pos.line X.env = pure false := by rfl) (hf : X.fn x = true ∨ X.env.scope.names.lookup x = some .local := by first | exact .inl rfl | exact .inr rfl | assumption) : JB X (.Assign [.Name x p] (.Dict [] [] p2) pos :: st :: rest) G N R :=
  (pss_cons (ps_set hN hi hx pe_dnewK hs hf) (pss_cons h (PSs.all (ι := Gm × List (Key × V)) (p := fun r => JB X rest (r.1.set i (some (.dct r.2))) N R) fun r hr => hr))).wk fun Z σ H ⟨C, al, s, n, r⟩ => fun p hp => by
    let C' : Addr → Prop := fun a => C a ∨ a = p
    have s1 : Sat C' (upd H p (.dK [])) σ G := (s.mv (Mv.newC hp)).mv (Mv.upd (.inr rfl))
    have al1 : Al C' (upd H p (.dK [])) := fun a z => by
      by_cases e : a = p
      · rw [e, upd_same]; intro z; cases z
      · rw [upd_ne e]; exact al a (z.resolve_right e)
    have hpC : ¬ C p := fun c => al p c hp
    have K0 : Kat C' p (upd H p (.dK [])) (σ.set i (some (.ref p))) i (G.set i none) (.dK []) := ⟨al1, .inr rfl, by rw [List.getElem?_set_self (by rw [s.len]; exact hGi)], upd_same, s1.setS i _⟩
    refine ⟨C', p, K0, fun σ' H' G' u' x' K' n1 => ?_, fun _ _ _ _ _ _ _ z => z.elim⟩
    obtain ⟨kvs, eu, hj⟩ := q G' u' n1
    subst eu
    have exH : Ex H H' := fun b o hb => x' b o (ne_of_none hb hp) (by rw [upd_ne (ne_of_none hb hp)]; exact hb)
    let C2 : Addr → Prop := fun b => C' b ∧ b ≠ p
    have hC2 : ∀ b, C b → C2 b := fun b cb => ⟨.inl cb, fun e => hpC (e ▸ cb)⟩
    refine ⟨(G', kvs), hj, C2, fun b c => K'.al b c.1, (K'.st.mv (Mv.less fun b c => c.1)).setG K'.sl (.dct (fun c => c.2 rfl) (.inl K'.hu)), fun σ2 H2 G2 e2 s2 n2 => n σ2 H2 G2 (exH.trans e2) (s2.mv (Mv.less hC2)) n2, fun v H2 d e2 rp rd => r v H2 d (exH.trans e2) (Rp.mv (Mv.less hC2) _ _ rp) rd⟩
end
/-! ### defs with the cell -/
section
variable {P : Program} {w : World} {K : PySem.W.Frag} {mg : Str → Option Value} {base : Heap}
def startK (N : List Str) (ds : List D) : Gm := none :: (ds.map some ++ List.replicate (N.length - (ds.length + 1)) none)
theorem fnk_cal {x : Str} {st : Stmt} {N ps : List Str} {k : Nat} {Pre : List D → HO → Prop} {R0 : List D → HO → D → HO → Prop} (F : DefAt K mg x st) (S : FnScope N ps (defScope st)) (hl : ∀ ds u, Pre ds u → ds.length + 1 = ps.length)
    (hb : ∀ (kV doc pm : Value) (an : Option Addr) (cdv ct : Value) (us : List Value), us.length = ps.length → bindArgs (PySem.W.fnOf x x (defArgs st) (defBody st) (defScope st) .none kV doc pm an cdv ct) ⟨us, []⟩ = pure (ps.zip us))
    (body : ∀ (f : Addr) (cdv : Value) (A : Around) (outer : List Env) (s : Shared) (H : Hp) (E : XK) (ds : List D) (u : HO), Room k (A.deeper (envOfC x (defScope st) s.heap.objs.size f cdv)) → Pre ds u →
      KB (cxOf CX0 P w K mg base N x (defScope st) f cdv A outer s H E).nox (defBody st) 0 (startK N ds) u (fun _ u' => R0 ds u .non u') (fun d u' => R0 ds u d u')) : Cal P w K mg base (k + 1) x ps (spK Pre R0) := by
  obtain ⟨f, fd, F, hm⟩ := F.ex
  refine ⟨f, fd, F.ok S (fun vs H Q E h => ?_) (fun cdv A outer s H vs Q E hr h => ?_), hm, F.kp, F.bindsN hb⟩
  · obtain ⟨C, a, vs', ds, u, al, ca, hu, rfl, ra, hp, _⟩ := h
    rw [List.length_cons, ra.length]
    exact hl ds u hp
  · obtain ⟨C, a, vs', ds, u, al, ca, hu, rfl, ra, hp, q⟩ := h
    refine ⟨_, PSs.nox (body f cdv A outer s H E ds u hr hp), C, a, ⟨al, ca, rfl, hu, ?_⟩, fun σ' H' G' u' x' K' r => q _ H' .non u' x' K'.hu .non r, fun v H' d u' x' hu' rp r => q v H' d u' x' hu' rp r⟩
    refine ⟨?_, fun i d e => ?_⟩
    · unfold L2.start startK
      simp [ra.length]
    · cases i with
      | zero => simp [startK] at e
      | succ i =>
        have e' : (ds.map some ++ List.replicate (N.length - (ds.length + 1)) none)[i]? = some (some d) := by simpa [startK] using e
        obtain ⟨v, h1, h2⟩ := start_get _ i d ra e'
        refine ⟨v, ?_, h2⟩
        unfold L2.start
        rw [List.length_cons, ra.length]
        simpa using h1
end
end L2.K79

set_option Elab.async false
set_option linter.all false
set_option maxRecDepth 100000
set_option maxHeartbeats 4000000
namespace L2.K79
open PySem PySem.Spec PyProof.Rows L2
/-! ### slices of rows -/
theorem sIx_pos {n d : Nat} {i : Int} (h : 0 ≤ i) : HT.sIx n d (some i) = min i.toNat n := by
  show (if i < 0 then (i + (n : Int)).toNat else min i.toNat n) = _
  rw [if_neg (by omega)]
def sl (ns : List Int) (l h : Option Int) : List Int := (ns.drop (HT.sIx ns.length 0 l)).take (HT.sIx ns.length ns.length h - HT.sIx ns.length 0 l)
theorem sl_take {ns : List Int} {i : Int} (h : 0 ≤ i) : sl ns none (some i) = ns.take i.toNat := by
  unfold sl
  rw [HT.sIx_none, sIx_pos h, List.drop_zero, Nat.sub_zero]
  by_cases q : i.toNat ≤ ns.length
  · rw [Nat.min_eq_left q]
  · rw [Nat.min_eq_right (by omega), List.take_length, List.take_of_length_le (by omega)]
theorem sl_drop {ns : List Int} {i : Int} (h : 0 ≤ i) : sl ns (some i) none = ns.drop i.toNat := by
  unfold sl
  rw [HT.sIx_none, sIx_pos h]
  by_cases q : i.toNat ≤ ns.length
  · rw [Nat.min_eq_left q, List.take_of_length_le (by rw [List.length_drop]; omega)]
  · rw [Nat.min_eq_right (by omega), List.drop_length, List.drop_of_length_le (by omega), List.take_nil]
theorem sl_last (ns : List Int) : sl ns (some (-1)) none = ns.drop (ns.length - 1) := by
  unfold sl
  rw [HT.sIx_none]
  have e : HT.sIx ns.length 0 (some (-1)) = ns.length - 1 := by
    show (if (-1 : Int) < 0 then ((-1 : Int) + (ns.length : Int)).toNat else min (-1 : Int).toNat ns.length) = _
    rw [if_pos (by decide)]
    omega
  rw [e, List.take_of_length_le (by rw [List.length_drop]; omega)]
theorem je_sl {X : Cx} {G : Gm} {pos p2 : Pos} {a : Expr} {lo hi : Option Expr} {ns : List Int} {l h : Option Int} (ha : JE X a G (tI ns)) (hl : PO X lo (tSemO G l)) (hh : PO X hi (tSemO G h)) : JE X (.Subscript a (.Slice lo hi none p2) pos) G (tI (sl ns l h)) :=
  je_conv (je_slT ha hl hh) (by unfold tI sl; rw [List.length_map, List.map_take, List.map_drop])
section
variable {P : Program} {w : World} {K : PySem.W.Frag} {mg : Str → Option Value} {base : Heap}
/-! ### the law's own fold -/
def R_law_tidy (ds : List D) (r : D) : Prop := ∃ l : Sp2, l.length ≤ 5000 ∧ ds = [dZ l] ∧ r = tS (zstrip l)
theorem f_law_tidy (B : BI mg) (F : DefAt K mg "_law_tidy" s_law_tidy) : Cal P w K mg base 1 "_law_tidy" ["_law_drops"] (spJ R_law_tidy) := by
  refine fn_cal F c_law_tidy (fun ds r h => ?_) (fun _ _ _ _ _ _ us hl => match us, hl with | [_], _ => rfl) (fun f cdv A outer s H E ds r hr h => ?_)
  · obtain ⟨l, hl, rfl, rfl⟩ := h
    rfl
  obtain ⟨l, hl, rfl, rfl⟩ := h
  exact jb_one (js_ret (je_tupleX B.b_tuple (je_mapN (x := "_law_place_here") 1 (l := srt (l.map (·.1))) (emb := D.int) (f := fun k => pD (k, (zget l k).getD 0)) c_law_tidy.nd (ji_lI (je_sortedD rfl B.b_sorted (je_var 0))) (blkOk_by (N := n_law_tidy) (sc := defScope s_law_tidy) (by decide +kernel)) (by rw [srt_length, List.length_map]; omega) (fun _ _ _ _ _ => pg_name (i := 1) c_law_tidy.nd rfl (.inl rfl))
    fun k hk s H C cl fp => je_t2 (je_var 1) (je_dget (hu_of hr) (je_var 0) (je_var 1) (zget_get (mem_srt.mp hk))))) (by unfold tS zstrip; rw [List.map_map]; rfl))
def fB (c : Int) (l : Sp2) : Sp2 := l.foldl (fun f q => bump (bump f q.1 q.2) (c - q.1) q.2) []
theorem foldB_length {c : Int} : ∀ {s f : Sp2}, (s.foldl (fun f q => bump (bump f q.1 q.2) (c - q.1) q.2) f).length ≤ f.length + 2 * s.length
  | [], f => by simp
  | q :: s, f => by
    have h := foldB_length (c := c) (s := s) (f := bump (bump f q.1 q.2) (c - q.1) q.2)
    have h1 := bump_length (bump f q.1 q.2) (c - q.1) q.2
    have h2 := bump_length f q.1 q.2
    show (s.foldl _ (bump (bump f q.1 q.2) (c - q.1) q.2)).length ≤ _
    rw [List.length_cons]
    omega
theorem fB_next {c : Int} {s : Sp2} {i : Nat} {p : Int × Int} (h : s[i]? = some p) : fB c (s.take (i + 1)) = bump (bump (fB c (s.take i)) p.1 p.2) (c - p.1) p.2 := by
  rw [take_get h]
  unfold fB
  rw [List.foldl_append]
  rfl
theorem fB_length {c : Int} {s : Sp2} (i : Nat) (h : s.length ≤ 2000) : (fB c (s.take i)).length ≤ 4000 := by
  have h1 := foldB_length (c := c) (s := s.take i) (f := [])
  rw [List.length_take, List.length_nil] at h1
  unfold fB
  omega
def R_law_fold (ds : List D) (r : D) : Prop := ∃ (s : Sp2) (c : Int), s.length ≤ 2000 ∧ ds = [tS s, .int c] ∧ r = tS (lawFold s c)
def inn (f : Sp2) (p : Int × Int) (c : Int) (j : Nat) : Sp2 := ([p.1, c - p.1].take j).foldl (fun f t => bump f t p.2) f
theorem f_law_fold (B : BI mg) (F : DefAt K mg "_law_fold" s_law_fold) (F_law_tidy : Cal P w K mg base 1 "_law_tidy" ["_law_drops"] (spJ R_law_tidy)) : Cal P w K mg base 2 "_law_fold" ["_law_strip_here", "_law_crease"] (spJ R_law_fold) := by
  refine fn_cal F c_law_fold (fun ds r h => ?_) (fun _ _ _ _ _ _ us hl => match us, hl with | [_, _], _ => rfl) (fun f cdv A outer s H E ds r hr h => ?_)
  · obtain ⟨l, c, hl, rfl, rfl⟩ := h
    rfl
  obtain ⟨l, c, hl, rfl, rfl⟩ := h
  refine jb_cell 2 c_law_fold.nd (show 2 < 6 by decide) (N1 := fun G' u' => G' = [some (tS l), some (.int c), none, none, none, none] ∧ u' = .dK (kz (fB c l))) ?_ fun G' u' ⟨eG, eu⟩ => ⟨_, eu, by
    subst eG
    exact jb_one (js_ret (je_call F_law_tidy (hr.mono (by decide)) (ja_cons ((je_conv (je_var 2) (show _ = dZ (fB c l) from rfl))) ja_nil) ⟨_, (by have := fB_length (c := c) l.length hl; rw [List.take_length] at this; omega), rfl, rfl⟩) rfl)⟩
  refine ks_for (l.map pD) (fun i G' u' => G' = [some (tS l), some (.int c), none, none, none, none] ∧ u' = .dK (kz (fB c (l.take i)))) (fun i G' d => (G'.set 3 (some (.int (l.getD i (0, 0)).1))).set 4 (some (.int (l.getD i (0, 0)).2))) PassesOwn.never rfl (ji_tup (je_weak (je_var 0))) (pg_tup rfl (pgs_cons (pg_name (i := 3) c_law_fold.nd rfl (.inl rfl)) (pgs_cons (pg_name (i := 4) c_law_fold.nd rfl (.inl rfl)) pgs_nil))) _ (Wk.refl _) ⟨rfl, rfl⟩
    (fun i d G' u' h _ => ?_) (fun i d G' u' h ⟨eG, eu⟩ => ?_) (fun G' u' ⟨eG, eu⟩ => ⟨eG, by rw [eu, List.length_map, List.take_length]⟩)
  · obtain ⟨p, hp, rfl⟩ := get_map h
    rw [List.getD_eq_getElem?_getD, hp]
    exact gk_pair (by decide) (by decide)
  · obtain ⟨p, hp, rfl⟩ := get_map h
    subst eG eu
    rw [List.getD_eq_getElem?_getD, hp]
    have hb := fB_length (c := c) i hl
    have hin : ∀ j, (inn (fB c (l.take i)) p c j).length ≤ 4002 := fun j => by
      match j with
      | 0 => exact Nat.le_trans hb (by decide)
      | 1 => exact Nat.le_trans (bump_length _ _ _) (by omega)
      | j + 2 =>
        have e : inn (fB c (l.take i)) p c (j + 2) = bump (bump (fB c (l.take i)) p.1 p.2) (c - p.1) p.2 := by
          unfold inn
          rw [List.take_of_length_le (l := [p.1, c - p.1]) (by simp)]
          rfl
        rw [e]
        have := bump_length (bump (fB c (l.take i)) p.1 p.2) (c - p.1) p.2
        have := bump_length (fB c (l.take i)) p.1 p.2
        omega
    refine kb_one (ks_for [.int p.1, .int (c - p.1)] (fun j G' u' => G' = [some (tS l), some (.int c), none, some (.int p.1), some (.int p.2), none] ∧ u' = .dK (kz (inn (fB c (l.take i)) p c j))) (fun j G' d => G'.set 5 (some d)) PassesOwn.never rfl (ji_tup (je_t2 (je_var 3) (je_sub (je_var 1) (je_var 3)))) (pg_name (i := 5) c_law_fold.nd rfl (.inl rfl)) _ (Wk.refl _) ⟨rfl, rfl⟩
      (fun j d G' u' h2 _ => gk_name (by decide)) (fun j d G' u' h2 ⟨eG, eu⟩ => ?_) (fun G' u' ⟨eG, eu⟩ => ⟨_, ?_, rfl, ?_⟩))
    · subst eG eu
      have h3 : ∃ t, [p.1, c - p.1][j]? = some t ∧ d = .int t := get_map (f := D.int) (l := [p.1, c - p.1]) h2
      obtain ⟨t, ht, rfl⟩ := h3
      have hnx : inn (fB c (l.take i)) p c (j + 1) = bump (inn (fB c (l.take i)) p c j) t p.2 := by
        unfold inn
        rw [take_get ht, List.foldl_append]
        rfl
      have hlen := hin j
      refine kb_one (ks_dput (l := inn (fB c (l.take i)) p c j) (n := t) (v := (zget (inn (fB c (l.take i)) p c j) t).getD 0 + p.2) (hu_of hr) (ki_add (P1 := fun x u' => x = (zget (inn (fB c (l.take i)) p c j) t).getD 0 ∧ u' = .dK (kz (inn (fB c (l.take i)) p c j))) (P2 := fun x y u' => x = (zget (inn (fB c (l.take i)) p c j) t).getD 0 ∧ y = p.2 ∧ u' = .dK (kz (inn (fB c (l.take i)) p c j)))
          (ke_dget (hu_of hr) (je_var 5) je_int ⟨_, rfl, rfl, rfl⟩) (fun x u1 ⟨ex, eu⟩ => by subst eu; exact ke_of (je_var 4) ⟨_, rfl, ex, rfl, rfl⟩) (fun x y u' ⟨ex, ey, eu⟩ => ⟨by rw [ex, ey], eu⟩)) (je_var 5) (by omega) ⟨_, wk_c (wk_c (wk_c (wk_c (wk_c (wk_n wk_0))))), rfl, ?_⟩)
      rw [hnx]
      rfl
    · subst eG
      exact wk_c (wk_c (wk_c (wk_n (wk_n (wk_c wk_0)))))
    · rw [eu, fB_next hp]
      rfl
def R_law_folded (ds : List D) (r : D) : Prop := ∃ (s : Sp2) (fs : List Int), s.length * 2 ^ fs.length ≤ 2000 ∧ ds = [tS s, tI fs] ∧ r = tS (lawFolds s fs)
theorem lawFolds_next {s : Sp2} {fs : List Int} {i : Nat} {c : Int} (h : fs[i]? = some c) : lawFolds s (fs.take (i + 1)) = lawFold (lawFolds s (fs.take i)) c := by
  rw [take_get h]
  unfold lawFolds
  rw [List.foldl_append]
  rfl
theorem lawFolds_bound {s : Sp2} {fs : List Int} (hb : s.length * 2 ^ fs.length ≤ 2000) (i : Nat) : (lawFolds s (fs.take i)).length ≤ 2000 := by
  have h := ink_length (fs.take i) (pl s)
  rw [← lawFolds_pl, pl_length, pl_length] at h
  have h2 : s.length * 2 ^ (fs.take i).length ≤ s.length * 2 ^ fs.length := Nat.mul_le_mul_left _ (Nat.pow_le_pow_right (by decide) (by rw [List.length_take]; omega))
  omega
theorem f_law_folded (B : BI mg) (F : DefAt K mg "_law_folded" s_law_folded) (F_law_fold : Cal P w K mg base 2 "_law_fold" ["_law_strip_here", "_law_crease"] (spJ R_law_fold)) : Cal P w K mg base 3 "_law_folded" ["_law_strip_here", "_law_folds_here"] (spJ R_law_folded) := by
  refine fn_cal F c_law_folded (fun ds r h => ?_) (fun _ _ _ _ _ _ us hl => match us, hl with | [_, _], _ => rfl) (fun f cdv A outer s H E ds r hr h => ?_)
  · obtain ⟨l, fs, hb, rfl, rfl⟩ := h
    rfl
  obtain ⟨l, fs, hb, rfl, rfl⟩ := h
  refine jb_for (G1 := [some (tS (lawFolds l (fs.take fs.length))), some (tI fs), none]) (js_for (fs.map D.int) (fun i => [some (tS (lawFolds l (fs.take i))), some (tI fs), none]) (fun i d => [some (tS (lawFolds l (fs.take i))), some (tI fs), some d]) PassesOwn.never rfl (ji_tI (je_var 1)) (pg_name (i := 2) c_law_folded.nd rfl (.inl rfl)) (Wk.refl _)
    (fun i d h => gf_name) (fun i d h => ?_) (by rw [List.length_map])) (jb_one (js_ret (je_conv (je_var 0) (by rw [List.take_length])) rfl))
  obtain ⟨c, hc, rfl⟩ := get_map h
  exact jb_one (js_set 0 c_law_folded.nd (je_conv (je_call F_law_fold (hr.mono (by decide)) (ja_cons ((je_var 0)) (ja_cons ((je_var 2)) ja_nil)) ⟨_, _, lawFolds_bound hb i, rfl, rfl⟩) (by rw [← lawFolds_next hc])) (wk_c (wk_c (wk_n wk_0))))
def R_law_steps (ds : List D) (r : D) : Prop := ∃ fs : List Int, fs.length ≤ 12 ∧ ds = [tI fs] ∧ r = lI (stepsL fs)
theorem atI_getD {ns : List Int} {i : Nat} {j : Int} (h : i < ns.length) (e : j = (i : Nat)) : atI ns j = some (ns.getD i 0) := by
  subst e
  exact atI_nat (by rw [List.getD_eq_getElem?_getD, List.getElem?_eq_getElem h]; rfl)
theorem f_law_steps (B : BI mg) (F : DefAt K mg "_law_steps" s_law_steps) : Cal P w K mg base 1 "_law_steps" ["_law_folds_here"] (spJ R_law_steps) := by
  refine fn_cal F c_law_steps (fun ds r h => ?_) (fun _ _ _ _ _ _ us hl => match us, hl with | [_], _ => rfl) (fun f cdv A outer s H E ds r hr h => ?_)
  · obtain ⟨fs, hf, rfl, rfl⟩ := h
    rfl
  obtain ⟨fs, hf, rfl, rfl⟩ := h
  refine jb_one (js_ret (je_sortedL B.b_sorted (je_conv (je_mapN (x := "_law_at") 1 (l := List.range ((fs.length : Nat) - 1 : Int).toNat) (emb := fun i => D.int (0 + (i : Nat))) (f := fun i => .int (absI (fs.getD (i + 1) 0 - fs.getD i 0))) c_law_steps.nd (ji_rng1 B.b_range (je_sub (je_lenTI B.b_len (je_var 0)) je_int) ⟨by omega, by omega⟩) (blkOk_by (N := n_law_steps) (sc := defScope s_law_steps) (by decide +kernel)) (by rw [List.length_range]; omega) (fun _ _ _ _ _ => pg_name (i := 1) c_law_steps.nd rfl (.inl rfl)) fun i hi s H C cl fp => ?_) (show _ = lI (dif fs) from ?_))) rfl)
  · have hi := List.mem_range.mp hi
    exact je_abs B.b_abs (je_sub (je_ixTI (je_var 0) (je_add (je_var 1) je_int) (atI_getD (by omega) (by omega))) (je_ixTI (je_var 0) (je_var 1) (atI_getD (by omega) (by omega))))
  · have e : ((fs.length : Nat) - 1 : Int).toNat = fs.length - 1 := by omega
    rw [e, ← dif_range]
    unfold lI
    rw [List.map_map]
    rfl
def R_law_sums (ds : List D) (r : D) : Prop := ∃ fs : List Int, fs.length ≤ 8 ∧ ds = [tI fs] ∧ r = tI (sumsIn fs)
def lw0 (fs : List Int) : List Int := if fs ≠ [] then [0] else []
def lwS (fs : List Int) (i : Nat) : List Int := ((stepsL fs).take i).foldl lawStep (lw0 fs)
theorem lwS_next {fs : List Int} {i : Nat} {c : Int} (h : (stepsL fs)[i]? = some c) : lwS fs (i + 1) = lawStep (lwS fs i) c := by
  unfold lwS
  rw [take_get h, List.foldl_append]
  rfl
theorem lwS_length {fs : List Int} (h : fs.length ≤ 8) (i : Nat) : (lwS fs i).length ≤ 128 := by
  unfold lwS
  rw [lawStep_length]
  have h1 : (lw0 fs).length ≤ 1 := by
    unfold lw0
    split <;> simp
  have h2 : 2 ^ ((stepsL fs).take i).length ≤ 2 ^ 7 := Nat.pow_le_pow_right (by decide) (by rw [List.length_take, stepsL_length]; omega)
  have h3 := Nat.mul_le_mul h1 h2
  omega
theorem f_law_sums (B : BI mg) (F : DefAt K mg "_law_sums" s_law_sums) (F_law_steps : Cal P w K mg base 1 "_law_steps" ["_law_folds_here"] (spJ R_law_steps)) : Cal P w K mg base 2 "_law_sums" ["_law_folds_here"] (spJ R_law_sums) := by
  refine fn_cal F c_law_sums (fun ds r h => ?_) (fun _ _ _ _ _ _ us hl => match us, hl with | [_], _ => rfl) (fun f cdv A outer s H E ds r hr h => ?_)
  · obtain ⟨fs, hf, rfl, rfl⟩ := h
    rfl
  obtain ⟨fs, hf, rfl, rfl⟩ := h
  refine jb_let 1 c_law_sums.nd (je_if (k := !decide (fs = [])) (jt_neT (ms := []) hr (je_var 0) je_t0) (fun h => je_conv (je_l1 je_int) (show _ = lI (lwS fs 0) by unfold lwS lw0; rw [if_pos (by simpa using h)]; rfl)) (fun h => je_conv je_l0 (show _ = lI (lwS fs 0) by unfold lwS lw0; rw [if_neg (by simpa using h)]; rfl)))
    (jb_for (G1 := [some (tI fs), some (lI (lwS fs (stepsL fs).length)), none, none]) (js_for ((stepsL fs).map D.int) (fun i => [some (tI fs), some (lI (lwS fs i)), none, none]) (fun i d => [some (tI fs), some (lI (lwS fs i)), some d, none]) PassesOwn.never rfl (ji_lI (je_call F_law_steps (hr.mono (by decide)) (ja_cons ((je_var 0)) ja_nil) ⟨_, (by omega), rfl, rfl⟩)) (pg_name (i := 2) c_law_sums.nd rfl (.inr rfl)) (Wk.refl _)
    (fun i d h => gf_name) (fun i d h => ?_) (by rw [List.length_map])) (jb_one (js_ret (je_tupleL B.b_tuple (je_sset (ns := lwS fs (stepsL fs).length) (.inl rfl) rfl B.b_sorted B.b_set (je_var 1) (by have := lwS_length hf (stepsL fs).length; omega))) ?_)))
  · obtain ⟨c, hc, rfl⟩ := get_map h
    have hb := lwS_length hf i
    refine jb_one (js_set 1 c_law_sums.nd (je_conv (je_catL (ds := (lwS fs i).map fun t => .int (t + c)) (es := (lwS fs i).map fun t => .int (t - c)) (by rw [List.length_map, List.length_map]; omega)
        (je_mapN (x := "_law_total") 3 (l := lwS fs i) (emb := D.int) (f := fun t => .int (t + c)) c_law_sums.nd (ji_lI (je_var 1)) (blkOk_by (N := n_law_sums) (sc := defScope s_law_sums) (by decide +kernel)) (by omega) (fun _ _ _ _ _ => pg_name (i := 3) c_law_sums.nd rfl (.inl rfl)) fun p hp s H C cl fp => je_add (je_var 3) (je_var 2))
        (je_mapN (x := "_law_total") 3 (l := lwS fs i) (emb := D.int) (f := fun t => .int (t - c)) c_law_sums.nd (ji_lI (je_var 1)) (blkOk_by (N := n_law_sums) (sc := defScope s_law_sums) (by decide +kernel)) (by omega) (fun _ _ _ _ _ => pg_name (i := 3) c_law_sums.nd rfl (.inl rfl)) fun p hp s H C cl fp => je_sub (je_var 3) (je_var 2)))
      (show _ = lI (lwS fs (i + 1)) by rw [lwS_next hc]; unfold lI lawStep; rw [List.map_append, List.map_map, List.map_map]; rfl)) (wk_c (wk_c (wk_n (wk_n wk_0)))))
  · rw [← lawSums_eq]
    unfold lawSums lwS lw0
    rw [List.take_length]
    rfl
def R_law_inked (ds : List D) (r : D) : Prop := ∃ l fs : List Int, l.length * 2 ^ fs.length ≤ 2000 ∧ ds = [tI l, tI fs] ∧ r = tI (ink l fs)
theorem f_law_inked (B : BI mg) (F : DefAt K mg "_law_inked" s_law_inked) (F_law_folded : Cal P w K mg base 3 "_law_folded" ["_law_strip_here", "_law_folds_here"] (spJ R_law_folded)) : Cal P w K mg base 4 "_law_inked" ["_law_lot_here", "_law_folds_here"] (spJ R_law_inked) := by
  refine fn_cal F c_law_inked (fun ds r h => ?_) (fun _ _ _ _ _ _ us hl => match us, hl with | [_, _], _ => rfl) (fun f cdv A outer s H E ds r hr h => ?_)
  · obtain ⟨l, fs, hb, rfl, rfl⟩ := h
    rfl
  obtain ⟨l, fs, hb, rfl, rfl⟩ := h
  have hl : l.length ≤ 2000 := Nat.le_trans (Nat.le_mul_of_pos_right _ (Nat.two_pow_pos _)) hb
  have hp : pl (l.map fun x => ((x, 1) : Int × Int)) = l := by
    unfold pl
    rw [List.map_map]
    exact List.map_id _
  have hbd := lawFolds_bound (s := l.map fun x => ((x, 1) : Int × Int)) (fs := fs) (by rw [List.length_map]; exact hb) fs.length
  rw [List.take_length] at hbd
  refine jb_one (js_ret (je_tupleL B.b_tuple (je_conv (je_mapP (x := "_law_place_here") (y := "_law_drops") 2 3 (l := lawFolds (l.map fun x => ((x, 1) : Int × Int)) fs) (d1 := fun p => .int p.1) (d2 := fun p => .int p.2) (f := fun p => .int p.1) c_law_inked.nd (ji_tup (je_weak (je_call F_law_folded (hr.mono (by decide)) (ja_cons ((je_tupleX B.b_tuple (je_mapN (x := "_law_place_here") 2 (l := l) (emb := D.int) (f := fun x => pD (x, 1)) c_law_inked.nd (ji_tI (je_var 0)) (blkOk_by (N := n_law_inked) (sc := defScope s_law_inked) (by decide +kernel)) (by omega) (fun _ _ _ _ _ => pg_name (i := 2) c_law_inked.nd rfl (.inl rfl)) fun x hx s H C cl fp => je_t2 (je_var 2) je_int))) (ja_cons ((je_var 1)) ja_nil)) ⟨l.map fun x => (x, 1), fs, by rw [List.length_map]; exact hb, by unfold tS; rw [List.map_map]; rfl, rfl⟩))) (blkOk_by (N := n_law_inked) (sc := defScope s_law_inked) (by decide +kernel)) (by omega) (fun _ _ _ _ _ => pg_tup rfl (pgs_cons (pg_name (i := 2) c_law_inked.nd rfl (.inl rfl)) (pgs_cons (pg_name (i := 3) c_law_inked.nd rfl (.inl rfl)) pgs_nil))) fun p hp s H C cl fp => (je_var 2)) (show _ = lI (ink l fs) from ?_))) rfl)
  have e := lawFolds_pl fs (l.map fun x => ((x, 1) : Int × Int))
  rw [hp] at e
  rw [← e]
  unfold lI pl
  rw [List.map_map]
  rfl
end
end L2.K79

set_option Elab.async false
set_option linter.all false
set_option maxRecDepth 100000
set_option maxHeartbeats 4000000
namespace L2.K79
open PySem PySem.Spec PyProof.Rows L2
section
variable {P : Program} {w : World} {K : PySem.W.Frag} {mg : Str → Option Value} {base : Heap}
theorem okL_one {p : Int} (h : -100000 ≤ p ∧ p ≤ 100000) : okL [p] := ⟨by simp, fun q hq => by rw [List.mem_singleton.mp hq]; exact h, by simp⟩
def R_law_counts_right (ds : List D) (r : D) : Prop := ∃ fs : List Int, okF fs ∧ fs.length ≤ 6 ∧ fs ≠ [] ∧ ds = [tI fs] ∧ r = .bl true
theorem f_law_counts_right (B : BI mg) (F : DefAt K mg "_law_counts_right" s_law_counts_right) (F_sums_by : Cal P w K mg base 5 "sums_by" ["folds"] (spJ R_sums_by)) (F_usual_count : Cal P w K mg base 6 "usual_count" ["folds"] (spJ R_usual_count)) (F_unusual_places : Cal P w K mg base 6 "unusual_places" ["folds"] (spJ R_unusual_places)) (F_law_sums : Cal P w K mg base 2 "_law_sums" ["_law_folds_here"] (spJ R_law_sums)) (F_print_of : Cal P w K mg base 5 "print_of" ["place", "folds"] (spJ R_print_of)) (F_inked_by : Cal P w K mg base 5 "inked_by" ["lot", "folds"] (spJ R_inked_by)) : Cal P w K mg base 7 "_law_counts_right" ["_law_folds_here"] (spJ R_law_counts_right) := by
  refine fn_cal F c_law_counts_right (fun ds r h => ?_) (fun _ _ _ _ _ _ us hl => match us, hl with | [_], _ => rfl) (fun f cdv A outer s H E ds r hr h => ?_)
  · obtain ⟨fs, okf, hf, hn, rfl, rfl⟩ := h
    rfl
  obtain ⟨fs, okf, hf, hn, rfl, rfl⟩ := h
  have hs := sumsIn_bound (b := 5) hf
  refine jb_cons (N1 := fun G' => G' = [some (tI fs), some (tI (sumsIn fs)), some (.int (2 * ((sumsIn fs).length : Nat))), some (lI (unus fs)), none, none, none, none, none, none, none]) (js_par3 1 2 3 rfl c_law_counts_right.nd (je_call F_sums_by (hr.mono (by decide)) (ja_cons ((je_var 0)) ja_nil) ⟨_, okf, (by omega), rfl, rfl⟩) (je_call F_usual_count (hr.mono (by decide)) (ja_cons ((je_var 0)) ja_nil) ⟨_, okf, (by omega), hn, rfl, rfl⟩) (je_call F_unusual_places (hr.mono (by decide)) (ja_cons ((je_var 0)) ja_nil) ⟨_, okf, hf, hn, rfl, rfl⟩) rfl) fun G' eG => ?_
  subst eG
  refine jb_skip (jw_pt (jw_or (k := !decide (sumsIn fs = sumsIn fs)) (jt_neT hr (je_var 1) (je_call F_law_sums (hr.mono (by decide)) (ja_cons ((je_var 0)) ja_nil) ⟨_, (by omega), rfl, rfl⟩)) fun _ => jw_or1 (jt_neI (je_var 2) (je_mul mul_two je_int (je_lenTI B.b_len (je_var 1)))))) (by simp) ?_
  refine jb_for (G1 := [some (tI fs), some (tI (sumsIn fs)), some (.int (2 * ((sumsIn fs).length : Nat))), some (lI (unus fs)), none, none, none, none, none, none, none]) (js_for ((List.range ((13 : Int) - -12).toNat).map fun i => D.int (-12 + (i : Nat))) (fun i => [some (tI fs), some (tI (sumsIn fs)), some (.int (2 * ((sumsIn fs).length : Nat))), some (lI (unus fs)), none, none, none, none, none, none, none]) (fun i d => [some (tI fs), some (tI (sumsIn fs)), some (.int (2 * ((sumsIn fs).length : Nat))), some (lI (unus fs)), some d, none, none, none, none, none, none]) PassesOwn.never rfl (ji_rng2 B.b_range (je_neg je_int) je_int (by decide)) (pg_name (i := 4) c_law_counts_right.nd rfl (.inl rfl)) (Wk.refl _)
    (fun i d h => gf_name) (fun i d h => ?_) rfl) (jb_one (js_ret (je_eqL hr (je_var 3) (je_sset (ns := unus fs) (.inl rfl) rfl B.b_sorted B.b_set (je_var 3) ?_)) (by rw [sdu_self (unus_lt fs), decide_eq_true rfl])))
  · obtain ⟨j, hj, rfl⟩ := get_map h
    have hj2 := List.mem_range.mp (List.mem_of_getElem? hj)
    have hj3 : j < 25 := hj2
    generalize ep : (-12 + (j : Nat) : Int) = p
    have hp : -12 ≤ p ∧ p ≤ 12 := by omega
    have hil := ink_length fs [p]
    have hob := one_bound (p := p) (fs := fs) (b := 6) hf (by decide)
    have hpl := print_pl hn p
    refine jb_cons (N1 := fun G' => G' = [some (tI fs), some (tI (sumsIn fs)), some (.int (2 * ((sumsIn fs).length : Nat))), some (lI (unus fs)), some (.int p), some (lI (ink [p] fs)), some (.int (way fs p)), none, none, none, none]) (js_asg (je_t2 (d1 := lI (ink [p] fs)) (d2 := .int (way fs p)) (je_conv (je_mapP (x := "_law_one") (y := "_law_drops") 7 8 (l := printS p fs) (d1 := fun q => .int q.1) (d2 := fun q => .int q.2) (f := fun q => .int q.1) c_law_counts_right.nd (ji_tup (je_weak (je_call F_print_of (hr.mono (by decide)) (ja_cons ((je_var 4)) (ja_cons ((je_var 0)) ja_nil)) ⟨_, _, (by omega), okf, hn, (by omega), rfl, rfl⟩))) (blkOk_by (N := n_law_counts_right) (sc := defScope s_law_counts_right) (by decide +kernel)) (by rw [← pl_length, hpl]; omega) (fun _ _ _ _ _ => pg_tup rfl (pgs_cons (pg_name (i := 7) c_law_counts_right.nd rfl (.inl rfl)) (pgs_cons (pg_name (i := 8) c_law_counts_right.nd rfl (.inl rfl)) pgs_nil))) fun q hq s H C cl fp => (je_var 7)) (by rw [← hpl]; unfold lI pl; rw [List.map_map]; rfl))
        (je_sub (je_mul mul_two je_int (je_var 4)) (je_ixTI (je_var 0) je_int (at_head0 hn)))) (pg_tup rfl (pgs_cons (pg_name (i := 5) c_law_counts_right.nd rfl (.inl rfl)) (pgs_cons (pg_name (i := 6) c_law_counts_right.nd rfl (.inr rfl)) pgs_nil))) gf_pair rfl) fun G' eG => ?_
    subst eG
    refine jb_skip (jw_pt (jw_or (jt_neB (je_neI (je_lenLI B.b_len (je_var 5)) (je_var 2)) (je_in (.inl rfl) (je_var 4) (je_var 3))) fun _ => jw_or1 (jt_neT (ns := ink [p] fs) (ms := ink [p] fs) hr (je_call F_inked_by (hr.mono (by decide)) (ja_cons ((je_t1 (je_var 4))) (ja_cons ((je_var 0)) ja_nil)) ⟨_, [p], _, .inl rfl, okL_one (by omega), okf, hob, rfl, rfl⟩) (je_tupleL B.b_tuple (je_var 5))))) ?_ ?_
    · have hc := count_iff hn p
      have e1 : (decide (((ink [p] fs).length : Int) = 2 * ((sumsIn fs).length : Nat))) = !decide (p ∈ unus fs) := by
        rw [← decide_not, decide_eq_decide, ← hc]
        omega
      rw [e1]
      simp
    · refine jb_let 9 c_law_counts_right.nd (je_conv (je_catL (ds := (sumsIn fs).map fun t => .int ((fs.getLastD 0 + t + way fs p) / 2)) (es := (sumsIn fs).map fun t => .int ((fs.getLastD 0 + t - way fs p) / 2)) (by rw [List.length_map, List.length_map]; omega)
        (je_mapN (x := "_law_total") 10 (l := sumsIn fs) (emb := D.int) c_law_counts_right.nd (ji_tI (je_var 1)) (blkOk_by (N := n_law_counts_right) (sc := defScope s_law_counts_right) (by decide +kernel)) (by omega) (fun _ _ _ _ _ => pg_name (i := 10) c_law_counts_right.nd rfl (.inl rfl)) fun t ht s H C cl fp => je_div div_two (je_add (je_add (je_ixTI (je_var 0) (je_neg je_int) (at_last0 hn)) (je_var 10)) (je_var 6)) je_int)
        (je_mapN (x := "_law_total") 10 (l := sumsIn fs) (emb := D.int) c_law_counts_right.nd (ji_tI (je_var 1)) (blkOk_by (N := n_law_counts_right) (sc := defScope s_law_counts_right) (by decide +kernel)) (by omega) (fun _ _ _ _ _ => pg_name (i := 10) c_law_counts_right.nd rfl (.inl rfl)) fun t ht s H C cl fp => je_div div_two (je_sub (je_add (je_ixTI (je_var 0) (je_neg je_int) (at_last0 hn)) (je_var 10)) (je_var 6)) je_int)) (show _ = lI (dueL fs p) by unfold lI dueL; rw [List.map_append, List.map_map, List.map_map]; rfl))
        (jb_skip (jt_neL hr (je_sset (ns := dueL fs p) (.inl rfl) rfl B.b_sorted B.b_set (je_var 9) (by unfold dueL; rw [List.length_append, List.length_map, List.length_map]; omega)) (je_var 5)) (by rw [← ink_due hn, decide_eq_true rfl]; rfl) (jb_nil (wk_c (wk_c (wk_c (wk_c (wk_n (wk_n (wk_n (wk_n (wk_n (wk_n (wk_n wk_0)))))))))))))
  · have h1 := sdu_length (((dbl fs).filter fun t => decide (t % 2 = 0)).map fun t => t / 2)
    have h2 : (dbl fs).length ≤ 2048 := by
      have := oddW_length hf
      unfold dbl
      rw [List.length_append, List.length_map, List.length_map]
      omega
    rw [List.length_map] at h1
    have h3 := List.length_filter_le (fun t => decide (t % 2 = 0)) (dbl fs)
    show (sdu _).length ≤ 4000
    omega
def R_law_pair_right (ds : List D) (r : D) : Prop := ∃ fs gs : List Int, okF fs ∧ okF gs ∧ fs.length ≤ 8 ∧ gs.length ≤ 8 ∧ ds = [tI fs, tI gs] ∧ r = .bl true
theorem f_law_pair_right (B : BI mg) (F : DefAt K mg "_law_pair_right" s_law_pair_right) (F_law_sums : Cal P w K mg base 2 "_law_sums" ["_law_folds_here"] (spJ R_law_sums)) (F_alike_by_places : Cal P w K mg base 5 "alike_by_places" ["folds", "other_folds"] (spJ R_alike_by_places)) (F_rows_alike : Cal P w K mg base 5 "rows_alike" ["folds", "beside"] (spJ R_rows_alike)) (F_law_inked : Cal P w K mg base 4 "_law_inked" ["_law_lot_here", "_law_folds_here"] (spJ R_law_inked)) : Cal P w K mg base 6 "_law_pair_right" ["_law_folds_here", "_law_other"] (spJ R_law_pair_right) := by
  refine fn_cal F c_law_pair_right (fun ds r h => ?_) (fun _ _ _ _ _ _ us hl => match us, hl with | [_, _], _ => rfl) (fun f cdv A outer s H E ds r hr h => ?_)
  · obtain ⟨fs, gs, okf, okg, hf, hg, rfl, rfl⟩ := h
    rfl
  obtain ⟨fs, gs, okf, okg, hf, hg, rfl, rfl⟩ := h
  refine jb_let 2 c_law_pair_right.nd (je_conv (je_and (k := decide (sumsIn fs = sumsIn gs)) (je_eqT hr (je_call F_law_sums (hr.mono (by decide)) (ja_cons ((je_var 0)) ja_nil) ⟨_, hf, rfl, rfl⟩) (je_call F_law_sums (hr.mono (by decide)) (ja_cons ((je_var 1)) ja_nil) ⟨_, hg, rfl, rfl⟩)) fun _ => je_and (k := decide (fs.take 1 = gs.take 1)) (je_eqT (ns := fs.take 1) (ms := gs.take 1) hr (je_conv (je_sl (je_var 0) po_no (po_at je_int)) (by rw [sl_take (by decide)]; rfl)) (je_conv (je_sl (je_var 1) po_no (po_at je_int)) (by rw [sl_take (by decide)]; rfl))) fun _ => je_one (je_eqT (ns := fs.drop (fs.length - 1)) (ms := gs.drop (gs.length - 1)) hr (je_conv (je_sl (je_var 0) (po_at (je_neg je_int)) po_no) (by rw [sl_last])) (je_conv (je_sl (je_var 1) (po_at (je_neg je_int)) po_no) (by rw [sl_last])))) (show _ = D.bl (dueB fs gs) by unfold dueB; rw [lawSums_eq, lawSums_eq]))
    (jb_let 3 c_law_pair_right.nd (je_call F_alike_by_places (hr.mono (by decide)) (ja_cons ((je_var 0)) (ja_cons ((je_var 1)) ja_nil)) ⟨_, _, okf, okg, hf, hg, rfl, rfl⟩)
    (jb_skip (jw_pt (jw_or (jt_neB (je_var 3) (je_var 2)) fun _ => jw_or1 (jw_pt (jw_and (k := oneB fs gs) (jt_of (je_call F_rows_alike (hr.mono (by decide)) (ja_cons ((je_var 0)) (ja_cons ((je_var 1)) ja_nil)) ⟨_, _, okf, okg, hf, hg, rfl, rfl⟩)) fun _ => jw_and1 (jt_not (jt_of (je_var 3))))))) ?_
    (jb_one (js_ret (je_or (k := !alikeB fs gs) (je_not (je_var 3)) fun h => je_one (je_eqL (ns := (((List.range ((7 : Int) - -6).toNat).map fun i => (-6 + (i : Nat) : Int)).filter fun p => !decide (ink [p] fs = ink [p] gs))) (ms := []) hr
      (je_filN (x := "_law_place_here") 4 (l := (List.range ((7 : Int) - -6).toNat).map fun i => (-6 + (i : Nat) : Int)) (emb := D.int) (p := fun p => !decide (ink [p] fs = ink [p] gs)) (f := D.int) c_law_pair_right.nd (ji_conv (ji_rng2 B.b_range (je_neg je_int) je_int (by decide)) (by rw [List.map_map]; rfl)) (blkOk_by (N := n_law_pair_right) (sc := defScope s_law_pair_right) (by decide +kernel)) (by rw [List.length_map, List.length_range]; decide) (fun _ _ _ _ _ => pg_name (i := 4) c_law_pair_right.nd rfl (.inl rfl))
        (fun p hp s H C cl fp => jt_neT hr (je_call F_law_inked (hr.mono (by decide)) (ja_cons ((je_t1 (je_var 4))) (ja_cons ((je_var 0)) ja_nil)) ⟨[p], fs, (by have := one_bound (p := p) hf (by decide); have h2 : 2 ^ fs.length ≤ 2 ^ 8 := Nat.pow_le_pow_right (by decide) hf; show 1 * 2 ^ fs.length ≤ 2000; omega), rfl, rfl⟩) (je_call F_law_inked (hr.mono (by decide)) (ja_cons ((je_t1 (je_var 4))) (ja_cons ((je_var 1)) ja_nil)) ⟨[p], gs, (by have h2 : 2 ^ gs.length ≤ 2 ^ 8 := Nat.pow_le_pow_right (by decide) hg; show 1 * 2 ^ gs.length ≤ 2000; omega), rfl, rfl⟩)) fun p hp _ s H C cl fp => (je_var 4)) je_l0)) ?_))))
  · rw [alike_due, decide_eq_true rfl]
    cases h : oneB fs gs with
    | false => rfl
    | true => rw [← alike_due, one_alike h]; rfl
  · cases h : alikeB fs gs with
    | false => rfl
    | true =>
      rw [List.filter_eq_nil_iff.mpr (fun p hp => by rw [alike_ink h p, decide_eq_true rfl]; decide)]
      rfl
end
end L2.K79

set_option Elab.async false
set_option linter.all false
set_option maxRecDepth 100000
set_option maxHeartbeats 4000000
namespace L2.K79
open PySem PySem.Spec PyProof.Rows L2
section
variable {X : Cx} {k : Nat} {G : Gm} {pos : Pos} {a b c e : Expr} {sts : List Stmt}
/-! ### the cup read as data -/
abbrev cupD (x y : Int) : D := .lst [.int x, .int y]
theorem Kat.rd {C : Addr → Prop} {p : Addr} {H : Hp} {σ : L2.St} {x y : Int} (K : Kat C p H σ k G (cup x y)) : Al (fun b => C b ∧ b ≠ p) H ∧ Sat (fun b => C b ∧ b ≠ p) H σ (G.set k (some (cupD x y))) :=
  ⟨fun b z => K.al b z.1, (K.st.mv (Mv.less fun b z => z.1)).setG K.sl (.lst (fun z => z.2 rfl) (.inl K.hu) (.cons (.int x) (.cons (.int y) .nil)))⟩
theorem ke_pureI {x y i : Int} {R : D → HO → Prop} (h : JE X e (G.set k (some (cupD x y))) (.int i)) (q : R (.int i) (cup x y)) : KE X e k G (cup x y) R := h.wk fun σ H Q ⟨C, p, K, f⟩ => ⟨_, K.rd.1, K.rd.2, fun v H' ex r => by
  cases r
  exact f _ H' _ _ (xa_of ex) (ex _ _ K.hu) (.int i) q⟩
theorem kt_pure {x y : Int} {t : Bool} {RT : Bool → HO → Prop} (h : JT X c (G.set k (some (cupD x y))) t) (q : RT t (cup x y)) : KT X c k G (cup x y) RT := h.wk fun σ H Q ⟨C, p, K, f⟩ => ⟨_, K.rd.1, K.rd.2, fun H' ex => f t H' _ (xa_of ex) (ex _ _ K.hu) q⟩
/-- a block that leaves the cup alone, and hands back -/
theorem kb_ofJ {u : HO} {N : Gm → HO → Prop} {R : D → HO → Prop} {R' : D → Prop} (h : JB X sts G (fun _ => False) R') (q : ∀ d, R' d → R d u) : KB X sts k G u N R := h.wk fun Z σ H ⟨C, p, K, n, r⟩ => ⟨C, K.al, K.st, fun _ _ _ _ _ z => z.elim, fun v H' d ex rp rd => r v H' d u (xa_of ex) (ex _ _ K.hu) rp (q d rd)⟩
theorem je_pow {i j : Int} (hc : CPow i j) (ha : JE X a G (.int i)) (hb : JE X b G (.int j)) : JE X (.BinOp a .Pow b pos) G (.int (i ^ j.toNat)) :=
  je_op op_pow ha hb fun C x y H al r1 r2 Q q => ⟨i, j, rp_int r1, rp_int r2, hc, q _ H (Same.refl H) (.int _)⟩
end
def Cup (u : HO) : Prop := ∃ x y : Int, u = cup x y ∧ 0 ≤ x ∧ 0 ≤ y ∧ y < 4294967296
section
variable {P : Program} {w : World} {K : PySem.W.Frag} {mg : Str → Option Value} {base : Heap}
/-! ### rolling -/
def Pre_roll (ds : List D) (u : HO) : Prop := ∃ n : Int, ds = [.int n] ∧ 0 < n ∧ n < 1000000 ∧ Cup u
def R0_roll (ds : List D) (u : HO) (d : D) (u' : HO) : Prop := ∃ v : Int, d = .int v ∧ (∃ n : Int, ds = [.int n] ∧ 0 ≤ v ∧ v < n) ∧ Cup u'
theorem f_law_roll (B : BI mg) (F : DefAt K mg "_law_roll" s_law_roll) : Cal P w K mg base 1 "_law_roll" ["_law_cup_here", "_law_many"] (spK Pre_roll R0_roll) := by
  refine fnk_cal F c_law_roll (fun ds u h => ?_) (fun _ _ _ _ _ _ us hl => match us, hl with | [_, _], _ => rfl) (fun f cdv A outer s H E ds u hr h => ?_)
  · obtain ⟨n, rfl, hn, hn2, x, y, rfl, hx, hy, hy2⟩ := h
    rfl
  obtain ⟨n, rfl, hn, hn2, x, y, rfl, hx, hy, hy2⟩ := h
  refine kb_cons (N1 := fun G' u' => G' = [none, some (.int n), none, none] ∧ u' = cup x y ∧ x ≤ 0) (ks_if (RT := fun t u' => u' = cup x y ∧ t = decide (0 < x)) (kt_pure (jt_gt (je_ixL (ds := [.int x, .int y]) (je_var 0) je_int (atI_nat (j := 0) rfl)) je_int) ⟨rfl, rfl⟩) (fun u' ⟨eu, et⟩ => ?_) fun u' ⟨eu, et⟩ => kb_nil ⟨rfl, eu, by have := of_decide_eq_false et.symm; omega⟩) fun G' u' ⟨eG, eu, hx0⟩ => ?_
  · subst eu
    have hx1 := of_decide_eq_true et.symm
    refine kb_let 2 (by decide) c_law_roll.nd (R1 := fun d u' => d = .int (x % n) ∧ u' = cup x y) (ke_pureI (je_mod hn (je_int1 B.b_int (je_ixL (ds := [.int x, .int y]) (je_var 0) je_int (atI_nat (j := 0) rfl))) (je_var 1)) ⟨rfl, rfl⟩) fun d u1 ⟨ed, eu⟩ => ?_
    subst ed eu
    refine kb_cons (N1 := fun G' u' => G' = [none, some (.int n), some (.int (x % n)), none] ∧ u' = cup (x / n) y) (ks_cup (v := x / n) (i := 0) (ke_pureI (je_div ⟨hn, by omega⟩ (je_ixL (ds := [.int x, .int y]) (je_var 0) je_int (atI_nat (j := 0) rfl)) (je_var 1)) ⟨rfl, rfl⟩) je_int (.inl ⟨rfl, rfl, rfl⟩) ⟨rfl, rfl⟩) fun G' u' ⟨eG, eu⟩ => ?_
    subst eG eu
    exact kb_one (ks_ret (ke_of (je_var 2) ⟨_, rfl, ⟨_, rfl, Int.emod_nonneg _ (by omega), Int.emod_lt_of_pos _ hn⟩, _, _, rfl, Int.ediv_nonneg hx (by omega), hy, hy2⟩))
  · subst eG eu
    generalize ey : (y * 30949 + 7919) % 2147483497 = y2
    have h2 : 0 ≤ y2 ∧ y2 < 2147483497 := by omega
    refine kb_cons (N1 := fun G' u' => G' = [none, some (.int n), none, none] ∧ u' = cup x y2) (ks_cup (v := y2) (i := 1) (ke_pureI (je_conv (je_mod (by decide) (je_int1 B.b_int (je_add (je_mul (.inr ⟨by decide, by decide⟩) (je_ixL (ds := [.int x, .int y]) (je_var 0) je_int (atI_nat (j := 1) rfl)) je_int) je_int)) je_int) (show _ = D.int y2 by rw [ey])) ⟨rfl, rfl⟩) je_int (.inr ⟨rfl, rfl, rfl⟩) ⟨rfl, rfl⟩) fun G' u' ⟨eG, eu⟩ => ?_
    subst eG eu
    refine kb_let 3 (by decide) c_law_roll.nd (R1 := fun d u' => d = .int (y2 * (y2 + 191) % 2147483587) ∧ u' = cup x y2) (ke_pureI (je_mod (by decide) (je_int1 B.b_int (je_mul (.inl ⟨by omega, by omega⟩) (je_ixL (ds := [.int x, .int y2]) (je_var 0) je_int (atI_nat (j := 1) rfl)) (je_add (je_ixL (ds := [.int x, .int y2]) (je_var 0) je_int (atI_nat (j := 1) rfl)) je_int))) je_int) ⟨rfl, rfl⟩) fun d u1 ⟨ed, eu⟩ => ?_
    subst ed eu
    exact kb_one (ks_ret (ke_of (je_mod hn (je_int1 B.b_int (je_div ⟨by decide, by decide⟩ (je_var 3) je_int)) (je_var 1)) ⟨_, rfl, ⟨_, rfl, Int.emod_nonneg _ (by omega), Int.emod_lt_of_pos _ hn⟩, _, _, rfl, hx, h2.1, by omega⟩))
/-- a roll in an expression -/
theorem ke_roll {X : Cx} {k : Nat} {G : Gm} {u : HO} {e : Expr} {p p2 pos : Pos} {y : Str} {n : Int} {m : Nat} {R : D → HO → Prop} (F : Cal X.prog X.w X.K X.mg X.base 1 "_law_roll" ["_law_cup_here", "_law_many"] (spK Pre_roll R0_roll)) (hr : Room m X.A) (hm : 1 ≤ m) (he : JE X e G (.int n)) (hn : 0 < n) (hn2 : n < 1000000) (hu : Cup u) (q : ∀ v u', 0 ≤ v → v < n → Cup u' → ∃ i, (D.int v) = .int i ∧ R (.int i) u')
    (hN : X.N[k]? = some y := by rfl) (hv : Vis X.env.scope y := by first | exact Or.inl rfl | exact Or.inr (Or.inl rfl) | exact Or.inr (Or.inr rfl)) (hd : (y == ("__debug__" : Str)) = false := by decide) (hcd : (y == ("__classdict__" : Str)) = false := by decide)
    (hg : Gl X "_law_roll" := by rfl) (h1 : starEach (.Name y p2 :: [e]) X.env = (false, eval (.Name y p2) X.env) :: starEach [e] X.env := by rfl) (h2 : starEach [e] X.env = (false, eval e X.env) :: starEach [] X.env := by rfl) (hpl : (backTo pos (starEach [e] X.env)).any (·.1) = false := by rfl) :
    KE X (.Call (.Name "_law_roll" p) [.Name y p2, e] [] pos) k G u R :=
  ke_call (RA := fun ds u' => ds = [.int n] ∧ Cup u') F (hr.mono hm) (ka_of (ja_cons he ja_nil h2) ⟨rfl, hu⟩) (fun ds u1 ⟨ed, hc⟩ => ⟨⟨n, ed, hn, hn2, hc⟩, fun d u' ⟨v, e1, ⟨n', e2, h0, h3⟩, hc'⟩ => by
    subst ed e1
    cases e2
    obtain ⟨i, ei, qi⟩ := q v u' h0 h3 hc'
    cases ei
    exact qi⟩) hN hv hd hcd hg (by decide) h1 hpl
def Pre_some (ds : List D) (u : HO) : Prop := ∃ xs : List D, ds = [.lst xs] ∧ 0 < xs.length ∧ xs.length < 1000 ∧ Cup u
def R0_some (ds : List D) (u : HO) (d : D) (u' : HO) : Prop := (∃ xs, ds = [.lst xs] ∧ d ∈ xs) ∧ Cup u'
theorem atI_mem {xs : List D} {v : Int} (h0 : 0 ≤ v) (h : v < (xs.length : Nat)) : ∃ d, atI xs v = some d ∧ d ∈ xs := by
  have hv : v.toNat < xs.length := by omega
  refine ⟨xs[v.toNat], ?_, List.getElem_mem hv⟩
  have e := atI_nat (xs := xs) (j := v.toNat) (v := xs[v.toNat]) (List.getElem?_eq_getElem hv)
  rw [Int.toNat_of_nonneg h0] at e
  exact e
theorem f_law_some (B : BI mg) (F : DefAt K mg "_law_some" s_law_some) (F_law_roll : Cal P w K mg base 1 "_law_roll" ["_law_cup_here", "_law_many"] (spK Pre_roll R0_roll)) : Cal P w K mg base 2 "_law_some" ["_law_cup_here", "_law_things"] (spK Pre_some R0_some) := by
  refine fnk_cal F c_law_some (fun ds u h => ?_) (fun _ _ _ _ _ _ us hl => match us, hl with | [_, _], _ => rfl) (fun f cdv A outer s H E ds u hr h => ?_)
  · obtain ⟨xs, rfl, hx, hx2, hc⟩ := h
    rfl
  obtain ⟨xs, rfl, hx, hx2, hc⟩ := h
  exact kb_one (ks_ret (ke_ixL (P1 := fun i u' => 0 ≤ i ∧ i < (xs.length : Nat) ∧ Cup u') (je_var 1) (ke_roll F_law_roll hr (by decide) (je_lenL B.b_len (je_var 1)) (by omega) (by omega) hc fun v u' h0 h1 hc' => ⟨v, rfl, _, rfl, h0, h1, hc'⟩) fun i u' ⟨h0, h1, hc'⟩ => by
    obtain ⟨d, hd, hm⟩ := atI_mem h0 h1
    exact ⟨d, hd, ⟨xs, rfl, hm⟩, hc'⟩))
end
end L2.K79

set_option Elab.async false
set_option linter.all false
set_option maxRecDepth 100000
set_option maxHeartbeats 4000000
namespace L2.K79
open PySem PySem.Spec PyProof.Rows L2
def bnd (b : Int) (fs : List Int) : Prop := ∀ c ∈ fs, -b ≤ c ∧ c ≤ b
theorem bnd_mono {b b' : Int} {fs : List Int} (h : bnd b fs) (hb : b ≤ b') : bnd b' fs := fun c hc => by have := h c hc; omega
theorem bnd_append {b : Int} {fs gs : List Int} (h : bnd b fs) (g : bnd b gs) : bnd b (fs ++ gs) := fun c hc => (List.mem_append.mp hc).elim (h c) (g c)
section
variable {P : Program} {w : World} {K : PySem.W.Frag} {mg : Str → Option Value} {base : Heap}
/-! ### random rows -/
def Pre_folds (ds : List D) (u : HO) : Prop := ds = [.int 4] ∧ Cup u
def R0_folds (ds : List D) (u : HO) (d : D) (u' : HO) : Prop := (∃ fs : List Int, d = tI fs ∧ fs.length ≤ 4 ∧ bnd 100 fs) ∧ Cup u'
def whB (G : Gm) : Bool := match G with
  | [_, _, some (.int mn), some (.tup ds), _, _, _] => decide ((ds.length : Int) < mn)
  | _ => false
def gFo (mn : Int) (fs : List Int) (st : Int) : Gm := [none, some (.int 4), some (.int mn), some (tI fs), some (.int st), none, none]
def InvF (m : Nat) (G : Gm) (u : HO) : Prop := ∃ (mn : Int) (fs : List Int) (st : Int), G = gFo mn fs st ∧ fs ≠ [] ∧ fs.length ≤ 4 ∧ m = 4 - fs.length ∧ 0 ≤ mn ∧ mn ≤ 4 ∧ bnd (7 + 10 * (fs.length : Nat)) fs ∧ -10 ≤ st ∧ st ≤ 10 ∧ Cup u
theorem whB_go (mn : Int) (fs : List Int) (st : Int) : whB (gFo mn fs st) = decide ((fs.length : Int) < mn) := by
  unfold whB gFo tI
  simp only [List.length_map]
theorem last_mem {fs : List Int} (h : fs ≠ []) : fs.getLastD 0 ∈ fs := by
  have e := drop_last h
  have : fs.getLastD 0 ∈ fs.drop (fs.length - 1) := by rw [e]; exact List.mem_singleton.mpr rfl
  exact List.mem_of_mem_drop this
theorem f_law_folds (B : BI mg) (F : DefAt K mg "_law_folds" s_law_folds) (F_law_roll : Cal P w K mg base 1 "_law_roll" ["_law_cup_here", "_law_many"] (spK Pre_roll R0_roll)) (F_law_some : Cal P w K mg base 2 "_law_some" ["_law_cup_here", "_law_things"] (spK Pre_some R0_some)) : Cal P w K mg base 3 "_law_folds" ["_law_cup_here", "_law_most"] (spK Pre_folds R0_folds) := by
  refine fnk_cal F c_law_folds (fun ds u h => ?_) (fun _ _ _ _ _ _ us hl => match us, hl with | [_, _], _ => rfl) (fun f cdv A outer s H E ds u hr h => ?_)
  · obtain ⟨rfl, hc⟩ := h
    rfl
  obtain ⟨rfl, hc⟩ := h
  refine kb_let 2 (by decide) c_law_folds.nd (R1 := fun d u' => ∃ i, d = .int i ∧ 0 ≤ i ∧ i ≤ 4 ∧ Cup u') (ke_roll F_law_roll hr (by decide) (je_add (je_var 1) je_int) (by decide) (by decide) hc fun v u' h0 h1 hc' => ⟨v, rfl, _, rfl, h0, by omega, hc'⟩) fun d u1 ⟨mn, ed, hm0, hm4, hc1⟩ => ?_
  subst ed
  refine kb_cons (N1 := InvF 3) (ks_par 3 4 (R1 := fun d u' => ∃ i, d = .tup [.int i] ∧ -7 ≤ i ∧ i ≤ 7 ∧ Cup u') (R2' := fun d1 d2 u' => ∃ i j, d1 = .tup [.int i] ∧ d2 = .int j ∧ -7 ≤ i ∧ i ≤ 7 ∧ 1 ≤ j ∧ j ≤ 4 ∧ Cup u') (by decide) (by decide) rfl c_law_folds.nd
      (ke_tup (RA := fun ds u' => ∃ i, ds = [.int i] ∧ -7 ≤ i ∧ i ≤ 7 ∧ Cup u') (ka_cons (R1 := fun d u' => ∃ i, d = .int i ∧ -7 ≤ i ∧ i ≤ 7 ∧ Cup u') (ki_sub (P1 := fun i u' => 0 ≤ i ∧ i < 15 ∧ Cup u') (P2 := fun i j u' => 0 ≤ i ∧ i < 15 ∧ j = 7 ∧ Cup u') (ke_roll F_law_roll hr (by decide) je_int (by decide) (by decide) hc1 fun v u' h0 h1 hc' => ⟨v, rfl, _, rfl, h0, h1, hc'⟩) (fun i u1 ⟨h0, h1, hc'⟩ => ke_of je_int ⟨_, rfl, h0, h1, rfl, hc'⟩) fun i j u' ⟨h0, h1, ej, hc'⟩ => ⟨_, rfl, by omega, by omega, hc'⟩) fun d u1 ⟨i, ed, h0, h1, hc'⟩ => ka_nil ⟨i, by rw [ed], h0, h1, hc'⟩)
        fun ds u' ⟨i, ed, h0, h1, hc'⟩ => ⟨by rw [ed]; simp, i, by rw [ed], h0, h1, hc'⟩)
      (fun d u1 ⟨i, ed, h0, h1, hc'⟩ => ki_add (P1 := fun j u' => j = 1 ∧ u' = u1) (P2 := fun j l u' => j = 1 ∧ 0 ≤ l ∧ l < 4 ∧ Cup u') (ke_of je_int ⟨_, rfl, rfl, rfl⟩) (fun j u2 ⟨ej, eu⟩ => by
          subst eu
          exact ke_roll F_law_roll hr (by decide) je_int (by decide) (by decide) hc' fun v u' h0 h1 hc2 => ⟨v, rfl, _, rfl, ej, h0, h1, hc2⟩) fun j l u' ⟨ej, hl0, hl1, hc2⟩ => ⟨i, j + l, ed, rfl, h0, h1, by omega, by omega, hc2⟩)
      fun d1 d2 u' ⟨i, j, e1, e2, h0, h1, hj0, hj1, hc2⟩ => ⟨mn, [i], j, by subst e1 e2; rfl, by simp, by simp, rfl, hm0, hm4, fun c hcm => by rw [List.mem_singleton.mp hcm]; show -(7 + 10 * ((1 : Nat) : Int)) ≤ i ∧ i ≤ 7 + 10 * ((1 : Nat) : Int); omega, by omega, by omega, hc2⟩) fun G' u2 hI => ?_
  refine kb_cons (N1 := fun G' u' => ∃ m, InvF m G' u' ∧ whB G' = false) (ks_while InvF (fun _ G' _ => whB G') PassesOwn.never 3 G' (Wk.refl _) hI (fun m G1 u1 hI => ?_) (fun m G1 u1 hI hB => ?_) fun m G1 u1 hI hB => ⟨m, hI, hB⟩) fun G1 u3 ⟨m, hI, hB⟩ => ?_
  · obtain ⟨mn, fs, st, rfl, hn, hl, hm, h0, h4, hb, hs0, hs1, hcu⟩ := hI
    rw [whB_go]
    exact jt_lt (je_lenTI B.b_len (je_var 3)) (je_var 2)
  · obtain ⟨mn, fs, st, rfl, hn, hl, hm, h0, h4, hb, hs0, hs1, hcu⟩ := hI
    rw [whB_go] at hB
    have hlt := of_decide_eq_true hB
    refine kb_let 5 (by decide) c_law_folds.nd (R1 := fun d u' => ∃ i, d = .int i ∧ 0 ≤ i ∧ i < 8 ∧ Cup u') (ke_roll F_law_roll hr (by decide) je_int (by decide) (by decide) hcu fun v u' h0 h1 hc' => ⟨v, rfl, _, rfl, h0, h1, hc'⟩) fun d u4 ⟨wy, ed, hw0, hw1, hc4⟩ => ?_
    subst ed
    refine kb_cons (N1 := fun G' u' => ∃ st' : Int, G' = [none, some (.int 4), some (.int mn), some (tI fs), some (.int st'), some (.int wy), none] ∧ -10 ≤ st' ∧ st' ≤ 10 ∧ Cup u') (ks_if (RT := fun t u' => Cup u') (kt_of (jt_gt (je_var 5) je_int) hc4) (fun u' hc' => kb_one (ks_set 4 (by decide) c_law_folds.nd (R1 := fun d u' => ∃ i, d = .int i ∧ -10 ≤ i ∧ i ≤ 10 ∧ Cup u')
        (ke_call (RA := fun ds u' => ds = [lI [1, 2, 3, 4, 6, 7, 10]] ∧ Cup u') F_law_some (hr.mono (by decide)) (ka_of (ja_cons (je_lst (ja_cons je_int (ja_cons je_int (ja_cons je_int (ja_cons je_int (ja_cons je_int (ja_cons je_int (ja_cons je_int ja_nil)))))))) ja_nil) ⟨rfl, hc'⟩) fun ds u1 ⟨ed, hc5⟩ => ⟨⟨_, ed, by decide, by decide, hc5⟩, fun d u6 ⟨⟨xs, ex, hm⟩, hc6⟩ => by
          subst ed
          cases ex
          obtain ⟨i, hi, rfl⟩ := List.mem_map.mp hm
          refine ⟨i, rfl, ?_, ?_, hc6⟩ <;> (simp only [List.mem_cons, List.not_mem_nil, or_false] at hi; omega)⟩) fun d u' ⟨i, ed, h1, h2, h3⟩ => ⟨i, by subst ed; rfl, h1, h2, h3⟩)) fun u' hc' => kb_nil ⟨st, rfl, hs0, hs1, hc'⟩) fun G2 u5 ⟨st', eG, hs0', hs1', hc5⟩ => ?_
    subst eG
    refine kb_let 6 (by decide) c_law_folds.nd (R1 := fun d u' => ∃ i, d = .int i ∧ -10 ≤ i ∧ i ≤ 10 ∧ Cup u') (ke_call (RA := fun ds u' => ds = [lI [st', -st', st', if wy = 0 then 0 else -st']] ∧ Cup u') F_law_some (hr.mono (by decide)) (ka_of (ja_cons (je_lst (ja_cons ((je_var 4)) (ja_cons ((je_neg (je_var 4))) (ja_cons ((je_var 4)) (ja_cons ((je_if (k := decide (wy = 0)) (jt_eqI (je_var 5) je_int) (fun h => je_conv je_int (show _ = D.int (if wy = 0 then 0 else -st') by rw [if_pos (of_decide_eq_true h)])) (fun h => je_conv (je_neg (je_var 4)) (by rw [if_neg (of_decide_eq_false h)])))) ja_nil)))) (by simp)) ja_nil) ⟨rfl, hc5⟩) fun ds u1 ⟨ed, hc6⟩ => ⟨⟨_, ed, by simp, by simp, hc6⟩, fun d u6 ⟨⟨xs, ex, hm⟩, hc7⟩ => by
          subst ed
          cases ex
          obtain ⟨i, hi, rfl⟩ := List.mem_map.mp hm
          refine ⟨i, rfl, ?_, ?_, hc7⟩ <;> (simp only [List.mem_cons, List.not_mem_nil, or_false] at hi; rcases hi with h | h | h | h <;> first | omega | (split at h <;> omega))⟩) fun d u6 ⟨tn, ed, ht0, ht1, hc6⟩ => ?_
    subst ed
    refine kb_one (ks_set 3 (by decide) c_law_folds.nd (R1 := fun d u' => d = tI (fs ++ [fs.getLastD 0 + tn]) ∧ u' = u6) (ke_of (je_conv (je_catT (ds := fs.map D.int) (es := [.int (fs.getLastD 0 + tn)]) (by rw [List.length_map]; show fs.length + 1 ≤ _; omega) (je_var 3) (je_t1 (je_add (je_ixTI (je_var 3) (je_neg je_int) (at_last0 hn)) (je_var 6)))) (show _ = tI (fs ++ [fs.getLastD 0 + tn]) by unfold tI; rw [List.map_append]; rfl)) ⟨rfl, rfl⟩) fun d u' ⟨ed, eu⟩ => ⟨4 - (fs.length + 1), gFo mn (fs ++ [fs.getLastD 0 + tn]) st', by omega, ?_, mn, fs ++ [fs.getLastD 0 + tn], st', rfl, by simp, by rw [List.length_append]; show fs.length + 1 ≤ 4; omega, by rw [List.length_append]; rfl, h0, h4, ?_, hs0', hs1', by rw [eu]; exact hc6⟩)
    · subst ed
      exact wk_c (wk_c (wk_c (wk_c (wk_c (wk_n (wk_n wk_0))))))
    · have e : (((fs ++ [fs.getLastD 0 + tn]).length : Nat) : Int) = (fs.length : Nat) + 1 := by rw [List.length_append]; rfl
      rw [e]
      refine bnd_append (bnd_mono hb (by omega)) fun c hcm => ?_
      rw [List.mem_singleton.mp hcm]
      have := hb _ (last_mem hn)
      omega
  · obtain ⟨mn, fs, st, rfl, hn, hl, hm, h0, h4, hb, hs0, hs1, hcu⟩ := hI
    refine kb_one (ks_ret (ke_of (je_conv (je_sl (je_var 3) po_no (po_at (je_var 2))) (by rw [sl_take h0])) ⟨⟨_, rfl, by rw [List.length_take]; omega, fun c hcm => ?_⟩, hcu⟩))
    have := hb c (List.mem_of_mem_take hcm)
    omega
def R0_sfolds (ds : List D) (u : HO) (d : D) (u' : HO) : Prop := (∃ fs : List Int, d = tI fs ∧ fs ≠ [] ∧ fs.length ≤ 4 ∧ bnd 100 fs) ∧ Cup u'
theorem f_law_some_folds (B : BI mg) (F : DefAt K mg "_law_some_folds" s_law_some_folds) (F_law_folds : Cal P w K mg base 3 "_law_folds" ["_law_cup_here", "_law_most"] (spK Pre_folds R0_folds)) (F_law_roll : Cal P w K mg base 1 "_law_roll" ["_law_cup_here", "_law_many"] (spK Pre_roll R0_roll)) : Cal P w K mg base 4 "_law_some_folds" ["_law_cup_here", "_law_most"] (spK Pre_folds R0_sfolds) := by
  refine fnk_cal F c_law_some_folds (fun ds u h => ?_) (fun _ _ _ _ _ _ us hl => match us, hl with | [_, _], _ => rfl) (fun f cdv A outer s H E ds u hr h => ?_)
  · obtain ⟨rfl, hc⟩ := h
    rfl
  obtain ⟨rfl, hc⟩ := h
  refine kb_let 2 (by decide) c_law_some_folds.nd (R1 := fun d u' => (∃ fs : List Int, d = tI fs ∧ fs.length ≤ 4 ∧ bnd 100 fs) ∧ Cup u') (ke_call (RA := fun ds u' => ds = [.int 4] ∧ Cup u') F_law_folds (hr.mono (by decide)) (ka_of (ja_cons (je_var 1) ja_nil) ⟨rfl, hc⟩) fun ds u1 ⟨ed, hc'⟩ => ⟨⟨ed, hc'⟩, fun d u' h => h⟩) fun d u1 ⟨⟨fs, ed, hl, hb⟩, hc1⟩ => ?_
  subst ed
  refine kb_one (ks_ret (ke_if (t := !decide (fs = [])) (jt_neT (ms := []) hr (je_var 2) je_t0) (fun h => ke_of (je_var 2) ⟨⟨fs, rfl, by simpa using h, hl, hb⟩, hc1⟩) fun h => ke_tup (RA := fun ds u' => ∃ i, ds = [.int i] ∧ -7 ≤ i ∧ i ≤ 7 ∧ Cup u') (ka_cons (R1 := fun d u' => ∃ i, d = .int i ∧ -7 ≤ i ∧ i ≤ 7 ∧ Cup u') (ki_sub (P1 := fun i u' => 0 ≤ i ∧ i < 15 ∧ Cup u') (P2 := fun i j u' => 0 ≤ i ∧ i < 15 ∧ j = 7 ∧ Cup u') (ke_roll F_law_roll hr (by decide) je_int (by decide) (by decide) hc1 fun v u' h0 h1 hc' => ⟨v, rfl, _, rfl, h0, h1, hc'⟩) (fun i u1 ⟨h0, h1, hc'⟩ => ke_of je_int ⟨_, rfl, h0, h1, rfl, hc'⟩) fun i j u' ⟨h0, h1, ej, hc'⟩ => ⟨_, rfl, by omega, by omega, hc'⟩) fun d u1 ⟨i, ed, h0, h1, hc'⟩ => ka_nil ⟨i, by rw [ed], h0, h1, hc'⟩)
        fun ds u' ⟨i, ed, h0, h1, hc'⟩ => ⟨by rw [ed]; simp, ⟨[i], by rw [ed]; rfl, by simp, by simp, fun c hcm => by rw [List.mem_singleton.mp hcm]; omega⟩, hc'⟩))
/-! ### random lots -/
def Pre_lot (ds : List D) (u : HO) : Prop := ds = [] ∧ Cup u
structure lotOk (l : List Int) : Prop where
  lt : l.Pairwise (· < ·)
  len : l.length ≤ 4
  b : bnd 10 l
def R0_lot (ds : List D) (u : HO) (d : D) (u' : HO) : Prop := (∃ l : List Int, d = tI l ∧ lotOk l) ∧ Cup u'
theorem ints_of : ∀ {ds : List D} {p : Int → Prop}, (∀ d ∈ ds, ∃ i, d = .int i ∧ p i) → ∃ ns : List Int, ds = ns.map D.int ∧ ∀ n ∈ ns, p n
  | [], p, _ => ⟨[], rfl, fun n h => by cases h⟩
  | d :: ds, p, h => by
    obtain ⟨i, ed, hi⟩ := h d List.mem_cons_self
    obtain ⟨ns, en, hn⟩ := ints_of (ds := ds) fun d hd => h d (List.mem_cons_of_mem _ hd)
    refine ⟨i :: ns, by rw [ed, en]; rfl, fun n hm => ?_⟩
    rcases List.mem_cons.mp hm with e | hm
    · rw [e]; exact hi
    · exact hn n hm
theorem f_law_lot (B : BI mg) (F : DefAt K mg "_law_lot" s_law_lot) (F_law_roll : Cal P w K mg base 1 "_law_roll" ["_law_cup_here", "_law_many"] (spK Pre_roll R0_roll)) : Cal P w K mg base 2 "_law_lot" ["_law_cup_here"] (spK Pre_lot R0_lot) := by
  refine fnk_cal F c_law_lot (fun ds u h => ?_) (fun _ _ _ _ _ _ us hl => match us, hl with | [_], _ => rfl) (fun f cdv A outer s H E ds u hr h => ?_)
  · obtain ⟨rfl, hc⟩ := h
    rfl
  obtain ⟨rfl, hc⟩ := h
  refine kb_one (ks_ret (ke_tupleL B.b_tuple (ke_sset rfl B.b_sorted B.b_set (ke_lc (RI := fun xs u' => xs.length ≤ 4 ∧ Cup u') (PX := fun _ => True) (PU := Cup) (PP := fun _ d => ∃ i, d = .int i ∧ -10 ≤ i ∧ i ≤ 10) (Gx := fun d => [none, some d]) [("_law_place_here", 1)] rfl c_law_lot.nd (ki_rng1 B.b_range (ke_roll F_law_roll hr (by decide) je_int (by decide) (by decide) hc fun v u' h0 h1 hc' => ⟨v, rfl, v, rfl, ⟨by omega, by omega⟩, by rw [List.length_map, List.length_range]; omega, hc'⟩)) (blkOk_by (N := n_law_lot) (sc := defScope s_law_lot) (by decide +kernel)) (by decide)
    (fun xs u1 ⟨hl, hc'⟩ => ⟨by omega, hc', fun _ _ => trivial⟩) (fun _ _ _ _ _ => pg_name (i := 1) c_law_lot.nd rfl (.inl rfl)) (fun x _ => gok_name (by simp)) (fun x u1 _ hc' s H C cl fp => ki_sub (P1 := fun i u' => 0 ≤ i ∧ i < 21 ∧ Cup u') (P2 := fun i j u' => 0 ≤ i ∧ i < 21 ∧ j = 10 ∧ Cup u') (ke_roll F_law_roll hr (by decide) je_int (by decide) (by decide) hc' fun v u' h0 h1 hc2 => ⟨v, rfl, _, rfl, h0, h1, hc2⟩) (fun i u2 ⟨h0, h1, hc2⟩ => ke_of je_int ⟨_, rfl, h0, h1, rfl, hc2⟩) fun i j u' ⟨h0, h1, ej, hc2⟩ => ⟨⟨_, rfl, by omega, by omega⟩, hc2⟩)
    fun xs u1 ds u' ⟨hl, _⟩ hdl hpp hc' => ?_))))
  obtain ⟨ns, rfl, hb⟩ := ints_of (ds := ds) (p := fun i => -10 ≤ i ∧ i ≤ 10) fun d hd => by
    obtain ⟨j, hj⟩ := List.getElem?_of_mem hd
    have hjl := (List.getElem?_eq_some_iff.mp hj).1
    exact hpp j (xs[j]'(by omega)) d (List.getElem?_eq_getElem (by omega)) hj
  rw [List.length_map] at hdl
  have hs := sdu_length ns
  exact ⟨ns, rfl, by omega, _, rfl, ⟨_, rfl, sdu_lt ns, by omega, fun c hcm => hb c (mem_sdu.mp hcm)⟩, hc'⟩
end
end L2.K79

set_option Elab.async false
set_option linter.all false
set_option maxRecDepth 100000
set_option maxHeartbeats 4000000
namespace L2.K79
open PySem PySem.Spec PyProof.Rows L2
section
variable {P : Program} {w : World} {K : PySem.W.Frag} {mg : Str → Option Value} {base : Heap}
/-! ### rows alike -/
def Pre_like (ds : List D) (u : HO) : Prop := ∃ fs : List Int, ds = [tI fs] ∧ fs ≠ [] ∧ fs.length ≤ 4 ∧ bnd 100 fs ∧ Cup u
def R0_like (ds : List D) (u : HO) (d : D) (u' : HO) : Prop := (∃ fs : List Int, d = tI fs ∧ fs ≠ [] ∧ fs.length ≤ 4 ∧ bnd 2700 fs) ∧ Cup u'
def gLi (gs : List Int) : Gm := [none, some (tI gs), none, none, none, none, none]
theorem sl_mid {ns : List Int} {a b : Int} (ha : 0 ≤ a) (hab : a ≤ b) (hb : b ≤ (ns.length : Nat)) : (sl ns (some a) (some b)).length = (b - a).toNat ∧ ∀ c ∈ sl ns (some a) (some b), c ∈ ns := by
  unfold sl
  rw [sIx_pos ha, sIx_pos (by omega), Nat.min_eq_left (by omega), Nat.min_eq_left (by omega)]
  refine ⟨?_, fun c hc => List.mem_of_mem_drop (List.mem_of_mem_take hc)⟩
  rw [List.length_take, List.length_drop]
  omega
theorem f_law_like_row (B : BI mg) (F : DefAt K mg "_law_like_row" s_law_like_row) (F_law_roll : Cal P w K mg base 1 "_law_roll" ["_law_cup_here", "_law_many"] (spK Pre_roll R0_roll)) : Cal P w K mg base 2 "_law_like_row" ["_law_cup_here", "_law_folds_here"] (spK Pre_like R0_like) := by
  refine fnk_cal F c_law_like_row (fun ds u h => ?_) (fun _ _ _ _ _ _ us hl => match us, hl with | [_, _], _ => rfl) (fun f cdv A outer s H E ds u hr h => ?_)
  · obtain ⟨fs, rfl, hn, hl, hb, hc⟩ := h
    rfl
  obtain ⟨fs, rfl, hn, hl, hb, hc⟩ := h
  refine kb_cons (N1 := fun G' u' => ∃ gs : List Int, G' = gLi gs ∧ gs.length = fs.length ∧ bnd 2700 gs ∧ Cup u') (ks_for ((List.range (3 : Int).toNat).map fun i => D.int (0 + (i : Nat))) (fun i G' u' => ∃ gs : List Int, G' = gLi gs ∧ gs.length = fs.length ∧ bnd (100 * 3 ^ i) gs ∧ Cup u') (fun i G' d => G'.set 2 (some d)) PassesOwn.never rfl (ji_rng1 B.b_range je_int (by decide)) (pg_name (i := 2) c_law_like_row.nd rfl (.inl rfl)) _ (Wk.refl _) ⟨fs, rfl, rfl, by simpa using hb, hc⟩
    (fun i d G' u' _ _ => gk_name (by decide)) (fun i d G' u' h hI => ?_) fun G' u' ⟨gs, e1, e2, e3, e4⟩ => ⟨gs, e1, e2, bnd_mono e3 (by rw [List.length_map, List.length_range]; decide), e4⟩) fun G' u' ⟨gs, eG, hgl, hgb, hc'⟩ => ?_
  · obtain ⟨gs, rfl, hgl, hgb, hcu⟩ := hI
    have hpos : 0 < gs.length := by
      have : fs.length ≠ 0 := fun z => hn (List.length_eq_zero_iff.mp z)
      omega
    have h1 : ((if ((gs.length : Nat) : Int) > 1 then ((gs.length : Nat) : Int) else 1) = (gs.length : Nat)) := by split <;> omega
    refine kb_let 3 (by decide) c_law_like_row.nd (R1 := fun d u' => ∃ v : Int, d = .int v ∧ 0 ≤ v ∧ v < (gs.length : Nat) ∧ Cup u') (ke_roll F_law_roll hr (by decide) (je_conv (je_max2 rfl B.b_max je_int (je_lenTI B.b_len (je_var 1))) (by rw [h1])) (by omega) (by omega) hcu fun v u' h0 h1 hc' => ⟨v, rfl, v, rfl, h0, h1, hc'⟩) fun d1 u1 ⟨f1, ed, hf0, hf1, hc1⟩ => ?_
    subst ed
    have h2 : ((if ((gs.length : Nat) - f1 : Int) > 1 then ((gs.length : Nat) - f1 : Int) else 1) = (gs.length : Nat) - f1) := by split <;> omega
    refine kb_let 4 (by decide) c_law_like_row.nd (R1 := fun d u' => ∃ v : Int, d = .int v ∧ f1 ≤ v ∧ v < (gs.length : Nat) ∧ Cup u') (ki_add (P1 := fun i u' => i = f1 ∧ u' = u1) (P2 := fun i j u' => i = f1 ∧ 0 ≤ j ∧ j < (gs.length : Nat) - f1 ∧ Cup u') (ke_of (je_var 3) ⟨_, rfl, rfl, rfl⟩) (fun i u2 ⟨ei, eu⟩ => by
        subst eu
        exact ke_roll F_law_roll hr (by decide) (je_conv (je_max2 rfl B.b_max je_int (je_sub (je_lenTI B.b_len (je_var 1)) (je_var 3))) (by rw [h2])) (by omega) (by omega) hc1 fun v u' h0 h1 hc' => ⟨v, rfl, v, rfl, ei, h0, h1, hc'⟩) fun i j u' ⟨ei, hj0, hj1, hc'⟩ => ⟨_, rfl, by omega, by omega, hc'⟩) fun d2 u2 ⟨l1, ed, hl0, hl1, hc2⟩ => ?_
    subst ed
    obtain ⟨hpl, hpm⟩ := sl_mid (ns := gs) (a := f1) (b := l1 + 1) hf0 (by omega) (by omega)
    generalize ep : sl gs (some f1) (some (l1 + 1)) = pt at hpl hpm
    have hpn : pt ≠ [] := fun z => by rw [z] at hpl; simp at hpl; omega
    have hpb : bnd (100 * 3 ^ i) pt := fun c hcm => hgb c (hpm c hcm)
    refine kb_let 5 (by decide) c_law_like_row.nd (R1 := fun d u' => d = tI pt ∧ u' = u2) (ke_of (je_conv (je_sl (je_var 1) (po_at (je_var 3)) (po_at (je_add (je_var 4) je_int))) (by rw [ep])) ⟨rfl, rfl⟩) fun d3 u3 ⟨ed, eu⟩ => ?_
    subst ed eu
    let mid : List Int := pt.reverse.map fun c => pt.headD 0 + pt.getLastD 0 - c
    let nw : List Int := gs.take f1.toNat ++ mid ++ gs.drop (l1 + 1).toNat
    have hmid : mid.length = pt.length := by
      show (List.map _ _).length = _
      rw [List.length_map, List.length_reverse]
    have hnl : nw.length = gs.length := by
      show (gs.take f1.toNat ++ mid ++ gs.drop (l1 + 1).toNat).length = _
      rw [List.length_append, List.length_append, hmid, hpl, List.length_take, List.length_drop]
      omega
    have hnb : bnd (100 * 3 ^ (i + 1)) nw := by
      have e3 : (100 * 3 ^ (i + 1) : Int) = 3 * (100 * 3 ^ i) := by rw [Int.pow_succ]; omega
      have hp0 : 0 ≤ (100 * 3 ^ i : Int) := by have := hpb _ (last_mem hpn); omega
      rw [e3]
      refine bnd_append (bnd_append (fun c hcm => ?_) fun c hcm => ?_) fun c hcm => ?_
      · have := hgb c (List.mem_of_mem_take hcm); omega
      · obtain ⟨x, hx, rfl⟩ := List.mem_map.mp hcm
        have h5 := hpb x (List.mem_reverse.mp hx)
        have h6 := hpb _ (last_mem hpn)
        have h7 : pt.headD 0 ∈ pt := by
          cases pt with
          | nil => exact absurd rfl hpn
          | cons y r => exact List.mem_cons_self
        have h8 := hpb _ h7
        omega
      · have := hgb c (List.mem_of_mem_drop hcm); omega
    refine kb_one (ks_if (RT := fun t u' => t = true ∧ u' = u3) (kt_of (jt_conv (jt_neT (ms := []) hr (je_var 5) je_t0) (by rw [eq_nil hpn]; rfl)) ⟨rfl, rfl⟩) (fun u' ⟨_, eu⟩ => ?_) fun u' ⟨z, _⟩ => nomatch z)
    subst eu
    refine kb_one (ks_set 1 (by decide) c_law_like_row.nd (R1 := fun d u4 => d = tI nw ∧ u4 = u') (ke_of (je_conv (je_catT (ds := (gs.take f1.toNat ++ mid).map D.int) (es := (gs.drop (l1 + 1).toNat).map D.int) (by have e := hnl; show _ ≤ _; rw [List.length_map, List.length_map, ← List.length_append]; show nw.length ≤ _; omega)
        (je_conv (je_catT (ds := (gs.take f1.toNat).map D.int) (es := mid.map D.int) (by rw [List.length_map, List.length_map, List.length_take, hmid, hpl]; omega) (je_conv (je_sl (je_var 1) po_no (po_at (je_var 3))) (by rw [sl_take hf0]; rfl))
          (je_tupleL B.b_tuple (je_conv (je_mapN (x := "_law_crease") 6 (l := pt.reverse) (emb := D.int) (f := fun c => .int (pt.headD 0 + pt.getLastD 0 - c)) c_law_like_row.nd (ji_conv (ji_tup (je_rev (je_var 5))) (by rw [List.map_reverse])) (blkOk_by (N := n_law_like_row) (sc := defScope s_law_like_row) (by decide +kernel)) (by rw [List.length_reverse, hpl]; omega) (fun _ _ _ _ _ => pg_name (i := 6) c_law_like_row.nd rfl (.inl rfl)) fun c hcm s H C cl fp => je_sub (je_add (je_ixTI (je_var 5) je_int (at_head0 hpn)) (je_ixTI (je_var 5) (je_neg je_int) (at_last0 hpn))) (je_var 6)) (show _ = D.lst (mid.map D.int) by show D.lst _ = D.lst ((pt.reverse.map _).map D.int); rw [List.map_map]; rfl)))) (show _ = D.tup ((gs.take f1.toNat ++ mid).map D.int) by rw [List.map_append]))
        (je_conv (je_sl (je_var 1) (po_at (je_add (je_var 4) je_int)) po_no) (by rw [sl_drop (by omega)]; rfl))) (show _ = tI nw by show D.tup _ = D.tup ((gs.take f1.toNat ++ mid ++ gs.drop (l1 + 1).toNat).map D.int); rw [List.map_append (l₁ := gs.take f1.toNat ++ mid)])) ⟨rfl, rfl⟩) fun d4 u4 ⟨ed, eu⟩ => ⟨gLi nw, ?_, nw, rfl, by omega, hnb, by rw [eu]; exact hc2⟩)
    subst ed
    exact wk_c (wk_c (wk_n (wk_n (wk_n (wk_n (wk_n wk_0))))))
  · subst eG
    refine kb_one (ks_ret (ke_of (je_var 1) ⟨⟨gs, rfl, fun z => hn (List.length_eq_zero_iff.mp (by rw [← hgl, z]; rfl)), by omega, hgb⟩, hc'⟩))
/-! ### lots told rightly -/
def Pre_right (ds : List D) (u : HO) : Prop := ∃ l fs : List Int, ds = [tI l, tI fs] ∧ lotOk l ∧ fs.length ≤ 4 ∧ bnd 100 fs ∧ Cup u
def R0_right (ds : List D) (u : HO) (d : D) (u' : HO) : Prop := d = .bl true ∧ Cup u'
theorem okF_of {fs : List Int} {b : Int} (hl : fs.length ≤ 12) (hb : bnd b fs) (h : b ≤ 1000000) : okF fs := ⟨hl, fun c hc => by have := hb c hc; omega⟩
theorem okL_ink {l fs : List Int} (h : lotOk l) (hf : fs.length ≤ 4) (hb : bnd 100 fs) : okL (ink l fs) := by
  refine ⟨?_, fun x hx => ?_, ink_lt h.lt⟩
  · have h1 := ink_length fs l
    have h2 : 2 ^ fs.length ≤ 2 ^ 4 := Nat.pow_le_pow_right (by decide) hf
    have h3 := Nat.mul_le_mul h.len h2
    omega
  · obtain ⟨p, hp, hr⟩ := mem_ink.mp hx
    have h1 := rch_far (m := 10) (b := 100) hb (by decide) (h.b p hp) hr
    omega
theorem okL_great {l fs : List Int} (h : okL l) : okL (great l fs) := ⟨Nat.le_trans (List.length_filter_le _ _) h.len, fun p hp => h.each p (List.mem_filter.mp hp).1, h.lt.filter _⟩
theorem pairs_of : ∀ {xs ds : List D} {ns : List Int}, xs = ns.map D.int → ds.length = xs.length → (∀ (i : Nat) x d, xs[i]? = some x → ds[i]? = some d → ∃ n v : Int, x = .int n ∧ d = pD (n, v) ∧ 1 ≤ v ∧ v ≤ 3) → ∃ s : Sp2, ds = s.map pD ∧ pl s = ns ∧ ∀ p ∈ s, 1 ≤ p.2 ∧ p.2 ≤ 3
  | [], ds, [], _, hl, _ => ⟨[], List.length_eq_zero_iff.mp hl, rfl, fun p h => by cases h⟩
  | x :: xs, [], ns, _, hl, _ => by simp at hl
  | x :: xs, d :: ds, [], e, _, _ => by simp at e
  | [], ds, n :: ns, e, _, _ => by simp at e
  | x :: xs, d :: ds, n :: ns, e, hl, h => by
    obtain ⟨e1, e2⟩ := List.cons.inj (show x :: xs = D.int n :: ns.map D.int from e)
    obtain ⟨s, es, ep, hs⟩ := pairs_of (xs := xs) (ds := ds) (ns := ns) e2 (by simpa using hl) fun i x d hx hd => h (i + 1) x d (by simpa using hx) (by simpa using hd)
    obtain ⟨n', v, e3, e4, h1, h2⟩ := h 0 x d rfl rfl
    have e5 : n' = n := by rw [e1] at e3; exact (D.int.inj e3).symm
    subst e5
    refine ⟨(n', v) :: s, by rw [e4, es]; rfl, by show n' :: pl s = _; rw [ep], fun p hp => ?_⟩
    rcases List.mem_cons.mp hp with q | hp
    · rw [q]; exact ⟨h1, h2⟩
    · exact hs p hp
end
end L2.K79

set_option Elab.async false
set_option linter.all false
set_option maxRecDepth 100000
set_option maxHeartbeats 4000000
namespace L2.K79
open PySem PySem.Spec PyProof.Rows L2
section
variable {X : Cx} {G : Gm} {c elt tg iter : Expr} {scope : Scope} {pos : Pos} {α : Type}
theorem jb_setFilP (k i j : Nat) {l : List α} {d1 d2 : α → D} {p : α → Bool} {f : α → D} {N : Gm → Prop} {R : D → Prop} {x x2 y : Str} {py spos : Pos} {sts : List Stmt} (hN : X.N.Nodup) (hi : JI X tg iter G (l.map fun x => D.tup [d1 x, d2 x])) (ok : BlkOk X.N X.env.scope scope [(x, i), (x2, j)]) (hl : l.length ≤ 100000)
    (hg : ∀ (s : Shared) (H : Hp) (C : Addr) (cl : List (Str × Addr)) (fp : List Addr), PG (X.blk s H scope (compEnvC scope cl C X.env) fp) tg (gTup X.K 2 (gCons (gName i) (gCons (gName j) gNil))))
    (ht : ∀ x, x ∈ l → ∀ (s : Shared) (H : Hp) (C : Addr) (cl : List (Str × Addr)) (fp : List Addr), JT (X.blk s H scope (compEnvC scope cl C X.env) fp) c (((wipeG G [i, j]).set i (some (d1 x))).set j (some (d2 x))) (p x))
    (he : ∀ x, x ∈ l → p x = true → ∀ (s : Shared) (H : Hp) (C : Addr) (cl : List (Str × Addr)) (fp : List Addr), JE (X.blk s H scope (compEnvC scope cl C X.env) fp) elt (((wipeG G [i, j]).set i (some (d1 x))).set j (some (d2 x))) (f x))
    (q : JB X sts (G.set k (some (.lst ((l.filter p).map f)))) N R) (hsw : swapsWith (.ListComp elt [⟨tg, iter, [c], 0⟩] scope pos) (some (.Name y py)) spos.line X.env = pure true) (hc : X.calm = true := by rfl) (hy : X.N[k]? = some y := by rfl) (hyl : X.env.scope.names.lookup y = some .local := by rfl) (hs : ∀ x, foldedSetIterable iter X.env x = pure x := by intro _; rfl) :
    JB X (.Assign [.Name y py] (.ListComp elt [⟨tg, iter, [c], 0⟩] scope pos) spos :: sts) G N R :=
  jb_cons (N1 := fun G' => G' = G.set k (some (.lst ((l.filter p).map f)))) (js_setLc (emb := fun x => D.tup [d1 x, d2 x]) [(x, i), (x2, j)] hc hN hi ok hl hg (fun x _ => gok_pair (by simp) (by simp)) (fun x hx s H C cl fp => jts_one (ht x hx s H C cl fp)) he rfl hy hyl hsw hs) fun G' e => by rw [e]; exact q
end
section
variable {P : Program} {w : World} {K : PySem.W.Frag} {mg : Str → Option Value} {base : Heap}
theorem okL_lot {l : List Int} (h : lotOk l) : okL l := ⟨by have := h.len; omega, fun p hp => by have := h.b p hp; omega, h.lt⟩
theorem okS_of {s : Sp2} {l : List Int} (h : lotOk l) (e : pl s = l) (hd : ∀ p ∈ s, 1 ≤ p.2 ∧ p.2 ≤ 3) : okS s := by
  have hlen : s.length = l.length := by rw [← e, pl_length]
  refine ⟨by have := h.len; omega, fun p hp => ?_, ?_⟩
  · have h1 := h.b p.1 (by rw [← e]; exact List.mem_map.mpr ⟨p, hp, rfl⟩)
    have h2 := hd p hp
    omega
  · have h1 := h.lt
    rw [← e] at h1
    exact List.pairwise_map.mp h1
theorem lot_one {p : Int} (h : -10 ≤ p ∧ p ≤ 10) : lotOk [p] := ⟨by simp, by simp, fun c hc => by rw [List.mem_singleton.mp hc]; exact h⟩
theorem pow4 {fs : List Int} (hf : fs.length ≤ 4) : 2 ^ fs.length ≤ 16 := Nat.pow_le_pow_right (by decide) (n := 2) hf
theorem f_law_lot_right (B : BI mg) (F : DefAt K mg "_law_lot_right" s_law_lot_right) (F_law_roll : Cal P w K mg base 1 "_law_roll" ["_law_cup_here", "_law_many"] (spK Pre_roll R0_roll)) (F_inked_by : Cal P w K mg base 5 "inked_by" ["lot", "folds"] (spJ R_inked_by)) (F_law_inked : Cal P w K mg base 4 "_law_inked" ["_law_lot_here", "_law_folds_here"] (spJ R_law_inked)) (F_folded_by : Cal P w K mg base 6 "folded_by" ["strip", "folds"] (spJ R_folded_by)) (F_greatest_lot : Cal P w K mg base 5 "greatest_lot" ["lot", "folds"] (spJ R_greatest_lot)) (F_comes_of_some : Cal P w K mg base 5 "comes_of_some" ["lot", "folds"] (spJ R_comes_of_some)) (F_holes_of : Cal P w K mg base 4 "holes_of" ["lot"] (spJ R_holes_of)) (F_inks_whole : Cal P w K mg base 5 "inks_whole" ["folds", "place"] (spJ R_inks_whole)) : Cal P w K mg base 7 "_law_lot_right" ["_law_cup_here", "_law_lot_here", "_law_folds_here"] (spK Pre_right R0_right) := by
  refine fnk_cal F c_law_lot_right (fun ds u h => ?_) (fun _ _ _ _ _ _ us hl => match us, hl with | [_, _, _], _ => rfl) (fun f cdv A outer s H E ds u hr h => ?_)
  · obtain ⟨l, fs, rfl, hl, hf, hb, hc⟩ := h
    rfl
  obtain ⟨l, fs, rfl, hl, hf, hb, hc⟩ := h
  have okf := okF_of (by omega) hb (by decide)
  have okl := okL_lot hl
  have p4 := pow4 hf
  have hlen := hl.len
  have okt := okL_ink hl hf hb
  have okg := okL_great (fs := fs) okt
  have hb1 : l.length * 2 ^ fs.length ≤ 64 := Nat.le_trans (Nat.mul_le_mul hlen p4) (by decide)
  have hti := ink_length fs l
  have hgl : (great (ink l fs) fs).length * 2 ^ fs.length ≤ 4000 := Nat.le_trans (Nat.mul_le_mul (Nat.le_trans (List.length_filter_le _ _) (Nat.le_trans hti hb1)) p4) (by decide)
  refine kb_cons (N1 := fun G' u' => ∃ s : Sp2, G' = [none, some (tI l), some (tI fs), some (tI (ink l fs)), some (tS s), none, none, none, none, none, none] ∧ pl s = l ∧ (∀ p ∈ s, 1 ≤ p.2 ∧ p.2 ≤ 3) ∧ Cup u') (ks_par 3 4 (R1 := fun d u' => d = tI (ink l fs) ∧ u' = u) (R2' := fun d1 d2 u' => d1 = tI (ink l fs) ∧ ∃ s : Sp2, d2 = tS s ∧ pl s = l ∧ (∀ p ∈ s, 1 ≤ p.2 ∧ p.2 ≤ 3) ∧ Cup u') (by decide) (by decide) rfl c_law_lot_right.nd
      (ke_of (je_call F_inked_by (hr.mono (by decide)) (ja_cons ((je_var 1)) (ja_cons ((je_var 2)) ja_nil)) ⟨_, _, _, .inl rfl, okl, okf, (by omega), rfl, rfl⟩) ⟨rfl, rfl⟩) (fun d u1 ⟨ed, eu⟩ => ?_) fun d1 d2 u' ⟨e1, s, e2, h1, h2, h3⟩ => ⟨s, by subst e1 e2; rfl, h1, h2, h3⟩) fun G' u' ⟨s, eG, hps, hpd, hc'⟩ => ?_
  · subst eu
    refine ke_tupleX B.b_tuple (ke_lc (RI := fun xs u' => xs = l.map D.int ∧ Cup u') (PX := fun x => ∃ n : Int, x = .int n) (PU := Cup) (PP := fun x d => ∃ n v : Int, x = .int n ∧ d = pD (n, v) ∧ 1 ≤ v ∧ v ≤ 3) (Gx := fun d => [none, some (tI l), some (tI fs), none, none, some d, none, none, none, none, none]) [("_law_place_here", 5)] rfl c_law_lot_right.nd (ki_of (ji_tI (je_var 1)) ⟨rfl, hc⟩) (blkOk_by (N := n_law_lot_right) (sc := defScope s_law_lot_right) (by decide +kernel)) (by decide)
      (fun xs u1 ⟨ex, hc'⟩ => ⟨by rw [ex, List.length_map]; omega, hc', fun x hx => by rw [ex] at hx; obtain ⟨n, _, e⟩ := List.mem_map.mp hx; exact ⟨n, e.symm⟩⟩) (fun _ _ _ _ _ => pg_name (i := 5) c_law_lot_right.nd rfl (.inl rfl)) (fun x _ => gok_name (by simp)) (fun x u1 ⟨n, ex⟩ hc' s H C cl fp => ?_) fun xs u1 ds u' ⟨ex, _⟩ hdl hpp hc' => ?_)
    · subst ex
      exact ke_tup (RA := fun ds u' => ∃ v : Int, ds = [.int n, .int v] ∧ 1 ≤ v ∧ v ≤ 3 ∧ Cup u') (ka_cons (R1 := fun d u' => d = .int n ∧ u' = u1) (ke_of (je_var 5) ⟨rfl, rfl⟩) fun d u2 ⟨ed, eu⟩ => by
        subst eu
        exact ka_cons (R1 := fun d u' => ∃ v : Int, d = .int v ∧ 1 ≤ v ∧ v ≤ 3 ∧ Cup u') (ki_add (P1 := fun i u' => i = 1 ∧ u' = u2) (P2 := fun i j u' => i = 1 ∧ 0 ≤ j ∧ j < 3 ∧ Cup u') (ke_of je_int ⟨_, rfl, rfl, rfl⟩) (fun i u3 ⟨ei, eu⟩ => by
            subst eu
            exact ke_roll F_law_roll hr (by decide) je_int (by decide) (by decide) hc' fun v u' h0 h1 hc2 => ⟨v, rfl, _, rfl, ei, h0, h1, hc2⟩) fun i j u' ⟨ei, h0, h1, hc2⟩ => ⟨_, rfl, by omega, by omega, hc2⟩) fun d2 u3 ⟨v, e2, h1, h2, hc2⟩ => ka_nil ⟨v, by rw [ed, e2], h1, h2, hc2⟩)
        fun ds u' ⟨v, ed, h1, h2, hc2⟩ => ⟨by rw [ed]; simp, ⟨n, v, rfl, by rw [ed]; rfl, h1, h2⟩, hc2⟩
    · obtain ⟨s, es, hp, hd⟩ := pairs_of ex hdl hpp
      exact ⟨ds, rfl, ed, s, by rw [es]; rfl, hp, hd, hc'⟩
  · subst eG
    have oks := okS_of hl hps hpd
    have hsl : s.length = l.length := by rw [← hps, pl_length]
    have hfp : pl (foldsS s fs) = ink l fs := by rw [foldsS_pl, hps]
    have hfl : (foldsS s fs).length ≤ 64 := by rw [← pl_length, hfp]; omega
    refine kb_ofJ (R' := fun d => d = .bl true) ?_ fun d hd => ⟨hd, hc'⟩
    refine jb_skip (k := false) (jt_conv (jw_pt (jw_or (jt_neT (ns := ink l fs) (ms := ink l fs) hr (je_var 3) (je_call F_law_inked (hr.mono (by decide)) (ja_cons ((je_var 1)) (ja_cons ((je_var 2)) ja_nil)) ⟨_, _, (by omega), rfl, rfl⟩)) fun _ => jw_or1 (jt_neT (ns := ink l fs) (ms := ink l fs) hr (je_var 3) (je_tupleL B.b_tuple (je_conv (je_mapP (x := "_law_place_here") (y := "_law_drops") 5 6 (l := foldsS s fs) (d1 := fun p => .int p.1) (d2 := fun p => .int p.2) (f := fun p => .int p.1) c_law_lot_right.nd (ji_tup (je_weak (je_call F_folded_by (hr.mono (by decide)) (ja_cons ((je_var 4)) (ja_cons ((je_var 2)) ja_nil)) ⟨_, _, oks, okf, (by rw [hsl]; omega), rfl, rfl⟩))) (blkOk_by (N := n_law_lot_right) (sc := defScope s_law_lot_right) (by decide +kernel)) (by omega) (fun _ _ _ _ _ => pg_tup rfl (pgs_cons (pg_name (i := 5) c_law_lot_right.nd rfl (.inl rfl)) (pgs_cons (pg_name (i := 6) c_law_lot_right.nd rfl (.inl rfl)) pgs_nil))) fun p hp s H C cl fp => (je_var 5)) (show _ = lI (ink l fs) by rw [← hfp]; unfold lI pl; rw [List.map_map]; rfl)))))) (by simp)) rfl ?_
    refine jb_let 7 c_law_lot_right.nd (je_call F_greatest_lot (hr.mono (by decide)) (ja_cons ((je_var 3)) (ja_cons ((je_var 2)) ja_nil)) ⟨_, _, okt, okf, (by omega), rfl, rfl⟩) ?_
    refine jb_skip (k := false) (jt_conv (jw_pt (jw_or (jt_neL (ns := l.filter fun p => !decide (p ∈ great (ink l fs) fs)) (ms := []) hr (je_filN (x := "_law_place_here") 5 (l := l) (emb := D.int) (p := fun p => !decide (p ∈ great (ink l fs) fs)) (f := D.int) c_law_lot_right.nd (ji_tI (je_var 1)) (blkOk_by (N := n_law_lot_right) (sc := defScope s_law_lot_right) (by decide +kernel)) (by omega) (fun _ _ _ _ _ => pg_name (i := 5) c_law_lot_right.nd rfl (.inl rfl)) (fun p hp s H C cl fp => jt_nin (.inr rfl) (je_var 5) (je_var 7)) fun p hp _ s H C cl fp => (je_var 5)) je_l0) fun _ => jw_or (jt_neT (ns := ink (great (ink l fs) fs) fs) (ms := ink l fs) hr (je_call F_inked_by (hr.mono (by decide)) (ja_cons ((je_var 7)) (ja_cons ((je_var 2)) ja_nil)) ⟨_, _, _, .inl rfl, okg, okf, hgl, rfl, rfl⟩) (je_var 3)) fun _ => jw_or1 (jt_isnotB (j := true) (je_call F_comes_of_some (hr.mono (by decide)) (ja_cons ((je_var 3)) (ja_cons ((je_var 2)) ja_nil)) ⟨_, _, okt, okf, (by omega), hgl, rfl, rfl⟩) je_bl))) ?_) rfl ?_
    · have e1 : (l.filter fun p => !decide (p ∈ great (ink l fs) fs)) = [] := List.filter_eq_nil_iff.mpr fun p hp => by rw [decide_eq_true (great_mem hp)]; decide
      rw [e1, great_ink hl.lt]
      simp
    · refine jb_setFilP (x := "_law_first") (x2 := "_law_last") 8 9 10 (l := (ink l fs).zip ((ink l fs).drop 1)) (d1 := fun q => .int q.1) (d2 := fun q => .int q.2) (p := fun q => decide (1 < q.2 - q.1)) (f := fun q => pD (q.1 + 1, q.2 - 1)) c_law_lot_right.nd (ji_zipI B.b_zip (je_var 3) (je_tailI (je_var 3))) (blkOk_by (N := n_law_lot_right) (sc := defScope s_law_lot_right) (by decide +kernel)) (by rw [List.length_zip]; omega) (fun _ _ _ _ _ => pg_tup rfl (pgs_cons (pg_name (i := 9) c_law_lot_right.nd rfl (.inl rfl)) (pgs_cons (pg_name (i := 10) c_law_lot_right.nd rfl (.inl rfl)) pgs_nil)))
        (fun q hq s H C cl fp => jt_gt (je_sub (je_var 10) (je_var 9)) je_int) (fun q hq _ s H C cl fp => je_t2 (je_add (je_var 9) je_int) (je_sub (je_var 10) je_int)) ?_ (sw_true rfl rfl rfl (by decide +kernel))
      have eh : ((((ink l fs).zip ((ink l fs).drop 1)).filter fun q => decide (1 < q.2 - q.1)).map fun q => pD (q.1 + 1, q.2 - 1)) = (holes (ink l fs)).map pD := by unfold holes; rw [List.map_map]; rfl
      rw [eh]
      refine jb_one (js_ret (je_and (k := true) (je_conv (je_eqP hr (je_call F_holes_of (hr.mono (by decide)) (ja_cons ((je_var 3)) ja_nil) ⟨_, okt, rfl, rfl⟩) (je_var 8)) (by rw [decide_eq_true rfl])) fun _ => je_one (je_eqL (ns := l.filter fun p => !decide (decide (holes (ink [p] fs) = []) = decide (holes (ink [p] fs) = []))) (ms := []) hr
        (je_filN (x := "_law_place_here") 5 (l := l) (emb := D.int) (p := fun p => !decide (decide (holes (ink [p] fs) = []) = decide (holes (ink [p] fs) = []))) (f := D.int) c_law_lot_right.nd (ji_tI (je_var 1)) (blkOk_by (N := n_law_lot_right) (sc := defScope s_law_lot_right) (by decide +kernel)) (by omega) (fun _ _ _ _ _ => pg_name (i := 5) c_law_lot_right.nd rfl (.inl rfl)) (fun p hp s H C cl fp => jt_neB (je_call F_inks_whole (hr.mono (by decide)) (ja_cons ((je_var 2)) (ja_cons ((je_var 5)) ja_nil)) ⟨_, _, okf, (by omega), (by have := hl.b p hp; omega), rfl, rfl⟩) (je_eqP (m := []) hr (je_call F_holes_of (hr.mono (by decide)) (ja_cons ((je_call F_law_inked (hr.mono (by decide)) (ja_cons ((je_t1 (je_var 5))) (ja_cons ((je_var 2)) ja_nil)) ⟨[p], _, (by show 1 * 2 ^ fs.length ≤ 2000; omega), rfl, rfl⟩)) ja_nil) ⟨_, okL_ink (lot_one (hl.b p hp)) hf hb, rfl, rfl⟩) je_l0)) fun p hp _ s H C cl fp => (je_var 5)) je_l0)) ?_)
      rw [List.filter_eq_nil_iff.mpr fun p _ => by simp]
      rfl
end
end L2.K79

set_option Elab.async false
set_option linter.all false
set_option maxRecDepth 100000
set_option maxHeartbeats 4000000
namespace L2.K79
open PySem PySem.Spec PyProof.Rows L2
section
variable {P : Program} {w : World} {K : PySem.W.Frag} {mg : Str → Option Value} {base : Heap}
/-! ### the cup made -/
def spCup (K : PySem.W.Frag) : Sp := fun vs H Q _ => ∃ (a : Addr) (ns : List Int), vs = [.ref a] ∧ SqL K H a (ns.map V.int) ∧ ns.length ≤ 1000 ∧ ∀ p H' u, H p = none → Ex H H' → H' p = some u → Cup u → Q (.ref p) H'
theorem head_cell : ∀ ns : List Int, ∃ n : Int, (ns.map V.int ++ [V.int 0])[0]? = some (.int n)
  | [] => ⟨0, rfl⟩
  | n :: ns => ⟨n, rfl⟩
theorem f_law_cup (B : BI mg) (F : DefAt K mg "_law_cup" s_law_cup) : Cal P w K mg base 1 "_law_cup" ["_law_script"] (spCup K) := by
  obtain ⟨f, fd, F, hm⟩ := F.ex
  refine ⟨f, fd, F.ok c_law_cup (fun vs H Q E h => ?_) (fun cdv A outer s H vs Q E hr h => ?_), hm, F.kp, F.bindsN (fun _ _ _ _ _ _ us hl => match us, hl with | [_], _ => rfl)⟩
  · obtain ⟨a, ns, rfl, _⟩ := h
    rfl
  · obtain ⟨a, ns, rfl, hS, hl, q⟩ := h
    refine ⟨_, PSs.nox (pss_cons (ps_set (i := 1) c_law_cup.nd rfl (.inl rfl) (pe_callB call_abs rfl B.b_abs (by decide +kernel) (pa_cons (pe_ix ix_list (pe_op op_cat (pe_callTy call_list_of rfl B.b_list (by decide +kernel) (pa_cons (pe_var (i := 0) rfl (.inl rfl)) pa_nil)) (pe_lst (pa_cons pe_int pa_nil))) pe_int (fun _ _ => rfl)) pa_nil)))
      (PSs.all (ι := Int) (p := fun c => 0 ≤ c) fun c hc => (jb_one (js_ret (N := fun _ => False) (R := fun d => ∃ x y : Int, d = cupD x y ∧ 0 ≤ x ∧ 0 ≤ y ∧ y < 4294967296) (G := [none, some (.int c)]) (je_lst (ja_cons (je_if (d := .int (if (10 : Int) ^ (18 : Int).toNat ≤ c then c / 37 else 0)) (jt_ge (je_var 1) (je_pow ⟨by decide, by decide, by decide⟩ je_int je_int)) (fun h => je_conv (je_div ⟨by decide, by decide⟩ (je_var 1) je_int) (by rw [if_pos (of_decide_eq_true h)])) (fun h => je_conv je_int (by rw [if_neg (of_decide_eq_false h)])))
        (ja_cons (je_add (je_mod (by decide) (je_int1 B.b_int (je_add (je_mul (.inr ⟨by decide, by decide⟩) (je_var 1) je_int) je_int)) je_int) je_int) ja_nil)) (by simp)) ⟨_, _, rfl, by split <;> omega, by omega, by omega⟩)))), ?_⟩
    refine ⟨.ref a, rfl, a, ns.map V.int, rfl, .inl hS, fun l hl' => ?_⟩
    refine ⟨by show 1 ≤ sizeLine; decide, fun p hp => ?_⟩
    have hlp : l ≠ p := fun e => by rw [← e, upd_same] at hp; cases hp
    refine ⟨l, p, ns.map V.int, [.int 0], rfl, rfl, by rw [upd_ne hlp]; exact upd_same, upd_same, by rw [List.length_map]; exact sz (by show ns.length + 1 ≤ _; omega), fun r hrn => ?_⟩
    obtain ⟨n, hn⟩ := head_cell ns
    refine ⟨r, _, 0, .int n, rfl, rfl, .inl (.inl upd_same), atI_nat (j := 0) hn, n, rfl, ?_⟩
    have e1 : Ex H (upd H l (.lst (ns.map V.int))) := Ex.new hl'
    have e2 := e1.trans (Ex.new (o := .lst [V.int 0]) hp)
    have e3 := e2.trans (Ex.new (o := .lst (ns.map V.int ++ [V.int 0])) hrn)
    generalize upd (upd (upd H l (.lst (ns.map V.int))) p (.lst [V.int 0])) r (.lst (ns.map V.int ++ [V.int 0])) = H3 at e3 ⊢
    refine ⟨if n < 0 then -n else n, by split <;> omega, fun b => H3 b ≠ none, fun b c => c, ⟨rfl, fun i d e => ?_⟩, fun _ _ _ _ _ z => z.elim, fun v H' d e4 rp rd => ?_⟩
    · match i with
      | 0 => cases e
      | 1 => cases e; exact ⟨_, rfl, .int _⟩
      | i + 2 => cases e
    · obtain ⟨x, y, rfl, hx, hy, hy2⟩ := rd
      cases rp with
      | @lst p' xs _ hc hq ha =>
        cases ha with
        | cons k1 k2 =>
          cases k2 with
          | cons k3 k4 =>
            cases k4; cases k1; cases k3
            have hp3 : H3 p' = none := Classical.not_not.mp hc
            have hp0 : H p' = none := by
              cases z : H p' with
              | none => rfl
              | some o => rw [e3 p' o z] at hp3; cases hp3
            exact q p' H' _ hp0 (e3.trans e4) hq.lst ⟨x, y, rfl, hx, hy, hy2⟩
/-! ### written rows -/
theorem st_0123 : stepsL [0, 1, 2, 3] = [1, 1, 1] := (srt_eq (ns := dif [0, 1, 2, 3]) (ms := [1, 1, 1]) (by decide) (by decide)).symm
theorem st_023 : stepsL [0, 2, 3] = [1, 2] := (srt_eq (ns := dif [0, 2, 3]) (ms := [1, 2]) (by decide) (by decide)).symm
theorem st_026 : stepsL [0, 2, 6] = [2, 4] := (srt_eq (ns := dif [0, 2, 6]) (ms := [2, 4]) (by decide) (by decide)).symm
theorem st_00 : stepsL [0, 0] = [0] := (srt_eq (ns := dif [0, 0]) (ms := [0]) (by decide) (by decide)).symm
theorem st_0 : stepsL [0] = [] := (srt_eq (ns := dif [0]) (ms := []) (by decide) (by decide)).symm
theorem st_02 : stepsL [0, 2] = [2] := (srt_eq (ns := dif [0, 2]) (ms := [2]) (by decide) (by decide)).symm
theorem st_11 : stepsL [1, 1] = [0] := (srt_eq (ns := dif [1, 1]) (ms := [0]) (by decide) (by decide)).symm
theorem su_0123 : sumsIn [0, 1, 2, 3] = [-3, -1, 1, 3] := by unfold sumsIn; rw [st_0123]; decide
theorem su_023 : sumsIn [0, 2, 3] = [-3, -1, 1, 3] := by unfold sumsIn; rw [st_023]; decide
theorem su_026 : sumsIn [0, 2, 6] = [-6, -2, 2, 6] := by unfold sumsIn; rw [st_026]; decide
theorem su_00 : sumsIn [0, 0] = [0] := by unfold sumsIn; rw [st_00]; decide
theorem su_0 : sumsIn [0] = [0] := by unfold sumsIn; rw [st_0]; decide
theorem su_02 : sumsIn [0, 2] = [-2, 2] := by unfold sumsIn; rw [st_02]; decide
theorem su_11 : sumsIn [1, 1] = [0] := by unfold sumsIn; rw [st_11]; decide
theorem al_1 : alikeB [0, 1, 2, 3] [0, 2, 3] = true := by unfold alikeB; rw [su_0123, su_023]; decide
theorem al_2 : alikeB [0, 0] [0] = true := by unfold alikeB; rw [su_00, su_0]; decide
theorem on_1 : oneB [0, 1, 2, 3] [0, 2, 3] = false := by unfold oneB; rw [st_0123, st_023]; decide
theorem un_0 : unus [0] = [0] := by unfold unus dbl oddW; rw [su_0]; decide
theorem un_02 : unus [0, 2] = [-1, 0, 1] := by unfold unus dbl oddW; rw [su_02]; decide
theorem un_11 : unus [1, 1] = [] := by unfold unus dbl oddW; rw [su_11]; decide
theorem ik_1 : ink [0, 3] [2] = [-1, 0, 2, 3] := by decide
end
end L2.K79

set_option Elab.async false
set_option linter.all false
set_option maxRecDepth 100000
set_option maxHeartbeats 4000000
namespace L2.K79
open PySem PySem.Spec PyProof.Rows L2
section
variable {P : Program} {w : World} {K : PySem.W.Frag} {mg : Str → Option Value} {base : Heap}
def spLaw (K : PySem.W.Frag) : Sp := fun vs H Q _ => ∃ (a : Addr) (ns : List Int), vs = [.ref a] ∧ SqL K H a (ns.map V.int) ∧ ns.length ≤ 1000 ∧ ∀ H', Q (.bl true) H'
abbrev G7 : Gm := [none, none, none, none, none, none, none]
theorem kt_call {X : Cx} {c : Expr} {k : Nat} {G : Gm} {u : HO} (h : KE X c k G u fun d u' => d = .bl true ∧ Cup u') (he : ∀ whole, isTrue c X.env whole = (do let v ← whole; standAt c.pos; holding [v] (truthy v)) := by intro _; rfl) {pos : Pos} : KT X (.UnaryOp .Not c pos) k G u fun t u' => t = false ∧ Cup u' :=
  kt_not (kt_val (ke_wk h fun d u' ⟨ed, hc⟩ => ⟨true, ed, rfl, hc⟩) he)
theorem usual_ok : okD 60 (.lst [.int 2, lI [0], .int 4, lI [-1, 0, 1], .int 2, lI []]) = true := by
  unfold okD
  simp only [List.all_cons, List.all_nil, Bool.and_true]
  have h1 : ∀ i : Int, okD 59 (.int i) = true := fun _ => rfl
  rw [h1, h1, ok_lI 58, ok_lI 58, ok_lI 58]
  rfl
theorem ok_law {f : Addr} {fd : FuncData} (B : BI mg) (F : FunD K "law" "law" (defArgs s_law) (defBody s_law) (defScope s_law) [] [] f fd) (Fc : Cal P w K mg base 1 "_law_cup" ["_law_script"] (spCup K)) (F_law_some_folds : Cal P w K mg base 4 "_law_some_folds" ["_law_cup_here", "_law_most"] (spK Pre_folds R0_sfolds)) (F_law_lot : Cal P w K mg base 2 "_law_lot" ["_law_cup_here"] (spK Pre_lot R0_lot))
    (F_law_lot_right : Cal P w K mg base 7 "_law_lot_right" ["_law_cup_here", "_law_lot_here", "_law_folds_here"] (spK Pre_right R0_right)) (F_law_counts_right : Cal P w K mg base 7 "_law_counts_right" ["_law_folds_here"] (spJ R_law_counts_right)) (F_fewest_folds : Cal P w K mg base 6 "fewest_folds" ["folds"] (spJ R_fewest_folds)) (F_law_like_row : Cal P w K mg base 2 "_law_like_row" ["_law_cup_here", "_law_folds_here"] (spK Pre_like R0_like)) (F_law_some : Cal P w K mg base 2 "_law_some" ["_law_cup_here", "_law_things"] (spK Pre_some R0_some)) (F_law_pair_right : Cal P w K mg base 6 "_law_pair_right" ["_law_folds_here", "_law_other"] (spJ R_law_pair_right)) (F_inked_by : Cal P w K mg base 5 "inked_by" ["lot", "folds"] (spJ R_inked_by)) (F_sums_by : Cal P w K mg base 5 "sums_by" ["folds"] (spJ R_sums_by)) (F_alike_by_places : Cal P w K mg base 5 "alike_by_places" ["folds", "other_folds"] (spJ R_alike_by_places)) (F_usual_count : Cal P w K mg base 6 "usual_count" ["folds"] (spJ R_usual_count)) (F_unusual_places : Cal P w K mg base 6 "unusual_places" ["folds"] (spJ R_unusual_places)) (F_rows_alike : Cal P w K mg base 5 "rows_alike" ["folds", "beside"] (spJ R_rows_alike)) :
    FnOk P w K mg base CX0 8 f fd ["_law_script"] (spLaw K) := by
  obtain ⟨fc, fdc, Fc, hmc, hkc, hbc⟩ := Fc.ex
  refine F.ok c_law (fun vs H Q E h => ?_) (fun cdv A outer s H vs Q E hr h => ?_)
  · obtain ⟨a, ns, rfl, _⟩ := h
    rfl
  · obtain ⟨a, ns, rfl, hS, hl, q⟩ := h
    refine ⟨_, PSs.nox (pss_cons (ps_set (i := 1) c_law.nd rfl (.inl rfl) (pe_call (E := E0) Fc (hr.mono (by decide)) rfl hmc hkc hbc .nil pass0 (pa_cons (pe_var (i := 0) rfl (.inl rfl)) pa_nil)))
      (PSs.all (ι := HO) (p := Cup) (t := fun u => kS 1 G7 u (fun _ _ => False) fun d _ => d = .bl true) fun u hu => ?_)), ⟨.ref a, rfl, a, ns, rfl, hS, hl, fun p H' u hp e hu hc => ⟨u, hc, fun b => b = p, p, ⟨fun b c => (by rw [c, hu]; intro z; cases z), rfl, rfl, hu, ⟨rfl, fun i d e => by match i with
        | 0 | 1 | 2 | 3 | 4 | 5 | 6 => cases e
        | i + 7 => cases e⟩⟩, fun _ _ _ _ _ _ z => z.elim, fun v H2 d u2 _ _ rp ed => by
          subst ed
          cases rp
          exact q H2⟩⟩⟩
    refine kb_cons (N1 := fun G' u' => G' = G7 ∧ Cup u') (ks_for ((List.range (2 : Int).toNat).map fun i => D.int (0 + (i : Nat))) (fun i G' u' => G' = G7 ∧ Cup u') (fun i G' d => G'.set 2 (some d)) PassesOwn.never rfl (ji_rng1 B.b_range je_int (by decide)) (pg_name (i := 2) c_law.nd rfl (.inl rfl)) _ (Wk.refl _) ⟨rfl, hu⟩ (fun i d G' u' _ _ => gk_name (by decide)) (fun i t G' u1 _ ⟨eG, hc1⟩ => ?_) fun G' u' h => h) fun G' u1 ⟨eG, hc1⟩ => ?_
    · subst eG
      refine kb_cons (N1 := fun G' u' => ∃ fs l : List Int, G' = [none, none, some t, some (tI fs), some (tI l), none, none] ∧ (fs ≠ [] ∧ fs.length ≤ 4 ∧ bnd 100 fs) ∧ lotOk l ∧ Cup u') (ks_par 3 4 (R1 := fun d u' => (∃ fs : List Int, d = tI fs ∧ fs ≠ [] ∧ fs.length ≤ 4 ∧ bnd 100 fs) ∧ Cup u') (R2' := fun d1 d2 u' => (∃ fs : List Int, d1 = tI fs ∧ fs ≠ [] ∧ fs.length ≤ 4 ∧ bnd 100 fs) ∧ (∃ l : List Int, d2 = tI l ∧ lotOk l) ∧ Cup u') (by decide) (by decide) rfl c_law.nd
          (ke_call (RA := fun ds u' => ds = [.int 4] ∧ Cup u') F_law_some_folds (hr.mono (by decide)) (ka_of (ja_cons je_int ja_nil) ⟨rfl, hc1⟩) fun ds u' h => ⟨h, fun d u2 h2 => h2⟩)
          (fun d1 u2 ⟨h1, hc2⟩ => ke_call (RA := fun ds u' => ds = [] ∧ Cup u') F_law_lot (hr.mono (by decide)) (ka_nil ⟨rfl, hc2⟩) fun ds u' h => ⟨h, fun d u2 h2 => ⟨h1, h2.1, h2.2⟩⟩)
          fun d1 d2 u' ⟨⟨fs, e1, hf⟩, ⟨l, e2, hl⟩, hc⟩ => ⟨fs, l, by subst e1 e2; rfl, hf, hl, hc⟩) fun G' u2 ⟨fs, l, eG, ⟨hn, hf, hb⟩, hlo, hc2⟩ => ?_
      subst eG
      have okf := okF_of (by omega) hb (by decide)
      obtain ⟨m, hm1, hm2, hm3⟩ := fewest_has hn
      refine kb_skip (P1 := Cup) ((kw_or (R1 := fun t u' => t = false ∧ Cup u') (kt_call (ke_call (RA := fun ds u' => ds = [tI l, tI fs] ∧ Cup u') F_law_lot_right (hr.mono (by decide)) (ka_of (ja_cons (je_var 4) (ja_cons (je_var 3) ja_nil)) ⟨rfl, hc2⟩) fun ds u' ⟨ed, hc⟩ => ⟨⟨l, fs, ed, hlo, hf, hb, hc⟩, fun d u2 h2 => h2⟩)) (fun u' z => nomatch z.1) fun u3 ⟨_, hc3⟩ => kw_or (R1 := fun t u' => t = false ∧ Cup u') (kt_of (jt_not (k := true) (jt_of (je_call F_law_counts_right (hr.mono (by decide)) (ja_cons (je_var 3) ja_nil) ⟨fs, okf, by omega, hn, rfl, rfl⟩))) ⟨rfl, hc3⟩) (fun u' z => nomatch z.1) fun u4 ⟨_, hc4⟩ =>
        kw_or1 (kt_of (jt_conv (jt_not (jt_ltle je_int (je_call F_fewest_folds (hr.mono (by decide)) (ja_cons (je_var 3) ja_nil) ⟨fs, m, okf, hn, hf, by omega, ⟨hm2, hm3⟩, rfl, rfl⟩) (je_lenTI B.b_len (je_var 3)))) (by rw [decide_eq_true (show (0 : Int) < (m : Nat) + 1 by omega), decide_eq_true (show ((m : Nat) + 1 : Int) ≤ (fs.length : Nat) by omega)]; rfl)) ⟨rfl, hc4⟩)).pt) fun u3 hc3 => ?_
      refine kb_let 5 (by decide) c_law.nd (R1 := fun d u' => d = tI (fs.take 1 ++ fs) ∧ u' = u3) (ke_of (je_conv (je_catT (ds := (fs.take 1).map D.int) (es := fs.map D.int) (by rw [List.length_map, List.length_map, List.length_take]; omega) (je_conv (je_sl (je_var 3) po_no (po_at je_int)) (by rw [sl_take (by decide)]; rfl)) (je_var 3)) (by unfold tI; rw [List.map_append])) ⟨rfl, rfl⟩) fun d1 u4 ⟨ed, eu⟩ => ?_
      subst ed eu
      let good : D → Prop := fun d => ∃ gs : List Int, d = tI gs ∧ gs.length ≤ 5 ∧ bnd 2700 gs
      have g1 : good (tI (fs.take 1 ++ fs)) := ⟨_, rfl, by rw [List.length_append, List.length_take]; omega, bnd_append (fun c hc => by have := hb c (List.mem_of_mem_take hc); omega) (bnd_mono hb (by decide))⟩
      have g2 : good (tI fs.reverse) := ⟨_, rfl, by rw [List.length_reverse]; omega, fun c hc => by have := hb c (List.mem_reverse.mp hc); omega⟩
      refine kb_let 6 (by decide) c_law.nd (R1 := fun d u' => good d ∧ Cup u') (ke_call (RA := fun ds u' => (∃ xs : List D, ds = [.lst xs] ∧ xs.length = 4 ∧ ∀ x ∈ xs, good x) ∧ Cup u') F_law_some (hr.mono (by decide)) (ka_cons (R1 := fun d u' => (∃ xs : List D, d = .lst xs ∧ xs.length = 4 ∧ ∀ x ∈ xs, good x) ∧ Cup u') (ke_lst (RA := fun ds u' => (ds.length = 4 ∧ ∀ x ∈ ds, good x) ∧ Cup u')
          (ka_cons (R1 := fun d u' => good d ∧ Cup u') (ke_call (RA := fun ds u' => ds = [tI fs] ∧ Cup u') F_law_like_row (hr.mono (by decide)) (ka_of (ja_cons (je_var 3) ja_nil) ⟨rfl, hc3⟩) fun ds u' ⟨ed, hc⟩ => ⟨⟨fs, ed, hn, hf, hb, hc⟩, fun d u2 ⟨⟨gs, eg, _, hg, hgb⟩, hc⟩ => ⟨⟨gs, eg, by omega, hgb⟩, hc⟩⟩) fun d1 u5 ⟨gd1, hc5⟩ =>
            ka_cons (R1 := fun d u' => good d ∧ Cup u') (ke_of (je_var 5) ⟨g1, hc5⟩) fun d2 u6 ⟨gd2, hc6⟩ =>
            ka_cons (R1 := fun d u' => good d ∧ Cup u') (ke_of (je_conv (je_rev (je_var 3)) (show _ = tI fs.reverse by unfold tI; rw [List.map_reverse])) ⟨g2, hc6⟩) fun d3 u7 ⟨gd3, hc7⟩ =>
            ka_cons (R1 := fun d u' => good d ∧ Cup u') (ke_call (RA := fun ds u' => ds = [.int 4] ∧ Cup u') F_law_some_folds (hr.mono (by decide)) (ka_of (ja_cons je_int ja_nil) ⟨rfl, hc7⟩) fun ds u' h => ⟨h, fun d u2 ⟨⟨gs, eg, _, hg, hgb⟩, hc⟩ => ⟨⟨gs, eg, by omega, bnd_mono hgb (by decide)⟩, hc⟩⟩) fun d4 u8 ⟨gd4, hc8⟩ =>
            ka_nil ⟨⟨rfl, fun x hx => by
              simp only [List.mem_cons, List.not_mem_nil, or_false] at hx
              rcases hx with rfl | rfl | rfl | rfl <;> assumption⟩, hc8⟩)
          fun ds u' ⟨⟨hl4, hg4⟩, hc⟩ => ⟨by omega, ⟨ds, rfl, hl4, hg4⟩, hc⟩) fun d u5 ⟨⟨xs, ex, hx⟩, hc5⟩ => ka_nil ⟨⟨xs, by rw [ex], hx⟩, hc5⟩)
        fun ds u' ⟨⟨xs, ed, hx4, hxg⟩, hc⟩ => ⟨⟨xs, ed, by omega, by omega, hc⟩, fun d u2 ⟨⟨ys, ey, hm⟩, hc2⟩ => by
          rw [ed] at ey
          cases ey
          exact ⟨hxg d hm, hc2⟩⟩) fun d5 u5 ⟨⟨gs, ed, hg, hgb⟩, hc5⟩ => ?_
      subst ed
      have okg := okF_of (by omega) hgb (by decide)
      refine kb_skip (P1 := Cup) (kt_of (jt_conv (jw_pt (jw_or (jt_not (k := true) (jt_of (je_call F_law_pair_right (hr.mono (by decide)) (ja_cons (je_var 3) (ja_cons (je_var 6) ja_nil)) ⟨fs, gs, okf, okg, by omega, by omega, rfl, rfl⟩))) fun _ => jw_or1 (jt_not (k := true) (jt_of (je_call F_law_pair_right (hr.mono (by decide)) (ja_cons (je_var 6) (ja_cons (je_var 3) ja_nil)) ⟨gs, fs, okg, okf, by omega, by omega, rfl, rfl⟩))))) rfl) ⟨rfl, hc5⟩) fun u6 hc6 => kb_nil ⟨G7, wk_n (wk_n (wk_n (wk_n (wk_n (wk_n (wk_n wk_0)))))), rfl, hc6⟩
    · subst eG
      have rw1 : ∀ fs : List Int, (fs.all fun c => decide (-10 ≤ c) && decide (c ≤ 10)) = true → fs.length ≤ 4 → okF fs ∧ bnd 10 fs := fun fs h hl => by
        have hb : bnd 10 fs := fun c hc => by
          have h2 := List.all_eq_true.mp h c hc
          rw [Bool.and_eq_true, decide_eq_true_iff, decide_eq_true_iff] at h2
          exact h2
        exact ⟨okF_of (by omega) hb (by decide), hb⟩
      have t4 : ∀ {X : Cx} {G : Gm} {a b c d : Expr} {i j l m : Int} {kk : Nat} {pos : Pos}, JE X a G (.int i) → JE X b G (.int j) → JE X c G (.int l) → JE X d G (.int m) → starEach [a, b, c, d] X.env = (false, eval a X.env) :: starEach [b, c, d] X.env → starEach [b, c, d] X.env = (false, eval b X.env) :: starEach [c, d] X.env → starEach [c, d] X.env = (false, eval c X.env) :: starEach [d] X.env → starEach [d] X.env = (false, eval d X.env) :: starEach [] X.env → JE X (.Tuple [a, b, c, d] kk pos) G (tI [i, j, l, m]) := fun ha hb hc hd h1 h2 h3 h4 => je_tup (ja_cons ha (ja_cons hb (ja_cons hc (ja_cons hd ja_nil h4) h3) h2) h1) (by simp)
      refine kb_skip (P1 := Cup) (kt_of (jt_conv (jw_pt (jw_or (jt_neT (ns := ink [0, 3] [2]) (ms := [-1, 0, 2, 3]) hr (je_call F_inked_by (hr.mono (by decide)) (ja_cons (je_t2 je_int je_int) (ja_cons (je_t1 je_int) ja_nil)) ⟨_, [0, 3], [2], .inl rfl, okL_lot ⟨by decide, by decide, (rw1 [0, 3] (by decide) (by decide)).2⟩, (rw1 [2] (by decide) (by decide)).1, by decide, rfl, rfl⟩) (t4 (je_neg je_int) je_int je_int je_int rfl rfl rfl rfl)) fun _ =>
        jw_or (jt_neT (ns := sumsIn [0, 2, 6]) (ms := [-6, -2, 2, 6]) hr (je_call F_sums_by (hr.mono (by decide)) (ja_cons (je_t3 je_int je_int je_int) ja_nil) ⟨[0, 2, 6], (rw1 [0, 2, 6] (by decide) (by decide)).1, by decide, rfl, rfl⟩) (t4 (je_neg je_int) (je_neg je_int) je_int je_int rfl rfl rfl rfl)) fun _ =>
        jw_or (jt_not (k := alikeB [0, 1, 2, 3] [0, 2, 3]) (jt_of (je_call F_alike_by_places (hr.mono (by decide)) (ja_cons (t4 je_int je_int je_int je_int rfl rfl rfl rfl) (ja_cons (je_t3 je_int je_int je_int) ja_nil)) ⟨[0, 1, 2, 3], [0, 2, 3], (rw1 _ (by decide) (by decide)).1, (rw1 _ (by decide) (by decide)).1, by decide, by decide, rfl, rfl⟩))) fun _ =>
        jw_or1 (jt_not (k := alikeB [0, 0] [0]) (jt_of (je_call F_alike_by_places (hr.mono (by decide)) (ja_cons (je_t2 je_int je_int) (ja_cons (je_t1 je_int) ja_nil)) ⟨[0, 0], [0], (rw1 _ (by decide) (by decide)).1, (rw1 _ (by decide) (by decide)).1, by decide, by decide, rfl, rfl⟩))))) (by rw [ik_1, su_026, al_1, al_2]; decide)) ⟨rfl, hc1⟩) fun u2 hc2 => ?_
      refine kb_skip (P1 := Cup) (kt_of (jt_conv (jt_ne (k := true) (d := .lst [.int 2, lI [0], .int 4, lI [-1, 0, 1], .int 2, lI []]) (e := .lst [.int 2, lI [0], .int 4, lI [-1, 0, 1], .int 2, lI []]) hr usual_ok usual_ok ⟨fun _ => rfl, fun _ => rfl⟩
          (je_lst (ja_cons ((je_conv (je_call F_usual_count (hr.mono (by decide)) (ja_cons (je_t1 je_int) ja_nil) ⟨[0], (rw1 _ (by decide) (by decide)).1, by decide, by decide, rfl, rfl⟩) (by rw [su_0]; rfl))) (ja_cons ((je_conv (je_call F_unusual_places (hr.mono (by decide)) (ja_cons (je_t1 je_int) ja_nil) ⟨[0], (rw1 _ (by decide) (by decide)).1, by decide, by decide, rfl, rfl⟩) (by rw [un_0]))) (ja_cons ((je_conv (je_call F_usual_count (hr.mono (by decide)) (ja_cons (je_t2 je_int je_int) ja_nil) ⟨[0, 2], (rw1 _ (by decide) (by decide)).1, by decide, by decide, rfl, rfl⟩) (by rw [su_02]; rfl))) (ja_cons ((je_conv (je_call F_unusual_places (hr.mono (by decide)) (ja_cons (je_t2 je_int je_int) ja_nil) ⟨[0, 2], (rw1 _ (by decide) (by decide)).1, by decide, by decide, rfl, rfl⟩) (by rw [un_02]))) (ja_cons ((je_conv (je_call F_usual_count (hr.mono (by decide)) (ja_cons (je_t2 je_int je_int) ja_nil) ⟨[1, 1], (rw1 _ (by decide) (by decide)).1, by decide, by decide, rfl, rfl⟩) (by rw [su_11]; rfl))) (ja_cons ((je_conv (je_call F_unusual_places (hr.mono (by decide)) (ja_cons (je_t2 je_int je_int) ja_nil) ⟨[1, 1], (rw1 _ (by decide) (by decide)).1, by decide, by decide, rfl, rfl⟩) (by rw [un_11]))) ja_nil)))))) (by simp))
          (je_lst (ja_cons je_int (ja_cons (je_l1 je_int) (ja_cons je_int (ja_cons ((je_lst (ja_cons (je_neg je_int) (ja_cons je_int (ja_cons je_int ja_nil))) (by simp))) (ja_cons je_int (ja_cons je_l0 ja_nil)))))) (by simp))) rfl) ⟨rfl, hc2⟩) fun u3 hc3 => ?_
      refine kb_skip (P1 := Cup) (kt_of (jt_conv (jw_pt (jw_or (jt_not (k := true) (jt_of (je_call F_law_pair_right (hr.mono (by decide)) (ja_cons (t4 je_int je_int je_int je_int rfl rfl rfl rfl) (ja_cons (je_t3 je_int je_int je_int) ja_nil)) ⟨[0, 1, 2, 3], [0, 2, 3], (rw1 _ (by decide) (by decide)).1, (rw1 _ (by decide) (by decide)).1, by decide, by decide, rfl, rfl⟩))) fun _ =>
        jw_or (k := oneB [0, 1, 2, 3] [0, 2, 3]) (jt_of (je_call F_rows_alike (hr.mono (by decide)) (ja_cons (t4 je_int je_int je_int je_int rfl rfl rfl rfl) (ja_cons (je_t3 je_int je_int je_int) ja_nil)) ⟨[0, 1, 2, 3], [0, 2, 3], (rw1 _ (by decide) (by decide)).1, (rw1 _ (by decide) (by decide)).1, by decide, by decide, rfl, rfl⟩)) fun _ =>
        jw_or (jt_not (k := true) (jt_of (je_call F_law_pair_right (hr.mono (by decide)) (ja_cons je_t0 (ja_cons je_t0 ja_nil)) ⟨[], [], (rw1 _ (by decide) (by decide)).1, (rw1 _ (by decide) (by decide)).1, by decide, by decide, rfl, rfl⟩))) fun _ =>
        jw_or1 (jt_not (k := true) (jt_of (je_call F_law_pair_right (hr.mono (by decide)) (ja_cons je_t0 (ja_cons (je_t1 je_int) ja_nil)) ⟨[], [0], (rw1 _ (by decide) (by decide)).1, (rw1 _ (by decide) (by decide)).1, by decide, by decide, rfl, rfl⟩))))) (by rw [on_1]; rfl)) ⟨rfl, hc3⟩) fun u4 hc4 => ?_
      refine kb_one (ks_ret (ke_andT (P1 := Cup) (ke_call (RA := fun ds u' => ds = [tI [], tI [0, 2]] ∧ Cup u') F_law_lot_right (hr.mono (by decide)) (ka_of (ja_cons je_t0 (ja_cons (je_t2 je_int je_int) ja_nil)) ⟨rfl, hc4⟩) fun ds u' ⟨ed, hc⟩ => ⟨⟨[], [0, 2], ed, ⟨by decide, by decide, (rw1 [] (by decide) (by decide)).2⟩, by decide, bnd_mono (rw1 [0, 2] (by decide) (by decide)).2 (by decide), hc⟩, fun d u2 h2 => h2⟩) fun u5 hc5 =>
        ke_andT (P1 := Cup) (ke_call (RA := fun ds u' => ds = [tI [0, 3], tI []] ∧ Cup u') F_law_lot_right (hr.mono (by decide)) (ka_of (ja_cons (je_t2 je_int je_int) (ja_cons je_t0 ja_nil)) ⟨rfl, hc5⟩) fun ds u' ⟨ed, hc⟩ => ⟨⟨[0, 3], [], ed, ⟨by decide, by decide, (rw1 [0, 3] (by decide) (by decide)).2⟩, by decide, bnd_mono (rw1 [] (by decide) (by decide)).2 (by decide), hc⟩, fun d u2 h2 => h2⟩) fun u6 hc6 =>
        ke_andT (P1 := Cup) (ke_of (je_call F_law_counts_right (hr.mono (by decide)) (ja_cons (je_t3 je_int je_int je_int) ja_nil) ⟨[0, 2, 6], (rw1 _ (by decide) (by decide)).1, by decide, by decide, rfl, rfl⟩) ⟨rfl, hc6⟩) fun u7 hc7 =>
        ke_one (ke_of (je_call F_law_counts_right (hr.mono (by decide)) (ja_cons (je_t3 je_int je_int je_int) ja_nil) ⟨[3, 3, 1], (rw1 _ (by decide) (by decide)).1, by decide, by decide, rfl, rfl⟩) rfl)))
end
end L2.K79

set_option Elab.async false
set_option linter.all false
set_option maxRecDepth 100000
set_option maxHeartbeats 0
namespace L2.K79
open PySem PySem.Spec PyProof.Rows L2
section
variable {K : PySem.W.Frag} {h : Heap} {mg : Str → Option Value}
theorem e_bi (X : K.In h) (G : h.Ns mainGlobals mg) (c : He.SaysD K79.faAll K79.fnAll K) : BI mg where
  b_len := He.free_ok X G (c.fact 69 (f := .free "len") rfl)
  b_zip := He.free_ok X G (c.fact 70 (f := .free "zip") rfl)
  b_sorted := He.free_ok X G (c.fact 71 (f := .free "sorted") rfl)
  b_set := He.free_ok X G (c.fact 72 (f := .free "set") rfl)
  b_dict := He.free_ok X G (c.fact 73 (f := .free "dict") rfl)
  b_tuple := He.free_ok X G (c.fact 74 (f := .free "tuple") rfl)
  b_list := He.free_ok X G (c.fact 75 (f := .free "list") rfl)
  b_abs := He.free_ok X G (c.fact 76 (f := .free "abs") rfl)
  b_all := He.free_ok X G (c.fact 77 (f := .free "all") rfl)
  b_isinstance := He.free_ok X G (c.fact 78 (f := .free "isinstance") rfl)
  b_range := He.free_ok X G (c.fact 79 (f := .free "range") rfl)
  b_int := He.free_ok X G (c.fact 80 (f := .free "int") rfl)
  b_bool := He.free_ok X G (c.fact 81 (f := .free "bool") rfl)
  b_max := He.free_ok X G (c.fact 82 (f := .free "max") rfl)
  k_FARTHEST_strips := He.int_ok X G (c.fact 83 (f := .int "FARTHEST_strips" 1000000000) rfl)
  k_CREASE := He.int_ok X G (c.fact 84 (f := .int "CREASE" 1000000) rfl)
  k_PAIRS := He.int_ok X G (c.fact 85 (f := .int "PAIRS" 200) rfl)
  k_FOLDS_strips := He.int_ok X G (c.fact 86 (f := .int "FOLDS_strips" 12) rfl)
  k_MOST_folding := He.int_ok X G (c.fact 87 (f := .int "MOST_folding" 10000) rfl)
  k_PLACES := He.int_ok X G (c.fact 88 (f := .int "PLACES" 256) rfl)
  k_FARTHEST_inkedplaces := He.int_ok X G (c.fact 89 (f := .int "FARTHEST_inkedplaces" 100000) rfl)
  k_MOST_inkedplaces := He.int_ok X G (c.fact 90 (f := .int "MOST_inkedplaces" 10000) rfl)
  k_FOLDS_inkedplaces := He.int_ok X G (c.fact 91 (f := .int "FOLDS_inkedplaces" 8) rfl)
  k_STEPS := He.int_ok X G (c.fact 92 (f := .int "STEPS" 7) rfl)
theorem e_is_whole (X : K.In h) (G : h.Ns mainGlobals mg) (c : He.SaysD K79.faAll K79.fnAll K) : DefAt K mg "is_whole" s_is_whole := by
  obtain ⟨fd, F⟩ := c.def_ 0 (d := K79.mkD "is_whole" K79.s_is_whole) rfl
  exact ⟨⟨_, fd, F, He.glo_ok X G (c.fact 0 (f := .glo "is_whole") rfl)⟩⟩
theorem e_is_tuple_of (X : K.In h) (G : h.Ns mainGlobals mg) (c : He.SaysD K79.faAll K79.fnAll K) : DefAt K mg "is_tuple_of" s_is_tuple_of := by
  obtain ⟨fd, F⟩ := c.def_ 1 (d := K79.mkD "is_tuple_of" K79.s_is_tuple_of) rfl
  exact ⟨⟨_, fd, F, He.glo_ok X G (c.fact 1 (f := .glo "is_tuple_of") rfl)⟩⟩
theorem e_fits_place (X : K.In h) (G : h.Ns mainGlobals mg) (c : He.SaysD K79.faAll K79.fnAll K) : DefAt K mg "fits_place" s_fits_place := by
  obtain ⟨fd, F⟩ := c.def_ 2 (d := K79.mkD "fits_place" K79.s_fits_place) rfl
  exact ⟨⟨_, fd, F, He.glo_ok X G (c.fact 2 (f := .glo "fits_place") rfl)⟩⟩
theorem e_fits_drops (X : K.In h) (G : h.Ns mainGlobals mg) (c : He.SaysD K79.faAll K79.fnAll K) : DefAt K mg "fits_drops" s_fits_drops := by
  obtain ⟨fd, F⟩ := c.def_ 3 (d := K79.mkD "fits_drops" K79.s_fits_drops) rfl
  exact ⟨⟨_, fd, F, He.glo_ok X G (c.fact 3 (f := .glo "fits_drops") rfl)⟩⟩
theorem e_fits_strip (X : K.In h) (G : h.Ns mainGlobals mg) (c : He.SaysD K79.faAll K79.fnAll K) : DefAt K mg "fits_strip" s_fits_strip := by
  obtain ⟨fd, F⟩ := c.def_ 4 (d := K79.mkD "fits_strip" K79.s_fits_strip) rfl
  exact ⟨⟨_, fd, F, He.glo_ok X G (c.fact 4 (f := .glo "fits_strip") rfl)⟩⟩
theorem e_fits_crease (X : K.In h) (G : h.Ns mainGlobals mg) (c : He.SaysD K79.faAll K79.fnAll K) : DefAt K mg "fits_crease" s_fits_crease := by
  obtain ⟨fd, F⟩ := c.def_ 5 (d := K79.mkD "fits_crease" K79.s_fits_crease) rfl
  exact ⟨⟨_, fd, F, He.glo_ok X G (c.fact 5 (f := .glo "fits_crease") rfl)⟩⟩
theorem e_fits_folds (X : K.In h) (G : h.Ns mainGlobals mg) (c : He.SaysD K79.faAll K79.fnAll K) : DefAt K mg "fits_folds" s_fits_folds := by
  obtain ⟨fd, F⟩ := c.def_ 6 (d := K79.mkD "fits_folds" K79.s_fits_folds) rfl
  exact ⟨⟨_, fd, F, He.glo_ok X G (c.fact 6 (f := .glo "fits_folds") rfl)⟩⟩
theorem e_strip_of (X : K.In h) (G : h.Ns mainGlobals mg) (c : He.SaysD K79.faAll K79.fnAll K) : DefAt K mg "strip_of" s_strip_of := by
  obtain ⟨fd, F⟩ := c.def_ 7 (d := K79.mkD "strip_of" K79.s_strip_of) rfl
  exact ⟨⟨_, fd, F, He.glo_ok X G (c.fact 7 (f := .glo "strip_of") rfl)⟩⟩
theorem e_added (X : K.In h) (G : h.Ns mainGlobals mg) (c : He.SaysD K79.faAll K79.fnAll K) : DefAt K mg "added" s_added := by
  obtain ⟨fd, F⟩ := c.def_ 8 (d := K79.mkD "added" K79.s_added) rfl
  exact ⟨⟨_, fd, F, He.glo_ok X G (c.fact 8 (f := .glo "added") rfl)⟩⟩
theorem e_mirrored (X : K.In h) (G : h.Ns mainGlobals mg) (c : He.SaysD K79.faAll K79.fnAll K) : DefAt K mg "mirrored" s_mirrored := by
  obtain ⟨fd, F⟩ := c.def_ 9 (d := K79.mkD "mirrored" K79.s_mirrored) rfl
  exact ⟨⟨_, fd, F, He.glo_ok X G (c.fact 9 (f := .glo "mirrored") rfl)⟩⟩
theorem e_need_strip (X : K.In h) (G : h.Ns mainGlobals mg) (c : He.SaysD K79.faAll K79.fnAll K) : DefAt K mg "need_strip" s_need_strip := by
  obtain ⟨fd, F⟩ := c.def_ 10 (d := K79.mkD "need_strip" K79.s_need_strip) rfl
  exact ⟨⟨_, fd, F, He.glo_ok X G (c.fact 10 (f := .glo "need_strip") rfl)⟩⟩
theorem e_need_folds (X : K.In h) (G : h.Ns mainGlobals mg) (c : He.SaysD K79.faAll K79.fnAll K) : DefAt K mg "need_folds" s_need_folds := by
  obtain ⟨fd, F⟩ := c.def_ 11 (d := K79.mkD "need_folds" K79.s_need_folds) rfl
  exact ⟨⟨_, fd, F, He.glo_ok X G (c.fact 11 (f := .glo "need_folds") rfl)⟩⟩
theorem e_need_place (X : K.In h) (G : h.Ns mainGlobals mg) (c : He.SaysD K79.faAll K79.fnAll K) : DefAt K mg "need_place" s_need_place := by
  obtain ⟨fd, F⟩ := c.def_ 12 (d := K79.mkD "need_place" K79.s_need_place) rfl
  exact ⟨⟨_, fd, F, He.glo_ok X G (c.fact 12 (f := .glo "need_place") rfl)⟩⟩
theorem e_folded_at (X : K.In h) (G : h.Ns mainGlobals mg) (c : He.SaysD K79.faAll K79.fnAll K) : DefAt K mg "folded_at" s_folded_at := by
  obtain ⟨fd, F⟩ := c.def_ 13 (d := K79.mkD "folded_at" K79.s_folded_at) rfl
  exact ⟨⟨_, fd, F, He.glo_ok X G (c.fact 13 (f := .glo "folded_at") rfl)⟩⟩
theorem e_strips_on (X : K.In h) (G : h.Ns mainGlobals mg) (c : He.SaysD K79.faAll K79.fnAll K) : DefAt K mg "strips_on" s_strips_on := by
  obtain ⟨fd, F⟩ := c.def_ 14 (d := K79.mkD "strips_on" K79.s_strips_on) rfl
  exact ⟨⟨_, fd, F, He.glo_ok X G (c.fact 14 (f := .glo "strips_on") rfl)⟩⟩
theorem e_need_strips (X : K.In h) (G : h.Ns mainGlobals mg) (c : He.SaysD K79.faAll K79.fnAll K) : DefAt K mg "need_strips" s_need_strips := by
  obtain ⟨fd, F⟩ := c.def_ 15 (d := K79.mkD "need_strips" K79.s_need_strips) rfl
  exact ⟨⟨_, fd, F, He.glo_ok X G (c.fact 15 (f := .glo "need_strips") rfl)⟩⟩
theorem e_folded_by (X : K.In h) (G : h.Ns mainGlobals mg) (c : He.SaysD K79.faAll K79.fnAll K) : DefAt K mg "folded_by" s_folded_by := by
  obtain ⟨fd, F⟩ := c.def_ 16 (d := K79.mkD "folded_by" K79.s_folded_by) rfl
  exact ⟨⟨_, fd, F, He.glo_ok X G (c.fact 16 (f := .glo "folded_by") rfl)⟩⟩
theorem e_steps_in (X : K.In h) (G : h.Ns mainGlobals mg) (c : He.SaysD K79.faAll K79.fnAll K) : DefAt K mg "steps_in" s_steps_in := by
  obtain ⟨fd, F⟩ := c.def_ 17 (d := K79.mkD "steps_in" K79.s_steps_in) rfl
  exact ⟨⟨_, fd, F, He.glo_ok X G (c.fact 17 (f := .glo "steps_in") rfl)⟩⟩
theorem e_sums_of (X : K.In h) (G : h.Ns mainGlobals mg) (c : He.SaysD K79.faAll K79.fnAll K) : DefAt K mg "sums_of" s_sums_of := by
  obtain ⟨fd, F⟩ := c.def_ 18 (d := K79.mkD "sums_of" K79.s_sums_of) rfl
  exact ⟨⟨_, fd, F, He.glo_ok X G (c.fact 18 (f := .glo "sums_of") rfl)⟩⟩
theorem e_print_by (X : K.In h) (G : h.Ns mainGlobals mg) (c : He.SaysD K79.faAll K79.fnAll K) : DefAt K mg "print_by" s_print_by := by
  obtain ⟨fd, F⟩ := c.def_ 19 (d := K79.mkD "print_by" K79.s_print_by) rfl
  exact ⟨⟨_, fd, F, He.glo_ok X G (c.fact 19 (f := .glo "print_by") rfl)⟩⟩
theorem e_print_of (X : K.In h) (G : h.Ns mainGlobals mg) (c : He.SaysD K79.faAll K79.fnAll K) : DefAt K mg "print_of" s_print_of := by
  obtain ⟨fd, F⟩ := c.def_ 20 (d := K79.mkD "print_of" K79.s_print_of) rfl
  exact ⟨⟨_, fd, F, He.glo_ok X G (c.fact 20 (f := .glo "print_of") rfl)⟩⟩
theorem e_fits_lot (X : K.In h) (G : h.Ns mainGlobals mg) (c : He.SaysD K79.faAll K79.fnAll K) : DefAt K mg "fits_lot" s_fits_lot := by
  obtain ⟨fd, F⟩ := c.def_ 21 (d := K79.mkD "fits_lot" K79.s_fits_lot) rfl
  exact ⟨⟨_, fd, F, He.glo_ok X G (c.fact 21 (f := .glo "fits_lot") rfl)⟩⟩
theorem e_inked (X : K.In h) (G : h.Ns mainGlobals mg) (c : He.SaysD K79.faAll K79.fnAll K) : DefAt K mg "inked" s_inked := by
  obtain ⟨fd, F⟩ := c.def_ 22 (d := K79.mkD "inked" K79.s_inked) rfl
  exact ⟨⟨_, fd, F, He.glo_ok X G (c.fact 22 (f := .glo "inked") rfl)⟩⟩
theorem e_all_sums (X : K.In h) (G : h.Ns mainGlobals mg) (c : He.SaysD K79.faAll K79.fnAll K) : DefAt K mg "all_sums" s_all_sums := by
  obtain ⟨fd, F⟩ := c.def_ 23 (d := K79.mkD "all_sums" K79.s_all_sums) rfl
  exact ⟨⟨_, fd, F, He.glo_ok X G (c.fact 23 (f := .glo "all_sums") rfl)⟩⟩
theorem e_sums_in (X : K.In h) (G : h.Ns mainGlobals mg) (c : He.SaysD K79.faAll K79.fnAll K) : DefAt K mg "sums_in" s_sums_in := by
  obtain ⟨fd, F⟩ := c.def_ 24 (d := K79.mkD "sums_in" K79.s_sums_in) rfl
  exact ⟨⟨_, fd, F, He.glo_ok X G (c.fact 24 (f := .glo "sums_in") rfl)⟩⟩
theorem e_are_alike (X : K.In h) (G : h.Ns mainGlobals mg) (c : He.SaysD K79.faAll K79.fnAll K) : DefAt K mg "are_alike" s_are_alike := by
  obtain ⟨fd, F⟩ := c.def_ 25 (d := K79.mkD "are_alike" K79.s_are_alike) rfl
  exact ⟨⟨_, fd, F, He.glo_ok X G (c.fact 25 (f := .glo "are_alike") rfl)⟩⟩
theorem e_need_lot (X : K.In h) (G : h.Ns mainGlobals mg) (c : He.SaysD K79.faAll K79.fnAll K) : DefAt K mg "need_lot" s_need_lot := by
  obtain ⟨fd, F⟩ := c.def_ 26 (d := K79.mkD "need_lot" K79.s_need_lot) rfl
  exact ⟨⟨_, fd, F, He.glo_ok X G (c.fact 26 (f := .glo "need_lot") rfl)⟩⟩
theorem e_need_few_folds (X : K.In h) (G : h.Ns mainGlobals mg) (c : He.SaysD K79.faAll K79.fnAll K) : DefAt K mg "need_few_folds" s_need_few_folds := by
  obtain ⟨fd, F⟩ := c.def_ 27 (d := K79.mkD "need_few_folds" K79.s_need_few_folds) rfl
  exact ⟨⟨_, fd, F, He.glo_ok X G (c.fact 27 (f := .glo "need_few_folds") rfl)⟩⟩
theorem e_inked_by (X : K.In h) (G : h.Ns mainGlobals mg) (c : He.SaysD K79.faAll K79.fnAll K) : DefAt K mg "inked_by" s_inked_by := by
  obtain ⟨fd, F⟩ := c.def_ 28 (d := K79.mkD "inked_by" K79.s_inked_by) rfl
  exact ⟨⟨_, fd, F, He.glo_ok X G (c.fact 28 (f := .glo "inked_by") rfl)⟩⟩
theorem e_sums_by (X : K.In h) (G : h.Ns mainGlobals mg) (c : He.SaysD K79.faAll K79.fnAll K) : DefAt K mg "sums_by" s_sums_by := by
  obtain ⟨fd, F⟩ := c.def_ 29 (d := K79.mkD "sums_by" K79.s_sums_by) rfl
  exact ⟨⟨_, fd, F, He.glo_ok X G (c.fact 29 (f := .glo "sums_by") rfl)⟩⟩
theorem e_alike_by_places (X : K.In h) (G : h.Ns mainGlobals mg) (c : He.SaysD K79.faAll K79.fnAll K) : DefAt K mg "alike_by_places" s_alike_by_places := by
  obtain ⟨fd, F⟩ := c.def_ 30 (d := K79.mkD "alike_by_places" K79.s_alike_by_places) rfl
  exact ⟨⟨_, fd, F, He.glo_ok X G (c.fact 30 (f := .glo "alike_by_places") rfl)⟩⟩
theorem e_form_in (X : K.In h) (G : h.Ns mainGlobals mg) (c : He.SaysD K79.faAll K79.fnAll K) : DefAt K mg "form_in" s_form_in := by
  obtain ⟨fd, F⟩ := c.def_ 31 (d := K79.mkD "form_in" K79.s_form_in) rfl
  exact ⟨⟨_, fd, F, He.glo_ok X G (c.fact 31 (f := .glo "form_in") rfl)⟩⟩
theorem e_are_one (X : K.In h) (G : h.Ns mainGlobals mg) (c : He.SaysD K79.faAll K79.fnAll K) : DefAt K mg "are_one" s_are_one := by
  obtain ⟨fd, F⟩ := c.def_ 32 (d := K79.mkD "are_one" K79.s_are_one) rfl
  exact ⟨⟨_, fd, F, He.glo_ok X G (c.fact 32 (f := .glo "are_one") rfl)⟩⟩
theorem e_rows_alike (X : K.In h) (G : h.Ns mainGlobals mg) (c : He.SaysD K79.faAll K79.fnAll K) : DefAt K mg "rows_alike" s_rows_alike := by
  obtain ⟨fd, F⟩ := c.def_ 33 (d := K79.mkD "rows_alike" K79.s_rows_alike) rfl
  exact ⟨⟨_, fd, F, He.glo_ok X G (c.fact 33 (f := .glo "rows_alike") rfl)⟩⟩
theorem e_greatest_in (X : K.In h) (G : h.Ns mainGlobals mg) (c : He.SaysD K79.faAll K79.fnAll K) : DefAt K mg "greatest_in" s_greatest_in := by
  obtain ⟨fd, F⟩ := c.def_ 34 (d := K79.mkD "greatest_in" K79.s_greatest_in) rfl
  exact ⟨⟨_, fd, F, He.glo_ok X G (c.fact 34 (f := .glo "greatest_in") rfl)⟩⟩
theorem e_greatest_lot (X : K.In h) (G : h.Ns mainGlobals mg) (c : He.SaysD K79.faAll K79.fnAll K) : DefAt K mg "greatest_lot" s_greatest_lot := by
  obtain ⟨fd, F⟩ := c.def_ 35 (d := K79.mkD "greatest_lot" K79.s_greatest_lot) rfl
  exact ⟨⟨_, fd, F, He.glo_ok X G (c.fact 35 (f := .glo "greatest_lot") rfl)⟩⟩
theorem e_comes_of_some (X : K.In h) (G : h.Ns mainGlobals mg) (c : He.SaysD K79.faAll K79.fnAll K) : DefAt K mg "comes_of_some" s_comes_of_some := by
  obtain ⟨fd, F⟩ := c.def_ 36 (d := K79.mkD "comes_of_some" K79.s_comes_of_some) rfl
  exact ⟨⟨_, fd, F, He.glo_ok X G (c.fact 36 (f := .glo "comes_of_some") rfl)⟩⟩
theorem e_grown (X : K.In h) (G : h.Ns mainGlobals mg) (c : He.SaysD K79.faAll K79.fnAll K) : DefAt K mg "grown" s_grown := by
  obtain ⟨fd, F⟩ := c.def_ 37 (d := K79.mkD "grown" K79.s_grown) rfl
  exact ⟨⟨_, fd, F, He.glo_ok X G (c.fact 37 (f := .glo "grown") rfl)⟩⟩
theorem e_can_reach (X : K.In h) (G : h.Ns mainGlobals mg) (c : He.SaysD K79.faAll K79.fnAll K) : DefAt K mg "can_reach" s_can_reach := by
  obtain ⟨fd, F⟩ := c.def_ 38 (d := K79.mkD "can_reach" K79.s_can_reach) rfl
  exact ⟨⟨_, fd, F, He.glo_ok X G (c.fact 38 (f := .glo "can_reach") rfl)⟩⟩
theorem e_steps_behind (X : K.In h) (G : h.Ns mainGlobals mg) (c : He.SaysD K79.faAll K79.fnAll K) : DefAt K mg "steps_behind" s_steps_behind := by
  obtain ⟨fd, F⟩ := c.def_ 39 (d := K79.mkD "steps_behind" K79.s_steps_behind) rfl
  exact ⟨⟨_, fd, F, He.glo_ok X G (c.fact 39 (f := .glo "steps_behind") rfl)⟩⟩
theorem e_longer_on (X : K.In h) (G : h.Ns mainGlobals mg) (c : He.SaysD K79.faAll K79.fnAll K) : DefAt K mg "longer_on" s_longer_on := by
  obtain ⟨fd, F⟩ := c.def_ 40 (d := K79.mkD "longer_on" K79.s_longer_on) rfl
  exact ⟨⟨_, fd, F, He.glo_ok X G (c.fact 40 (f := .glo "longer_on") rfl)⟩⟩
theorem e_tuples_of (X : K.In h) (G : h.Ns mainGlobals mg) (c : He.SaysD K79.faAll K79.fnAll K) : DefAt K mg "tuples_of" s_tuples_of := by
  obtain ⟨fd, F⟩ := c.def_ 41 (d := K79.mkD "tuples_of" K79.s_tuples_of) rfl
  exact ⟨⟨_, fd, F, He.glo_ok X G (c.fact 41 (f := .glo "tuples_of") rfl)⟩⟩
theorem e_shortest_to (X : K.In h) (G : h.Ns mainGlobals mg) (c : He.SaysD K79.faAll K79.fnAll K) : DefAt K mg "shortest_to" s_shortest_to := by
  obtain ⟨fd, F⟩ := c.def_ 42 (d := K79.mkD "shortest_to" K79.s_shortest_to) rfl
  exact ⟨⟨_, fd, F, He.glo_ok X G (c.fact 42 (f := .glo "shortest_to") rfl)⟩⟩
theorem e_goal_of (X : K.In h) (G : h.Ns mainGlobals mg) (c : He.SaysD K79.faAll K79.fnAll K) : DefAt K mg "goal_of" s_goal_of := by
  obtain ⟨fd, F⟩ := c.def_ 43 (d := K79.mkD "goal_of" K79.s_goal_of) rfl
  exact ⟨⟨_, fd, F, He.glo_ok X G (c.fact 43 (f := .glo "goal_of") rfl)⟩⟩
theorem e_fewest_folds (X : K.In h) (G : h.Ns mainGlobals mg) (c : He.SaysD K79.faAll K79.fnAll K) : DefAt K mg "fewest_folds" s_fewest_folds := by
  obtain ⟨fd, F⟩ := c.def_ 44 (d := K79.mkD "fewest_folds" K79.s_fewest_folds) rfl
  exact ⟨⟨_, fd, F, He.glo_ok X G (c.fact 44 (f := .glo "fewest_folds") rfl)⟩⟩
theorem e_holes_in (X : K.In h) (G : h.Ns mainGlobals mg) (c : He.SaysD K79.faAll K79.fnAll K) : DefAt K mg "holes_in" s_holes_in := by
  obtain ⟨fd, F⟩ := c.def_ 45 (d := K79.mkD "holes_in" K79.s_holes_in) rfl
  exact ⟨⟨_, fd, F, He.glo_ok X G (c.fact 45 (f := .glo "holes_in") rfl)⟩⟩
theorem e_holes_of (X : K.In h) (G : h.Ns mainGlobals mg) (c : He.SaysD K79.faAll K79.fnAll K) : DefAt K mg "holes_of" s_holes_of := by
  obtain ⟨fd, F⟩ := c.def_ 46 (d := K79.mkD "holes_of" K79.s_holes_of) rfl
  exact ⟨⟨_, fd, F, He.glo_ok X G (c.fact 46 (f := .glo "holes_of") rfl)⟩⟩
theorem e_inks_whole (X : K.In h) (G : h.Ns mainGlobals mg) (c : He.SaysD K79.faAll K79.fnAll K) : DefAt K mg "inks_whole" s_inks_whole := by
  obtain ⟨fd, F⟩ := c.def_ 47 (d := K79.mkD "inks_whole" K79.s_inks_whole) rfl
  exact ⟨⟨_, fd, F, He.glo_ok X G (c.fact 47 (f := .glo "inks_whole") rfl)⟩⟩
theorem e_need_some_folds (X : K.In h) (G : h.Ns mainGlobals mg) (c : He.SaysD K79.faAll K79.fnAll K) : DefAt K mg "need_some_folds" s_need_some_folds := by
  obtain ⟨fd, F⟩ := c.def_ 48 (d := K79.mkD "need_some_folds" K79.s_need_some_folds) rfl
  exact ⟨⟨_, fd, F, He.glo_ok X G (c.fact 48 (f := .glo "need_some_folds") rfl)⟩⟩
theorem e_odd_ways (X : K.In h) (G : h.Ns mainGlobals mg) (c : He.SaysD K79.faAll K79.fnAll K) : DefAt K mg "odd_ways" s_odd_ways := by
  obtain ⟨fd, F⟩ := c.def_ 49 (d := K79.mkD "odd_ways" K79.s_odd_ways) rfl
  exact ⟨⟨_, fd, F, He.glo_ok X G (c.fact 49 (f := .glo "odd_ways") rfl)⟩⟩
theorem e_usual_count (X : K.In h) (G : h.Ns mainGlobals mg) (c : He.SaysD K79.faAll K79.fnAll K) : DefAt K mg "usual_count" s_usual_count := by
  obtain ⟨fd, F⟩ := c.def_ 50 (d := K79.mkD "usual_count" K79.s_usual_count) rfl
  exact ⟨⟨_, fd, F, He.glo_ok X G (c.fact 50 (f := .glo "usual_count") rfl)⟩⟩
theorem e_unusual_places (X : K.In h) (G : h.Ns mainGlobals mg) (c : He.SaysD K79.faAll K79.fnAll K) : DefAt K mg "unusual_places" s_unusual_places := by
  obtain ⟨fd, F⟩ := c.def_ 51 (d := K79.mkD "unusual_places" K79.s_unusual_places) rfl
  exact ⟨⟨_, fd, F, He.glo_ok X G (c.fact 51 (f := .glo "unusual_places") rfl)⟩⟩
theorem e_law_cup (X : K.In h) (G : h.Ns mainGlobals mg) (c : He.SaysD K79.faAll K79.fnAll K) : DefAt K mg "_law_cup" s_law_cup := by
  obtain ⟨fd, F⟩ := c.def_ 52 (d := K79.mkD "_law_cup" K79.s_law_cup) rfl
  exact ⟨⟨_, fd, F, He.glo_ok X G (c.fact 52 (f := .glo "_law_cup") rfl)⟩⟩
theorem e_law_roll (X : K.In h) (G : h.Ns mainGlobals mg) (c : He.SaysD K79.faAll K79.fnAll K) : DefAt K mg "_law_roll" s_law_roll := by
  obtain ⟨fd, F⟩ := c.def_ 53 (d := K79.mkD "_law_roll" K79.s_law_roll) rfl
  exact ⟨⟨_, fd, F, He.glo_ok X G (c.fact 53 (f := .glo "_law_roll") rfl)⟩⟩
theorem e_law_some (X : K.In h) (G : h.Ns mainGlobals mg) (c : He.SaysD K79.faAll K79.fnAll K) : DefAt K mg "_law_some" s_law_some := by
  obtain ⟨fd, F⟩ := c.def_ 54 (d := K79.mkD "_law_some" K79.s_law_some) rfl
  exact ⟨⟨_, fd, F, He.glo_ok X G (c.fact 54 (f := .glo "_law_some") rfl)⟩⟩
theorem e_law_tidy (X : K.In h) (G : h.Ns mainGlobals mg) (c : He.SaysD K79.faAll K79.fnAll K) : DefAt K mg "_law_tidy" s_law_tidy := by
  obtain ⟨fd, F⟩ := c.def_ 55 (d := K79.mkD "_law_tidy" K79.s_law_tidy) rfl
  exact ⟨⟨_, fd, F, He.glo_ok X G (c.fact 55 (f := .glo "_law_tidy") rfl)⟩⟩
theorem e_law_fold (X : K.In h) (G : h.Ns mainGlobals mg) (c : He.SaysD K79.faAll K79.fnAll K) : DefAt K mg "_law_fold" s_law_fold := by
  obtain ⟨fd, F⟩ := c.def_ 56 (d := K79.mkD "_law_fold" K79.s_law_fold) rfl
  exact ⟨⟨_, fd, F, He.glo_ok X G (c.fact 56 (f := .glo "_law_fold") rfl)⟩⟩
theorem e_law_folded (X : K.In h) (G : h.Ns mainGlobals mg) (c : He.SaysD K79.faAll K79.fnAll K) : DefAt K mg "_law_folded" s_law_folded := by
  obtain ⟨fd, F⟩ := c.def_ 57 (d := K79.mkD "_law_folded" K79.s_law_folded) rfl
  exact ⟨⟨_, fd, F, He.glo_ok X G (c.fact 57 (f := .glo "_law_folded") rfl)⟩⟩
theorem e_law_steps (X : K.In h) (G : h.Ns mainGlobals mg) (c : He.SaysD K79.faAll K79.fnAll K) : DefAt K mg "_law_steps" s_law_steps := by
  obtain ⟨fd, F⟩ := c.def_ 58 (d := K79.mkD "_law_steps" K79.s_law_steps) rfl
  exact ⟨⟨_, fd, F, He.glo_ok X G (c.fact 58 (f := .glo "_law_steps") rfl)⟩⟩
theorem e_law_folds (X : K.In h) (G : h.Ns mainGlobals mg) (c : He.SaysD K79.faAll K79.fnAll K) : DefAt K mg "_law_folds" s_law_folds := by
  obtain ⟨fd, F⟩ := c.def_ 59 (d := K79.mkD "_law_folds" K79.s_law_folds) rfl
  exact ⟨⟨_, fd, F, He.glo_ok X G (c.fact 59 (f := .glo "_law_folds") rfl)⟩⟩
theorem e_law_some_folds (X : K.In h) (G : h.Ns mainGlobals mg) (c : He.SaysD K79.faAll K79.fnAll K) : DefAt K mg "_law_some_folds" s_law_some_folds := by
  obtain ⟨fd, F⟩ := c.def_ 60 (d := K79.mkD "_law_some_folds" K79.s_law_some_folds) rfl
  exact ⟨⟨_, fd, F, He.glo_ok X G (c.fact 60 (f := .glo "_law_some_folds") rfl)⟩⟩
theorem e_law_like_row (X : K.In h) (G : h.Ns mainGlobals mg) (c : He.SaysD K79.faAll K79.fnAll K) : DefAt K mg "_law_like_row" s_law_like_row := by
  obtain ⟨fd, F⟩ := c.def_ 61 (d := K79.mkD "_law_like_row" K79.s_law_like_row) rfl
  exact ⟨⟨_, fd, F, He.glo_ok X G (c.fact 61 (f := .glo "_law_like_row") rfl)⟩⟩
theorem e_law_inked (X : K.In h) (G : h.Ns mainGlobals mg) (c : He.SaysD K79.faAll K79.fnAll K) : DefAt K mg "_law_inked" s_law_inked := by
  obtain ⟨fd, F⟩ := c.def_ 62 (d := K79.mkD "_law_inked" K79.s_law_inked) rfl
  exact ⟨⟨_, fd, F, He.glo_ok X G (c.fact 62 (f := .glo "_law_inked") rfl)⟩⟩
theorem e_law_lot (X : K.In h) (G : h.Ns mainGlobals mg) (c : He.SaysD K79.faAll K79.fnAll K) : DefAt K mg "_law_lot" s_law_lot := by
  obtain ⟨fd, F⟩ := c.def_ 63 (d := K79.mkD "_law_lot" K79.s_law_lot) rfl
  exact ⟨⟨_, fd, F, He.glo_ok X G (c.fact 63 (f := .glo "_law_lot") rfl)⟩⟩
theorem e_law_sums (X : K.In h) (G : h.Ns mainGlobals mg) (c : He.SaysD K79.faAll K79.fnAll K) : DefAt K mg "_law_sums" s_law_sums := by
  obtain ⟨fd, F⟩ := c.def_ 64 (d := K79.mkD "_law_sums" K79.s_law_sums) rfl
  exact ⟨⟨_, fd, F, He.glo_ok X G (c.fact 64 (f := .glo "_law_sums") rfl)⟩⟩
theorem e_law_lot_right (X : K.In h) (G : h.Ns mainGlobals mg) (c : He.SaysD K79.faAll K79.fnAll K) : DefAt K mg "_law_lot_right" s_law_lot_right := by
  obtain ⟨fd, F⟩ := c.def_ 65 (d := K79.mkD "_law_lot_right" K79.s_law_lot_right) rfl
  exact ⟨⟨_, fd, F, He.glo_ok X G (c.fact 65 (f := .glo "_law_lot_right") rfl)⟩⟩
theorem e_law_counts_right (X : K.In h) (G : h.Ns mainGlobals mg) (c : He.SaysD K79.faAll K79.fnAll K) : DefAt K mg "_law_counts_right" s_law_counts_right := by
  obtain ⟨fd, F⟩ := c.def_ 66 (d := K79.mkD "_law_counts_right" K79.s_law_counts_right) rfl
  exact ⟨⟨_, fd, F, He.glo_ok X G (c.fact 66 (f := .glo "_law_counts_right") rfl)⟩⟩
theorem e_law_pair_right (X : K.In h) (G : h.Ns mainGlobals mg) (c : He.SaysD K79.faAll K79.fnAll K) : DefAt K mg "_law_pair_right" s_law_pair_right := by
  obtain ⟨fd, F⟩ := c.def_ 67 (d := K79.mkD "_law_pair_right" K79.s_law_pair_right) rfl
  exact ⟨⟨_, fd, F, He.glo_ok X G (c.fact 67 (f := .glo "_law_pair_right") rfl)⟩⟩
theorem facts {P : Program} {w : World} {f : Addr} (X : K.In h) (G : h.Ns mainGlobals mg) (hfa : mg ("law" : Str) = some (.ref f)) (c : He.SaysD K79.faAll K79.fnAll K) :
    ∃ fd : FuncData, (∀ (s : Shared) (v : Value), BindsTo s fd ⟨[v], []⟩ [("_law_script", v)]) ∧ ∀ base : Heap, K.In base → base.Ns mainGlobals mg → FnOk P w K mg base CX0 8 f fd ["_law_script"] (spLaw K) := by
  obtain ⟨fd, F⟩ := c.def_ 68 (d := K79.mkD "law" K79.s_law) rfl
  have e := hfa.symm.trans (He.glo_ok X G (c.fact 68 (f := .glo "law") rfl))
  cases e
  have b := FunD.bindsA (ps := ["_law_script"]) F fun _ _ _ _ _ _ us hl => match us, hl with | [_], _ => rfl
  refine ⟨fd, fun s v => b s [v] rfl, fun base _ _ => ?_⟩
  have B := e_bi X G c
  have h_is_whole := f_is_whole (P := P) (w := w) (base := base) B (e_is_whole X G c)
  have h_is_tuple_of := f_is_tuple_of (P := P) (w := w) (base := base) B (e_is_tuple_of X G c)
  have h_fits_place := f_fits_place (P := P) (w := w) (base := base) B (e_fits_place X G c) h_is_whole
  have h_fits_drops := f_fits_drops (P := P) (w := w) (base := base) B (e_fits_drops X G c)
  have h_fits_crease := f_fits_crease (P := P) (w := w) (base := base) B (e_fits_crease X G c) h_is_whole
  have h_fits_folds := f_fits_folds (P := P) (w := w) (base := base) B (e_fits_folds X G c) h_is_tuple_of h_fits_crease
  have h_need_folds := f_need_folds (P := P) (w := w) (base := base) (e_need_folds X G c) h_fits_folds
  have h_strip_of := f_strip_of (P := P) (w := w) (base := base) B (e_strip_of X G c)
  have h_mirrored := f_mirrored (P := P) (w := w) (base := base) B (e_mirrored X G c)
  have h_added := f_added (P := P) (w := w) (base := base) B (e_added X G c) h_strip_of
  have h_folded_at := f_folded_at (P := P) (w := w) (base := base) B (e_folded_at X G c) h_added h_mirrored
  have h_fits_strip := f_fits_strip (P := P) (w := w) (base := base) B (e_fits_strip X G c) h_is_tuple_of h_fits_place h_fits_drops
  have h_need_strip := f_need_strip (P := P) (w := w) (base := base) B (e_need_strip X G c) h_fits_strip
  have h_need_place := f_need_place (P := P) (w := w) (base := base) B (e_need_place X G c) h_fits_place
  have h_strips_on := f_strips_on (P := P) (w := w) (base := base) B (e_strips_on X G c) h_folded_at
  have h_need_strips := f_need_strips (P := P) (w := w) (base := base) B (e_need_strips X G c) h_strips_on
  have h_folded_by := f_folded_by (P := P) (w := w) (base := base) B (e_folded_by X G c) h_need_strip h_need_folds h_need_strips
  have h_steps_in := f_steps_in (P := P) (w := w) (base := base) B (e_steps_in X G c)
  have h_sums_of := f_sums_of (P := P) (w := w) (base := base) B (e_sums_of X G c)
  have h_print_by := f_print_by (P := P) (w := w) (base := base) B (e_print_by X G c) h_steps_in h_sums_of h_strip_of
  have h_print_of := f_print_of (P := P) (w := w) (base := base) B (e_print_of X G c) h_need_place h_need_folds h_print_by
  have h_fits_lot := f_fits_lot (P := P) (w := w) (base := base) B (e_fits_lot X G c) h_is_tuple_of h_is_whole
  have h_need_lot := f_need_lot (P := P) (w := w) (base := base) B (e_need_lot X G c) h_fits_lot
  have h_inked := f_inked (P := P) (w := w) (base := base) B (e_inked X G c)
  have h_all_sums := f_all_sums (P := P) (w := w) (base := base) B (e_all_sums X G c)
  have h_sums_in := f_sums_in (P := P) (w := w) (base := base) B (e_sums_in X G c) h_all_sums h_steps_in
  have h_are_alike := f_are_alike (P := P) (w := w) (base := base) B (e_are_alike X G c) h_sums_in
  have h_need_few_folds := f_need_few_folds (P := P) (w := w) (base := base) B (e_need_few_folds X G c)
  have h_inked_by := f_inked_by (P := P) (w := w) (base := base) B (e_inked_by X G c) h_need_lot h_need_folds h_inked
  have h_sums_by := f_sums_by (P := P) (w := w) (base := base) B (e_sums_by X G c) h_need_folds h_sums_in
  have h_alike_by_places := f_alike_by_places (P := P) (w := w) (base := base) B (e_alike_by_places X G c) h_need_folds h_are_alike
  have h_form_in := f_form_in (P := P) (w := w) (base := base) B (e_form_in X G c) h_steps_in
  have h_are_one := f_are_one (P := P) (w := w) (base := base) B (e_are_one X G c) h_form_in
  have h_rows_alike := f_rows_alike (P := P) (w := w) (base := base) B (e_rows_alike X G c) h_need_folds h_are_one
  have h_greatest_in := f_greatest_in (P := P) (w := w) (base := base) B (e_greatest_in X G c) h_inked
  have h_greatest_lot := f_greatest_lot (P := P) (w := w) (base := base) B (e_greatest_lot X G c) h_need_lot h_need_folds h_greatest_in
  have h_comes_of_some := f_comes_of_some (P := P) (w := w) (base := base) B (e_comes_of_some X G c) h_need_lot h_need_folds h_greatest_in h_inked
  have h_holes_in := f_holes_in (P := P) (w := w) (base := base) B (e_holes_in X G c)
  have h_holes_of := f_holes_of (P := P) (w := w) (base := base) B (e_holes_of X G c) h_need_lot h_holes_in
  have h_inks_whole := f_inks_whole (P := P) (w := w) (base := base) B (e_inks_whole X G c) h_need_folds h_need_place h_inked h_holes_in
  have h_need_some_folds := f_need_some_folds (P := P) (w := w) (base := base) B (e_need_some_folds X G c) h_need_folds h_need_few_folds
  have h_odd_ways := f_odd_ways (P := P) (w := w) (base := base) B (e_odd_ways X G c) h_sums_in
  have h_usual_count := f_usual_count (P := P) (w := w) (base := base) B (e_usual_count X G c) h_need_some_folds h_sums_in
  have h_unusual_places := f_unusual_places (P := P) (w := w) (base := base) B (e_unusual_places X G c) h_need_some_folds h_odd_ways
  have h_grown := f_grown (P := P) (w := w) (base := base) B (e_grown X G c)
  have h_can_reach := f_can_reach (P := P) (w := w) (base := base) B (e_can_reach X G c)
  have h_steps_behind := f_steps_behind (P := P) (w := w) (base := base) B (e_steps_behind X G c) h_can_reach
  have h_longer_on := f_longer_on (P := P) (w := w) (base := base) B (e_longer_on X G c) h_steps_behind h_grown
  have h_tuples_of := f_tuples_of (P := P) (w := w) (base := base) B (e_tuples_of X G c) h_longer_on
  have h_shortest_to := f_shortest_to (P := P) (w := w) (base := base) B (e_shortest_to X G c) h_tuples_of
  have h_goal_of := f_goal_of (P := P) (w := w) (base := base) B (e_goal_of X G c) h_sums_in
  have h_fewest_folds := f_fewest_folds (P := P) (w := w) (base := base) B (e_fewest_folds X G c) h_need_folds h_need_few_folds h_goal_of h_shortest_to
  have h_law_tidy := f_law_tidy (P := P) (w := w) (base := base) B (e_law_tidy X G c)
  have h_law_fold := f_law_fold (P := P) (w := w) (base := base) B (e_law_fold X G c) h_law_tidy
  have h_law_folded := f_law_folded (P := P) (w := w) (base := base) B (e_law_folded X G c) h_law_fold
  have h_law_steps := f_law_steps (P := P) (w := w) (base := base) B (e_law_steps X G c)
  have h_law_sums := f_law_sums (P := P) (w := w) (base := base) B (e_law_sums X G c) h_law_steps
  have h_law_inked := f_law_inked (P := P) (w := w) (base := base) B (e_law_inked X G c) h_law_folded
  have h_law_counts_right := f_law_counts_right (P := P) (w := w) (base := base) B (e_law_counts_right X G c) h_sums_by h_usual_count h_unusual_places h_law_sums h_print_of h_inked_by
  have h_law_pair_right := f_law_pair_right (P := P) (w := w) (base := base) B (e_law_pair_right X G c) h_law_sums h_alike_by_places h_rows_alike h_law_inked
  have h_law_roll := f_law_roll (P := P) (w := w) (base := base) B (e_law_roll X G c)
  have h_law_some := f_law_some (P := P) (w := w) (base := base) B (e_law_some X G c) h_law_roll
  have h_law_folds := f_law_folds (P := P) (w := w) (base := base) B (e_law_folds X G c) h_law_roll h_law_some
  have h_law_some_folds := f_law_some_folds (P := P) (w := w) (base := base) B (e_law_some_folds X G c) h_law_folds h_law_roll
  have h_law_lot := f_law_lot (P := P) (w := w) (base := base) B (e_law_lot X G c) h_law_roll
  have h_law_like_row := f_law_like_row (P := P) (w := w) (base := base) B (e_law_like_row X G c) h_law_roll
  have h_law_lot_right := f_law_lot_right (P := P) (w := w) (base := base) B (e_law_lot_right X G c) h_law_roll h_inked_by h_law_inked h_folded_by h_greatest_lot h_comes_of_some h_holes_of h_inks_whole
  have h_law_cup := f_law_cup (P := P) (w := w) (base := base) B (e_law_cup X G c)
  exact ok_law B F h_law_cup h_law_some_folds h_law_lot h_law_lot_right h_law_counts_right h_fewest_folds h_law_like_row h_law_some h_law_pair_right h_inked_by h_sums_by h_alike_by_places h_usual_count h_unusual_places h_rows_alike
end
end L2.K79
open PySem PySem.W PySem.Calls PyProof.Rows
theorem PySem.Challenge.cw_wetfolds_k79_whole_inked_lots_beside_fol_holds : PySem.Challenge.rw_wetfolds_k79_whole_inked_lots_beside_fol.Holds := by
  w_on; o_law
  refine HandSHeadRun.head_any (r := OpenLaw.row PySem.Challenge.rw_wetfolds_k79_whole_inked_lots_beside_fol) (q := view (OpenLaw.row PySem.Challenge.rw_wetfolds_k79_whole_inked_lots_beside_fol).prog [104]) (H := K79.hk) (ob := K79.ob) (M := 6000) (loose := K79.loAll) (d := HandSHeadRun.topDef (OpenLaw.row PySem.Challenge.rw_wetfolds_k79_whole_inked_lots_beside_fol).prog 104) (kwd := []) K79.ob_eq
    (by kernel_rfl) (fun s => by kernel_rfl) K79.run (by kernel_rfl) (by kernel_rfl) (by kernel_rfl) (by rfl) (by first | assumption | decide +kernel) (by decide +kernel) ⟨rfl, rfl, rfl, rfl, rfl, by decide +kernel⟩ ?hw ?hc
  case hw => w_witness2
  case hc =>
    refine L2.walk_ofE (l := PySem.Challenge.rw_wetfolds_k79_whole_inked_lots_beside_fol) (n := 63) (k := 8) (x := "_law_script") (CX := L2.CX0) rfl (by decide) (by kernel_rfl) ⟨rfl, by decide, by decide⟩ ?F (fun _ _ _ _ z => z)
    intro w mg fa h Y G hmg0
    obtain ⟨K, KX, c⟩ := Y
    have hmg : mg ("law" : PySem.Str) = some (.ref fa) := by
      have e : (HandSHeadRun.topDef (OpenLaw.row PySem.Challenge.rw_wetfolds_k79_whole_inked_lots_beside_fol).prog 104).name = ("law" : PySem.Str) := by kernel_rfl
      rw [← e]
      exact hmg0
    obtain ⟨fd, hb, hF⟩ := L2.K79.facts (P := (PySem.Challenge.rw_wetfolds_k79_whole_inked_lots_beside_fol).prog) (w := w) KX G hmg c
    exact ⟨K, fd, L2.K79.spLaw K, KX, hb, fun H a ns hl _ hS => ⟨a, ns, rfl, hS, by omega, fun _ => rfl⟩, hF⟩

