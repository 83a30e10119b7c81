import PyProof.Rows.All
import Wide.All
import OpenK.AllK
import Wide.FinOn
import HandS.ForMost
import HandS.Codes
import KE.KStateDown
import HandS.EndBits
import HandS.Head0
import HandS.Head1
import HandS.Head2
import HandS.HeadHook1
import KE.SortData
import HandS.SetFor
import HandS.TupSets
import HandS.Set
import HandS.SetKeys
import KE.KDictKeyed
import PyProof.EqKinds
import PyProof.MaxThree
import HandS.Zip
import HandS.Wide
import HandS.NoneIn
import HandS.Evl
import HandS.TupAny
import HandS.More
import HandS.HeadEnd
import PySem.Challenge.RW_usewarden_k58_whole_ties_stand_in_papers
section
set_option Elab.async false
set_option linter.all false
set_option maxRecDepth 100000
namespace Uw
open PySem PySem.Spec PyProof.Rows L2
/-! the text by places -/
def top (i : Nat) : Stmt := PySem.Challenge.pw_usewarden_k58_whole_ties_stand_in_papers.main.body.getD i (.Pass ⟨0, 0, 0, 0⟩)
abbrev s_next_room : Stmt := top 1
abbrev s_has_slot : Stmt := top 3
abbrev s_with_slot : Stmt := top 4
abbrev s_without_slot : Stmt := top 5
abbrev s_sums_in : Stmt := top 6
abbrev s_has_room : Stmt := top 7
abbrev s_copied_slot : Stmt := top 8
abbrev s_slots_behind : Stmt := top 9
abbrev s_texts_at : Stmt := top 10
abbrev s_room_behind : Stmt := top 11
abbrev s_behind_at : Stmt := top 12
abbrev s_begun_by_open : Stmt := top 13
abbrev s_begun_by_tie : Stmt := top 14
abbrev s_begins_at : Stmt := top 15
abbrev s_rows_behind : Stmt := top 16
abbrev s_all_behind : Stmt := top 18
abbrev s_paper_of : Stmt := top 19
abbrev s_lines_of_step : Stmt := top 21
abbrev s_lines_of : Stmt := top 22
abbrev s_names_in : Stmt := top 23
abbrev s_names_of : Stmt := top 24
abbrev s_Marker_init : Stmt := inClass (top 26) 0
abbrev s_Marker_next_line : Stmt := inClass (top 26) 1
abbrev s_Marker_marked : Stmt := inClass (top 26) 2
abbrev s_Marker_marked_step : Stmt := inClass (top 26) 3
abbrev s_put_lend : Stmt := top 27
abbrev s_put_if : Stmt := top 28
abbrev s_put_while : Stmt := top 29
abbrev s_put_steps : Stmt := top 30
abbrev s_coded : Stmt := top 31
abbrev s_code_of : Stmt := top 32
abbrev s_turned_code : Stmt := top 33
abbrev s_law_cell_at : Stmt := top 35
abbrev s_law_words : Stmt := top 36
abbrev s_law_step : Stmt := top 37
abbrev s_law_put : Stmt := top 38
abbrev s_law_close : Stmt := top 39
abbrev s_law_program : Stmt := top 40
abbrev s_law_rule : Stmt := top 41
abbrev s_law_slots : Stmt := top 42
abbrev s_law_next : Stmt := top 43
abbrev s_law_code : Stmt := top 44
abbrev s_law_inputs : Stmt := top 45
abbrev s_law_pairs_stand : Stmt := top 46
abbrev s_law_stands : Stmt := top 47
abbrev s_law_moved : Stmt := top 48
abbrev s_law_tied : Stmt := top 49
abbrev s_law_known : Stmt := top 50
abbrev s_law_run : Stmt := top 51
abbrev s_law : Stmt := top 52
end Uw
end
section
set_option Elab.async false
set_option linter.all false
set_option maxRecDepth 100000
set_option maxHeartbeats 0
namespace Uw
open PySem PySem.Spec PyProof.Rows L2
def fn : List He.FnD := [
  ⟨("next_room", none), "next_room", "next_room", C8.fnArgs s_next_room, C8.fnBody s_next_room, C8.fnScope s_next_room⟩,
  ⟨("has_slot", none), "has_slot", "has_slot", C8.fnArgs s_has_slot, C8.fnBody s_has_slot, C8.fnScope s_has_slot⟩,
  ⟨("with_slot", none), "with_slot", "with_slot", C8.fnArgs s_with_slot, C8.fnBody s_with_slot, C8.fnScope s_with_slot⟩,
  ⟨("without_slot", none), "without_slot", "without_slot", C8.fnArgs s_without_slot, C8.fnBody s_without_slot, C8.fnScope s_without_slot⟩,
  ⟨("sums_in", none), "sums_in", "sums_in", C8.fnArgs s_sums_in, C8.fnBody s_sums_in, C8.fnScope s_sums_in⟩,
  ⟨("has_room", none), "has_room", "has_room", C8.fnArgs s_has_room, C8.fnBody s_has_room, C8.fnScope s_has_room⟩,
  ⟨("copied_slot", none), "copied_slot", "copied_slot", C8.fnArgs s_copied_slot, C8.fnBody s_copied_slot, C8.fnScope s_copied_slot⟩,
  ⟨("slots_behind", none), "slots_behind", "slots_behind", C8.fnArgs s_slots_behind, C8.fnBody s_slots_behind, C8.fnScope s_slots_behind⟩,
  ⟨("texts_at", none), "texts_at", "texts_at", C8.fnArgs s_texts_at, C8.fnBody s_texts_at, C8.fnScope s_texts_at⟩,
  ⟨("room_behind", none), "room_behind", "room_behind", C8.fnArgs s_room_behind, C8.fnBody s_room_behind, C8.fnScope s_room_behind⟩,
  ⟨("behind_at", none), "behind_at", "behind_at", C8.fnArgs s_behind_at, C8.fnBody s_behind_at, C8.fnScope s_behind_at⟩,
  ⟨("begun_by_open", none), "begun_by_open", "begun_by_open", C8.fnArgs s_begun_by_open, C8.fnBody s_begun_by_open, C8.fnScope s_begun_by_open⟩,
  ⟨("begun_by_tie", none), "begun_by_tie", "begun_by_tie", C8.fnArgs s_begun_by_tie, C8.fnBody s_begun_by_tie, C8.fnScope s_begun_by_tie⟩,
  ⟨("begins_at", none), "begins_at", "begins_at", C8.fnArgs s_begins_at, C8.fnBody s_begins_at, C8.fnScope s_begins_at⟩,
  ⟨("rows_behind", none), "rows_behind", "rows_behind", C8.fnArgs s_rows_behind, C8.fnBody s_rows_behind, C8.fnScope s_rows_behind⟩,
  ⟨("all_behind", none), "all_behind", "all_behind", C8.fnArgs s_all_behind, C8.fnBody s_all_behind, C8.fnScope s_all_behind⟩,
  ⟨("paper_of", none), "paper_of", "paper_of", C8.fnArgs s_paper_of, C8.fnBody s_paper_of, C8.fnScope s_paper_of⟩,
  ⟨("lines_of_step", none), "lines_of_step", "lines_of_step", C8.fnArgs s_lines_of_step, C8.fnBody s_lines_of_step, C8.fnScope s_lines_of_step⟩,
  ⟨("lines_of", none), "lines_of", "lines_of", C8.fnArgs s_lines_of, C8.fnBody s_lines_of, C8.fnScope s_lines_of⟩,
  ⟨("names_in", none), "names_in", "names_in", C8.fnArgs s_names_in, C8.fnBody s_names_in, C8.fnScope s_names_in⟩,
  ⟨("names_of", none), "names_of", "names_of", C8.fnArgs s_names_of, C8.fnBody s_names_of, C8.fnScope s_names_of⟩,
  ⟨("Marker", some "__init__"), "__init__", "Marker.__init__", C8.fnArgs s_Marker_init, C8.fnBody s_Marker_init, C8.fnScope s_Marker_init⟩,
  ⟨("Marker", some "next_line"), "next_line", "Marker.next_line", C8.fnArgs s_Marker_next_line, C8.fnBody s_Marker_next_line, C8.fnScope s_Marker_next_line⟩,
  ⟨("Marker", some "marked"), "marked", "Marker.marked", C8.fnArgs s_Marker_marked, C8.fnBody s_Marker_marked, C8.fnScope s_Marker_marked⟩,
  ⟨("Marker", some "marked_step"), "marked_step", "Marker.marked_step", C8.fnArgs s_Marker_marked_step, C8.fnBody s_Marker_marked_step, C8.fnScope s_Marker_marked_step⟩,
  ⟨("put_lend", none), "put_lend", "put_lend", C8.fnArgs s_put_lend, C8.fnBody s_put_lend, C8.fnScope s_put_lend⟩,
  ⟨("put_if", none), "put_if", "put_if", C8.fnArgs s_put_if, C8.fnBody s_put_if, C8.fnScope s_put_if⟩,
  ⟨("put_while", none), "put_while", "put_while", C8.fnArgs s_put_while, C8.fnBody s_put_while, C8.fnScope s_put_while⟩,
  ⟨("put_steps", none), "put_steps", "put_steps", C8.fnArgs s_put_steps, C8.fnBody s_put_steps, C8.fnScope s_put_steps⟩,
  ⟨("coded", none), "coded", "coded", C8.fnArgs s_coded, C8.fnBody s_coded, C8.fnScope s_coded⟩,
  ⟨("code_of", none), "code_of", "code_of", C8.fnArgs s_code_of, C8.fnBody s_code_of, C8.fnScope s_code_of⟩,
  ⟨("turned_code", none), "turned_code", "turned_code", C8.fnArgs s_turned_code, C8.fnBody s_turned_code, C8.fnScope s_turned_code⟩,
  ⟨("_law_cell_at", none), "_law_cell_at", "_law_cell_at", C8.fnArgs s_law_cell_at, C8.fnBody s_law_cell_at, C8.fnScope s_law_cell_at⟩,
  ⟨("_law_words", none), "_law_words", "_law_words", C8.fnArgs s_law_words, C8.fnBody s_law_words, C8.fnScope s_law_words⟩,
  ⟨("_law_step", none), "_law_step", "_law_step", C8.fnArgs s_law_step, C8.fnBody s_law_step, C8.fnScope s_law_step⟩,
  ⟨("_law_put", none), "_law_put", "_law_put", C8.fnArgs s_law_put, C8.fnBody s_law_put, C8.fnScope s_law_put⟩,
  ⟨("_law_close", none), "_law_close", "_law_close", C8.fnArgs s_law_close, C8.fnBody s_law_close, C8.fnScope s_law_close⟩,
  ⟨("_law_program", none), "_law_program", "_law_program", C8.fnArgs s_law_program, C8.fnBody s_law_program, C8.fnScope s_law_program⟩,
  ⟨("_law_rule", none), "_law_rule", "_law_rule", C8.fnArgs s_law_rule, C8.fnBody s_law_rule, C8.fnScope s_law_rule⟩,
  ⟨("_law_slots", none), "_law_slots", "_law_slots", C8.fnArgs s_law_slots, C8.fnBody s_law_slots, C8.fnScope s_law_slots⟩,
  ⟨("_law_next", none), "_law_next", "_law_next", C8.fnArgs s_law_next, C8.fnBody s_law_next, C8.fnScope s_law_next⟩,
  ⟨("_law_code", none), "_law_code", "_law_code", C8.fnArgs s_law_code, C8.fnBody s_law_code, C8.fnScope s_law_code⟩,
  ⟨("_law_inputs", none), "_law_inputs", "_law_inputs", C8.fnArgs s_law_inputs, C8.fnBody s_law_inputs, C8.fnScope s_law_inputs⟩,
  ⟨("_law_pairs_stand", none), "_law_pairs_stand", "_law_pairs_stand", C8.fnArgs s_law_pairs_stand, C8.fnBody s_law_pairs_stand, C8.fnScope s_law_pairs_stand⟩,
  ⟨("_law_stands", none), "_law_stands", "_law_stands", C8.fnArgs s_law_stands, C8.fnBody s_law_stands, C8.fnScope s_law_stands⟩,
  ⟨("_law_moved", none), "_law_moved", "_law_moved", C8.fnArgs s_law_moved, C8.fnBody s_law_moved, C8.fnScope s_law_moved⟩,
  ⟨("_law_tied", none), "_law_tied", "_law_tied", C8.fnArgs s_law_tied, C8.fnBody s_law_tied, C8.fnScope s_law_tied⟩,
  ⟨("_law_known", none), "_law_known", "_law_known", C8.fnArgs s_law_known, C8.fnBody s_law_known, C8.fnScope s_law_known⟩,
  ⟨("_law_run", none), "_law_run", "_law_run", C8.fnArgs s_law_run, C8.fnBody s_law_run, C8.fnScope s_law_run⟩,
  ⟨("law", none), "law", "law", C8.fnArgs s_law, C8.fnBody s_law, C8.fnScope s_law⟩]
def fa : List He.Fa := [
  .glo "next_room",
  .glo "has_slot",
  .glo "with_slot",
  .glo "without_slot",
  .glo "sums_in",
  .glo "has_room",
  .glo "copied_slot",
  .glo "slots_behind",
  .glo "texts_at",
  .glo "room_behind",
  .glo "behind_at",
  .glo "begun_by_open",
  .glo "begun_by_tie",
  .glo "begins_at",
  .glo "rows_behind",
  .glo "all_behind",
  .glo "paper_of",
  .glo "lines_of_step",
  .glo "lines_of",
  .glo "names_in",
  .glo "names_of",
  .glo "put_lend",
  .glo "put_if",
  .glo "put_while",
  .glo "put_steps",
  .glo "coded",
  .glo "code_of",
  .glo "turned_code",
  .glo "_law_cell_at",
  .glo "_law_words",
  .glo "_law_step",
  .glo "_law_put",
  .glo "_law_close",
  .glo "_law_program",
  .glo "_law_rule",
  .glo "_law_slots",
  .glo "_law_next",
  .glo "_law_code",
  .glo "_law_inputs",
  .glo "_law_pairs_stand",
  .glo "_law_stands",
  .glo "_law_moved",
  .glo "_law_tied",
  .glo "_law_known",
  .glo "_law_run",
  .glo "law",
  .glo "Marker",
  .free "len",
  .free "range",
  .free "sorted",
  .free "set",
  .free "tuple",
  .free "any",
  .free "list",
  .free "str",
  .free "int",
  .free "max",
  .free "min",
  .free "isinstance",
  .keep "next_room",
  .keep "has_slot",
  .keep "with_slot",
  .keep "without_slot",
  .keep "sums_in",
  .keep "has_room",
  .keep "copied_slot",
  .keep "slots_behind",
  .keep "texts_at",
  .keep "room_behind",
  .keep "behind_at",
  .keep "begun_by_open",
  .keep "begun_by_tie",
  .keep "begins_at",
  .keep "rows_behind",
  .keep "all_behind",
  .keep "paper_of",
  .keep "lines_of_step",
  .keep "lines_of",
  .keep "names_in",
  .keep "names_of",
  .keep "put_lend",
  .keep "put_if",
  .keep "put_while",
  .keep "put_steps",
  .keep "coded",
  .keep "code_of",
  .keep "turned_code",
  .keep "_law_cell_at",
  .keep "_law_words",
  .keep "_law_step",
  .keep "_law_put",
  .keep "_law_close",
  .keep "_law_program",
  .keep "_law_rule",
  .keep "_law_slots",
  .keep "_law_next",
  .keep "_law_code",
  .keep "_law_inputs",
  .keep "_law_pairs_stand",
  .keep "_law_stands",
  .keep "_law_moved",
  .keep "_law_tied",
  .keep "_law_known",
  .keep "_law_run",
  .keep "law",
  .keep "Marker",
  .cls "Marker",
  .mkr "Marker",
  .meth "Marker" "next_line",
  .meth "Marker" "marked",
  .meth "Marker" "marked_step",
  .noat "Marker" "slots",
  .noat "Marker" "line",
  .noat "Marker" "lent"]
def names : List PySem.Str := (["next_room", "has_slot", "with_slot", "without_slot", "sums_in", "has_room", "copied_slot", "slots_behind", "texts_at", "room_behind", "behind_at", "begun_by_open", "begun_by_tie", "begins_at", "rows_behind", "all_behind", "paper_of", "lines_of_step", "lines_of", "names_in", "names_of", "put_lend", "put_if", "put_while", "put_steps", "coded", "code_of", "turned_code", "_law_cell_at", "_law_words"] : List PySem.Str) ++ (["_law_step", "_law_put", "_law_close", "_law_program", "_law_rule", "_law_slots", "_law_next", "_law_code", "_law_inputs", "_law_pairs_stand", "_law_stands", "_law_moved", "_law_tied", "_law_known", "_law_run", "Marker"] : List PySem.Str)
abbrev R : PySem.W.OpenRow := PySem.W.OpenLaw.row PySem.Challenge.rw_usewarden_k58_whole_ties_stand_in_papers
abbrev hk : PySem.W.Hook := He.hookE 5 fa fn
def ob (s : PySem.W.SharedT) : He.Al := He.obsG 5 fa fn (HandSHeadRun.getT s)
theorem ob_eq (s : PySem.W.SharedT) : ob s = hk.obs s.abs := He.obsG_eq (HandSHeadRun.getT_eq s)
theorem run (w : World) : HandSHeadRun.RunEq R (PySem.W.view R.prog [52]) hk ob 3000 names w := by
  intro os
  kernel_rfl
end Uw
end
section
set_option Elab.async false
set_option linter.all false
set_option maxRecDepth 100000
set_option maxHeartbeats 4000000
namespace Uw
open PySem PySem.Spec PyProof.Rows L2
/-! ### sorting of tuples of ints of any arity (no order is told, the contents alone) -/
/-- an address and the ints that its tuple holds -/
abbrev AT := Addr × List Int
abbrev encT (p : AT) : PyData := .tuple (p.2.map .int)
theorem encT_depth (p : AT) : (encT p).depth = 1 := by
  show PyData.depthAll (p.2.map .int) + 1 = 1
  rw [PySem.W.depth_ints]
theorem encT_alike (p q : AT) : PySem.W.alike (encT p) (encT q) = true := by
  show PySem.W.alike (.tuple _) (.tuple _) = true
  unfold PySem.W.alike
  exact PySem.W.alike_ints _ _
theorem encT_allAlike (L : List AT) : PySem.W.AllAlike (L.map encT) := PySem.W.AllAlike.of fun b b' => encT_alike b b'
theorem encT_sortable {L : List AT} (h : ∀ p ∈ L, p.2 ≠ []) : PySem.W.Sortable (L.map encT) := .inl fun d hd => by
  obtain ⟨p, hp, rfl⟩ := List.mem_map.mp hd
  obtain ⟨a, ns⟩ := p
  cases ns with
  | nil => exact absurd rfl (h _ hp)
  | cons x r => exact ⟨.int x, r.map .int, rfl⟩
theorem eachRef : ∀ (L : List AT), PySem.W.EachIs (fun (v : Value) (p : AT) => v = .ref p.1) (L.map fun p => Value.ref p.1) L
  | [] => .nil
  | p :: r => .cons rfl (eachRef r)
theorem eachRef_out : ∀ {out : List Value} {L : List AT}, PySem.W.EachIs (fun (v : Value) (p : AT) => v = .ref p.1) out L → out = L.map fun p => Value.ref p.1
  | _, _, .nil => rfl
  | _, _, .cons h t => by rw [h, eachRef_out t]; rfl
theorem each_of_mem {α β : Type} {S : α → β → Prop} {f : β → α} : ∀ {L : List β}, (∀ p ∈ L, S (f p) p) → PySem.W.EachIs S (L.map f) L
  | [], _ => .nil
  | p :: r, h => .cons (h p List.mem_cons_self) (each_of_mem fun q hq => h q (List.mem_cons_of_mem _ hq))
theorem dpAll_ints (K : PySem.W.Frag) (H : Hp) : ∀ ns : List Int, DpAll K H (ns.map V.int) (ns.map PyData.int)
  | [] => .nil
  | n :: r => .cons (.int n) (dpAll_ints K H r)
section
variable {X : Cx}
def rSortTu (K : PySem.W.Frag) : List V → Hp → VK → Prop := fun vs H Q => ∃ (a : Addr) (L : List AT), vs = [V.ref a] ∧ SqL K H a (L.map fun p => V.ref p.1) ∧
  (∀ p ∈ L, p.2 ≠ [] ∧ SqT K H p.1 (p.2.map V.int)) ∧
  ∀ (L' : List AT) (p : Addr), L'.Perm L → H p = none → Q (.ref p) (upd H p (.lst (L'.map fun q => V.ref q.1)))
theorem cr_sortTu (hu : X.A.units + 64 < cLine) : CallR X (.builtin "sorted") (rSortTu X.K) := by
  intro pins s σ H vs us Q I r h
  obtain ⟨a, L, rfl, hl, hk, q⟩ := h
  rw [Vals.ref1 r]
  obtain ⟨its, rv, pl, hz⟩ := I.list hl
  rw [List.length_map] at hz
  have hits := refs_of_vals rv
  subst hits
  have er : PySem.W.EachIs (fun v (b : AT) => ∃ as, Reads s.heap v (encT b) as) (L.map fun p => Value.ref p.1) L := each_of_mem (f := fun p : AT => Value.ref p.1) fun p hp =>
    Dp.reads I (encT p) (.ref p.1) (.ref p.1) (.tup (hk p hp).2 (dpAll_ints _ _ _)) rfl
  refine PySem.W.sorted_data (enc := encT) pl.isList (eachRef L) er (encT_allAlike L) (encT_sortable fun p hp => (hk p hp).1) hz (fun b _ => by rw [encT_depth]; omega) fun out _ eo => ?_
  have ho := eachRef_out eo
  obtain ⟨c, hc⟩ := sortedAll_at s.heap (L.map fun p => Value.ref p.1) (List.toArray out)
  have pm : (L.mergeSort (PySem.W.dataLe false encT)).Perm L := List.mergeSort_perm _ _
  have hn : H (s.heap.objs.size + 1) = none := I.hok.fresh (Nat.le_succ _)
  refine ⟨.ref (s.heap.objs.size + 1), upd H (s.heap.objs.size + 1) (.lst ((L.mergeSort (PySem.W.dataLe false encT)).map fun q => V.ref q.1)),
    I.laid (t' := s.toks) (fun b o e => sortedAll_old e) (Nat.le_succ _) ⟨?_, out, c, ?_, hc⟩, rfl, q _ _ pm hn⟩
  · rw [List.length_map, pm.length_eq]; exact hz
  · rw [ho]; exact vals_of_refs _
end
end Uw
end
section
set_option Elab.async false
set_option linter.all false
set_option maxRecDepth 100000
set_option maxHeartbeats 4000000
namespace Uw
open PySem PySem.Spec PyProof.Rows L2
theorem perm_map_back {α β : Type} {f : β → α} {l1 l2 : List α} (p : l1.Perm l2) : ∀ L : List β, l2 = L.map f → ∃ L1 : List β, L1.Perm L ∧ l1 = L1.map f := by
  induction p with
  | nil =>
    intro L e
    cases L with
    | nil => exact ⟨[], .nil, rfl⟩
    | cons y r => cases e
  | cons x _ ih =>
    intro L e
    cases L with
    | nil => cases e
    | cons y r =>
      injection e with e1 e2
      obtain ⟨L1, q, h⟩ := ih r e2
      exact ⟨y :: L1, q.cons y, by rw [h, e1, List.map_cons]⟩
  | swap x y l =>
    intro L e
    cases L with
    | nil => cases e
    | cons y1 r =>
      cases r with
      | nil => cases e
      | cons y2 r =>
        injection e with e1 e2
        injection e2 with e2 e3
        exact ⟨y2 :: y1 :: r, .swap y1 y2 r, by rw [e1, e2, e3, List.map_cons, List.map_cons]⟩
  | trans _ _ ih1 ih2 =>
    intro L e
    obtain ⟨L1, q1, h1⟩ := ih2 L e
    obtain ⟨L2, q2, h2⟩ := ih1 L1 h1
    exact ⟨L2, q2.trans q1, h2⟩
section
variable {P : Program} {w : World} {A : Around} {E : Value → Shared → Prop} {s : Shared}
/-- sorted(a set), once what it holds is collected: data of one kind -/
theorem sorted_set_data {β : Type} {R : Value → β → Prop} {enc : β → PyData} {a : Addr} {es : Array (Int × Value)} {ep : Nat} {t : SetTable} {L : List β} {f : β → Value} {Q : Value → Shared → Prop} (hh : A.handled = none)
    (ha : SetAt s.heap a es ep t) (hf : t.fits es.size = true) (hb : es.size < scanBound) (hr : Ris t.place.toList) (hl : w.params.followText "set-order" = true ∨ t.led = true)
    (hes : es.toList.map (·.2) = L.map f) (hR : ∀ b, b ∈ L → R (f b) b)
    (hrd : ∀ h' : Heap, (∀ b o, s.heap.get? b = some o → h'.get? b = some o) → ∀ b ∈ L, Reads h' (f b) (enc b) [])
    (hal : ∀ b b', PySem.W.alike (enc b) (enc b') = true) (hk : ∀ L' : List β, L'.Perm L → PySem.W.Sortable (L'.map enc)) (hu : ∀ b, A.units + 2 + (enc b).depth < cLine)
    (hQ : ∀ s' p (out : Array Value) (c : Nat) (L' : List β), (∀ b o, s.heap.get? b = some o → s'.heap.get? b = some o) → s'.gens = s.gens → s'.os = s.os → s.heap.objs.size ≤ p →
      s'.heap.get? p = some (seqObj "list" out c) → PySem.W.EachIs R out.toList L' → L'.Perm L → Q (.ref p) s') :
    wpAny (model P w) A (call (.builtin "sorted") [.ref a]) Q E s := by
  refine Calls.call_function_entry kind_sorted plain_sorted entry_sorted (args_sorted1 _) ?_
  unfold Builtin.«sorted»
  refine wpAny_bind (m := checkCount "sorted" 1 1 _) (wpAny_pure ?_)
  refine wpAny_bind (collect_set (A := A.in1) hh ha hf hb hr hl fun s1 vs k1 hz g1 o1 pm => ?_)
  rw [hes] at pm
  obtain ⟨L1, pm1, rfl⟩ := perm_map_back pm L rfl
  have hlen : L1.length < scanBound := by
    have e := congrArg List.length hes
    rw [List.length_map, List.length_map, Array.length_toList] at e
    rw [pm1.length_eq, ← e]; exact hb
  have hsz : (L1.map f).length ≤ sizeLine := by
    rw [List.length_map, sizeLine_eq]; unfold scanBound at hlen; omega
  refine wpAny_bind (wpAny_newList ?_ hsz)
  have hoL : (s1.heap.push (seqObj "list" (L1.map f).toArray 0)).get? s1.heap.objs.size = some (seqObj "list" (L1.map f).toArray 0) := Heap.get?_push_size _ rfl
  have er : PySem.W.EachIs (fun v (b : β) => ∃ as, Reads (s1.heap.push (seqObj "list" (L1.map f).toArray 0)) v (enc b) as ∧ s1.heap.objs.size ∉ as) (L1.map f) L1 := each_of_mem fun b hb => by
    exact ⟨[], hrd (s1.heap.push (seqObj "list" (L1.map f).toArray 0)) (fun b o e => Heap.get?_push_of_some _ (k1 b o e)) b (pm1.mem_iff.mp hb), fun z => nomatch z⟩
  refine wpAny_bind (wpAny_holding (PySem.W.list_sort_data (s := { s1 with heap := s1.heap.push (seqObj "list" (L1.map f).toArray 0) }) (R := R) hoL (each_of_mem fun b hb => hR b (pm1.mem_iff.mp hb)) er
    (PySem.W.AllAlike.of hal) (hk L1 pm1) (by rw [List.length_map] at hsz; exact hsz) (fun b _ => by have := hu b; show A.units + 1 + 1 + _ < _; omega) fun out _ eo => ?_))
  obtain ⟨c, hc⟩ := sortedHeap_at (vs := L1.map f) (out := List.toArray out) hoL
  refine wpAny_pure ⟨_, rfl, hQ _ s1.heap.objs.size (List.toArray out) c (L1.mergeSort (PySem.W.dataLe false enc)) (fun b u e => ?_) g1 o1 hz hc (by simpa using eo) ((List.mergeSort_perm _ _).trans pm1)⟩
  have q := k1 b u e
  have hlt := Heap.lt_size q
  show (sortedHeap (s1.heap.push (seqObj "list" (L1.map f).toArray 0)) s1.heap.objs.size (L1.map f) (List.toArray out)).get? b = some u
  rw [sortedHeap_old (Nat.ne_of_lt hlt) (by rw [size_push']; exact Nat.lt_succ_of_lt hlt)]
  exact Heap.get?_push_of_some _ q
end
theorem readsAll_ints {h : Heap} : ∀ {vs : List Value} {ns : List Int}, IntsAre vs ns → ReadsAll h vs (ns.map .int) []
  | _, _, .nil => .nil
  | _, _, .cons n t r => .cons (as := []) (bs := []) (.int n t) (readsAll_ints r)
theorem reads_isT {P : Program} {w : World} {h : Heap} {k : List Int} {b : Addr} (x : IsT P w h k b) : Reads h (.ref b) (.tuple (k.map .int)) [] := by
  obtain ⟨o, items, n, ho, hc, hd, hi⟩ := x
  exact .tuple ho hc hd (readsAll_ints (ints_of_items hi))
section
variable {X : Cx}
/-- sorted(a set of tuples of ints): a new list of them, in some order -/
def rSortSetTu (K : PySem.W.Frag) (P : Program) (w : World) : List V → Hp → VK → Prop := fun vs H Q => ∃ (a : Addr) (L : List AT), vs = [V.ref a] ∧ H a = some (SetTO P w a L) ∧
  (∀ p ∈ L, p.2 ≠ [] ∧ SqT K H p.1 (p.2.map V.int)) ∧
  ∀ (L' : List AT) (p : Addr), L'.Perm L → L'.length < 64 → H p = none → Q (.ref p) (upd H p (.lst (L'.map fun q => V.ref q.1)))
theorem cr_sortSetTu (hc : X.calm = true) (hu : X.A.units + 64 < cLine) : CallR X (.builtin "sorted") (rSortSetTu X.K X.prog X.w) := by
  intro pins s σ H vs us Q I r h
  obtain ⟨a, L, rfl, ha, hk, q⟩ := h
  have R0 : SetT0 X.prog X.w s.heap a L := (I.hok a _ ha).1
  obtain ⟨es, ep, t, R⟩ := R0.full fun p hp => I.isT (hk p hp).2
  rw [Vals.ref1 r]
  have hsz := R.size
  have hfew := R.few
  obtain ⟨o, ho, hex, hd⟩ := R.ob
  have hes : es.toList.map (·.2) = L.map fun q => Value.ref q.1 := by
    rw [R.rows]
    unfold rowsOf
    rw [List.map_map] <;> rfl
  refine sorted_set_data (P := X.prog) (w := X.w) (R := fun (v : Value) (p : AT) => v = .ref p.1) (enc := encT) (I.ok.hd hc) ⟨o, ho, hex.1, hd⟩ R.fits (by unfold scanBound; omega) R.tab.ris R.led hes (fun _ _ => rfl)
    (fun h' k b hb => reads_isT (P := X.prog) (w := X.w) (isT_keep (R.tup b hb) k)) encT_alike (fun L' pm => encT_sortable fun p hp => (hk p (pm.mem_iff.mp hp)).1) (fun b => by rw [encT_depth]; omega)
    fun s' p out c L' k g o hp hg eo pm => ?_
  have hout := eachRef_out eo
  have hlen : (L'.map fun q => V.ref q.1).length ≤ sizeLine := by rw [List.length_map, pm.length_eq, sizeLine_eq]; omega
  have hn : H p = none := I.hok.fresh hp
  have hv : Vals (L'.map fun q => V.ref q.1) out.toList := by rw [hout]; exact vals_of_refs L'
  have J : Inv X pins σ (upd H p (.lst (L'.map fun q => V.ref q.1))) { s with heap := s'.heap, gens := s'.gens, drawn := s'.drawn, toks := s'.toks } :=
    I.call (ch := []) (Un.laid k hp hn) (I.hok.laid k hp ⟨hlen, out.toList, c, hv, hg⟩) (by rw [g]; exact I.bare) (fun _ z => nomatch z)
  have e : s' = { s with heap := s'.heap, gens := s'.gens, drawn := s'.drawn, toks := s'.toks } := by
    cases s'
    cases s
    cases o
    rfl
  rw [e]
  exact ⟨.ref p, _, J, rfl, q L' p pm (by rw [pm.length_eq]; exact hfew) hn⟩
end
end Uw
end
section
set_option Elab.async false
set_option linter.all false
set_option maxRecDepth 100000
set_option maxHeartbeats 4000000
namespace Uw
open PySem PySem.Spec PyProof.Rows L2
/-! ### set(xs), sorted(a set) where xs is a list of ints or of texts; the members are told, no order -/
def KeyE (w : World) (e : Int × Value) (k : Key) : Prop := keyIs k e.2 = true ∧ e.1 = keyH w k
/-- at a stands a set of the keys L (which stand in ks, in the table's order) -/
structure SetMR (P : Program) (w : World) (h : Heap) (a : Addr) (L : List Key) (es : Array (Int × Value)) (ep : Nat) (t : SetTable) : Prop where
  ob : ∃ o, h.get? a = some o ∧ o.ExactSet ∧ o.data = .set es ep t
  ks : ∀ e ∈ es.toList, ∃ k ∈ L, KeyE w e k
  has : ∀ k ∈ L, ∃ e ∈ es.toList, KeyE w e k
  few : es.size < scanBound
  fits : t.fits es.size = true
  ris : Ris t.place.toList
  led : w.params.followText "set-order" = true ∨ t.led = true
  size : es.size ≤ L.length
theorem keyE_scan {w : World} {e : Int × Value} {k : Key} (h : KeyE w e k) : e.2.scannable = true := by
  obtain ⟨v, u⟩ := e
  rcases keyIs_shape h.1 with ⟨i, t, _, e2⟩ | ⟨x, t, _, e2⟩
  · have e3 : u = .int i t := e2
    subst e3; rfl
  · have e3 : u = .str x t := e2
    subst e3; rfl
section
variable {P : Program} {w : World} {h h' : Heap} {a : Addr} {L : List Key} {es : Array (Int × Value)} {ep : Nat} {t : SetTable}
theorem SetMR.elems (R : SetMR P w h a L es ep t) : ElemsOf (mixKind P w) es.toList := fun e he => by
  obtain ⟨k, _, q⟩ := R.ks e he
  exact ⟨⟨k, q.1, q.2⟩, keyE_scan q⟩
theorem SetMR.at (R : SetMR P w h a L es ep t) (k : ∀ o, h.get? a = some o → h'.get? a = some o) : SetMR P w h' a L es ep t := by
  obtain ⟨o, ho, r⟩ := R.ob
  exact ⟨⟨o, k o ho, r⟩, R.ks, R.has, R.few, R.fits, R.ris, R.led, R.size⟩
theorem keyE_inj {e : Int × Value} {j k : Key} (a : KeyE w e j) (b : (mixKind P w).is k e.2 = true) : j = k := (mixKind P w).inj _ _ _ a.1 b
end
section
variable {P : Program} {w : World} {A : Around} {E : Value → Shared → Prop} {s : Shared} {a : Addr} {L : List Key}
/-- the table's end of an add -/
theorem setM_tail {g : Bool → Sem Unit} (hg : ∀ (b : Bool) (s₁ : Shared) (Q' : Unit → Shared → Prop), Q' () s₁ → wpAny (model P w) A (g b) Q' E s₁)
    {o : Obj} {es es1 : Array (Int × Value)} {ep : Nat} {t t2 : SetTable} {L' : List Key} (ho : s.heap.get? a = some o) (hex : o.ExactSet) (hd : o.data = .set es ep t)
    (g1 : ∀ e ∈ es1.toList, ∃ k ∈ L', KeyE w e k) (g2 : ∀ k ∈ L', ∃ e ∈ es1.toList, KeyE w e k)
    (hb1 : es1.size < scanBound) (hf2 : t2.fits es1.size = true) (hr : Ris t2.place.toList) (hl : w.params.followText "set-order" = true ∨ t2.led = true) (hz : es1.size ≤ L'.length) {wasDummy : Bool} {R : Option Bool → Shared → Prop}
    (hR : ∀ h', Heap.SameBut a s.heap h' → (∃ es ep t, SetMR P w h' a L' es ep t) → R (some true) { s with heap := h' }) :
    wpAny (model P w) A (do
        storeSet a es1 t2
        if (!wasDummy && t2.tooFull) = true then do
            g (relayAll t2 es1 (SetTable.grown es1.size)).2.2
            storeSet a (relayAll t2 es1 (SetTable.grown es1.size)).1 (relayAll t2 es1 (SetTable.grown es1.size)).2.1
            pure (some true)
          else pure (some true)) R E s := by
  refine wpAny_bind (wpAny_storeSet_of ho hd ?_ (fits_of_scanBound hb1))
  have o1 := store_at (es' := es1) (t' := t2) ho hd
  have b1 := Heap.SameBut.update s.heap a (Obj.putSet es1 t2)
  by_cases hfull : (!wasDummy && t2.tooFull) = true
  · rw [if_pos hfull]
    obtain ⟨pm, f3, r3, l3⟩ : (relayAll t2 es1 (SetTable.grown es1.size)).1.toList.Perm es1.toList ∧ (relayAll t2 es1 (SetTable.grown es1.size)).2.1.fits (relayAll t2 es1 (SetTable.grown es1.size)).1.size = true ∧
      Ris (relayAll t2 es1 (SetTable.grown es1.size)).2.1.place.toList ∧ (relayAll t2 es1 (SetTable.grown es1.size)).2.1.led = t2.led :=
      ⟨relayAll_perm .., relayAll_fits .., relayAll_ris .., relayAll_led ..⟩
    have sz : (relayAll t2 es1 (SetTable.grown es1.size)).1.size = es1.size := by
      have := pm.length_eq
      rwa [Array.length_toList, Array.length_toList] at this
    refine wpAny_bind (hg _ _ _ (wpAny_bind (wpAny_storeSet_of o1 rfl ?_ (fits_of_scanBound (by rw [sz]; exact hb1)))))
    refine wpAny_pure (hR _ (b1.trans (Heap.SameBut.update _ a _)) ⟨_, _, _, ⟨_, store_at o1 rfl, hex, rfl⟩, fun e he => g1 e (pm.mem_iff.mp he), fun k hk => ?_, by rw [sz]; exact hb1, f3, r3, hl.imp id fun z => by rw [l3]; exact z, by rw [sz]; exact hz⟩)
    obtain ⟨e, he, q⟩ := g2 k hk
    exact ⟨e, pm.mem_iff.mpr he, q⟩
  · rw [if_neg hfull]
    exact wpAny_pure (hR _ b1 ⟨_, _, _, ⟨_, o1, hex, rfl⟩, g1, g2, hb1, hf2, hr, hl, hz⟩)
theorem setM_add {k : Key} {v : Value} {es : Array (Int × Value)} {ep : Nat} {t : SetTable} {Q : Bool → Shared → Prop} (R : SetMR P w s.heap a L es ep t) (hkey : (mixKind P w).is k v = true) (room : L.length + 1 < scanBound)
    (hQ : ∀ b h', Heap.SameBut a s.heap h' → (∃ es ep t, SetMR P w h' a (L ++ [k]) es ep t) → Q b { s with heap := h' }) :
    wpAny (model P w) A (setAddHashed a v ((mixKind P w).hash k)) Q E s := by
  have hsc : v.scannable = true := keyE_scan (w := w) (e := ((mixKind P w).hash k, v)) (k := k) ⟨hkey, rfl⟩
  obtain ⟨o, ho, hex, hd⟩ := R.ob
  have hel := R.elems
  have hb := R.few
  have mono : ∀ {es1 : Array (Int × Value)}, es1.toList.Perm (es.toList ++ [((mixKind P w).hash k, v)]) → (∀ e ∈ es1.toList, ∃ j ∈ L ++ [k], KeyE w e j) ∧ (∀ j ∈ L ++ [k], ∃ e ∈ es1.toList, KeyE w e j) := fun {es1} pm => by
    refine ⟨fun e he => ?_, fun j hj => ?_⟩
    · rcases List.mem_append.mp (pm.mem_iff.mp he) with z | z
      · obtain ⟨j, hj, q⟩ := R.ks e z
        exact ⟨j, List.mem_append_left _ hj, q⟩
      · rw [List.mem_singleton.mp z]
        exact ⟨k, List.mem_append_right _ List.mem_cons_self, hkey, rfl⟩
    · rcases List.mem_append.mp hj with z | z
      · obtain ⟨e, he, q⟩ := R.has j z
        exact ⟨e, pm.mem_iff.mpr (List.mem_append_left _ he), q⟩
      · rw [List.mem_singleton.mp z]
        exact ⟨_, pm.mem_iff.mpr (List.mem_append_right _ List.mem_cons_self), hkey, rfl⟩
  unfold setAddHashed setAddHashedIn
  refine wpAny_holding (wpAny_bind (wpAny_setState_of ho hd R.fits ?_))
  dsimp only
  rw [byScan_of hsc hb hel]
  simp only [↓reduceIte]
  unfold setAddByScan
  refine wpAny_bind (wpAny_bind (wpAny_rule (wpAny_bind (wpAny_setScan_of hkey ho hd R.fits hel ?_))))
  have hgw : ∀ (b : Bool) {s₁ : Shared} {Q' : Unit → Shared → Prop}, Q' () s₁ → wpAny (model P w) A (match b with | true => rule "set.scan.the-table-gave-way" | false => pure ()) Q' E s₁ := fun b s₁ Q' q => by
    cases b
    · exact wpAny_pure q
    · exact wpAny_rule q
  cases hfi : List.findIdx? (fun e => (mixKind P w).is k e.2) es.toList with
  | some j =>
    dsimp only
    obtain ⟨hj, pj, _⟩ := List.findIdx?_eq_some_iff_getElem.mp hfi
    obtain ⟨k0, hk0, q0⟩ := R.ks _ (List.getElem_mem hj)
    have ek : k0 = k := keyE_inj (P := P) q0 pj
    subst ek
    refine wpAny_pure (wpAny_pure (hQ _ s.heap (Heap.SameBut.refl a s.heap) ⟨es, ep, t, ⟨o, ho, hex, hd⟩, fun e he => ?_, fun j hj => ?_, hb, R.fits, R.ris, R.led, by rw [List.length_append]; exact Nat.le_trans R.size (Nat.le_add_right _ _)⟩))
    · obtain ⟨j, hj, q⟩ := R.ks e he
      exact ⟨j, List.mem_append_left _ hj, q⟩
    · rcases List.mem_append.mp hj with z | z
      · exact R.has j z
      · rw [List.mem_singleton.mp z]
        exact R.has k0 hk0
  | none =>
    dsimp only
    obtain ⟨pm, f1, r1, l1⟩ : (layNew t es ((mixKind P w).hash k) v).1.toList.Perm (es.push ((mixKind P w).hash k, v)).toList ∧ (layNew t es ((mixKind P w).hash k) v).2.1.fits (layNew t es ((mixKind P w).hash k) v).1.size = true ∧
      Ris (layNew t es ((mixKind P w).hash k) v).2.1.place.toList ∧ (layNew t es ((mixKind P w).hash k) v).2.1.led = t.led :=
      ⟨layNew_perm .., layNew_fits .., layNew_ris _ _ _ _ R.ris, layNew_led ..⟩
    generalize layNew t es ((mixKind P w).hash k) v = Z at pm f1 r1 l1 ⊢
    obtain ⟨es1, t1, wasDummy, gave⟩ := Z
    dsimp only at pm f1 r1 l1 ⊢
    rw [Array.toList_push] at pm
    obtain ⟨g1, g2⟩ := mono pm
    have sz : es1.size = es.size + 1 := by
      have := pm.length_eq
      rw [List.length_append, Array.length_toList, Array.length_toList] at this
      exact this
    have hz := R.size
    have hz1 : es1.size ≤ (L ++ [k]).length := by rw [sz, List.length_append]; exact Nat.add_le_add_right hz 1
    have hb1 : es1.size < scanBound := by rw [sz]; omega
    have hled : w.params.followText "set-order" = true ∨ t1.led = true := R.led.imp id fun z => by rw [l1]; exact z
    refine wpAny_bind (hgw _ ?_)
    split
    · refine wpAny_bind ?_
      rw [hashByValue_scannable 8 hsc]
      refine wpAny_pure ?_
      refine setM_tail (L' := L ++ [k]) ?_ ho hex hd g1 g2 hb1 ?_ ?_ ?_ hz1 ?_
      · intro b s₁ Q' q; exact hgw b q
      · first | (split <;> first | exact f1 | exact SetTable.fits_plain_off f1) | exact f1
      · first | (split <;> exact r1) | exact r1
      · first | (split <;> exact hled) | exact hled
      · intro h' sb r; dsimp only; exact wpAny_pure (hQ _ h' sb r)
    · refine wpAny_bind (wpAny_pure ?_)
      simp only [↓reduceIte]
      refine setM_tail (L' := L ++ [k]) ?_ ho hex hd g1 g2 hb1 f1 r1 hled hz1 ?_
      · intro b s₁ Q' q; exact hgw b q
      · intro h' sb r; dsimp only; exact wpAny_pure (hQ _ h' sb r)
end
end Uw
end
section
set_option Elab.async false
set_option linter.all false
set_option maxRecDepth 100000
set_option maxHeartbeats 4000000
namespace Uw
open PySem PySem.Spec PyProof.Rows L2
/-- a new set's object -/
abbrev nwS (w : World) : Obj := { cls := .type "set", dict := none, data := .set #[] 0 (.fresh 0 0 (!w.params.followText "set-order")) }
section
variable {P : Program} {w : World} {A : Around} {E : Value → Shared → Prop} {s : Shared}
theorem setM_fresh {h : Heap} {a : Addr} (ho : h.get? a = some { cls := .type "set", dict := none, data := .set #[] 0 (.fresh 0 0 (!w.params.followText "set-order")) }) : SetMR P w h a [] #[] 0 (.fresh 0 0 (!w.params.followText "set-order")) where
  ob := ⟨_, ho, ⟨rfl, rfl, rfl⟩, rfl⟩
  ks := fun e he => absurd he (by simp)
  has := fun k hk => nomatch hk
  few := by decide
  fits := rfl
  ris := List.Pairwise.nil
  led := by
    show _ ∨ (!w.params.followText "set-order") = true
    cases w.params.followText "set-order"
    · exact .inr rfl
    · exact .inl rfl
  size := Nat.le_refl _
/-- the loop that puts a list's items into a set -/
theorem setM_loop {I : Addr} {fp wr : List Addr} {G : Array GenState → Array GenState → Prop} {n : Nat} {Pv : Nat → Value → Prop} {St : Nat → Shared → Prop} {R : Result → Shared → Prop}
    (W : WalksS P w A.in1 I fp wr G n Pv St) (S : Addr) (hSf : S ∉ fp) (ks : List Key) (hn : n = ks.length) (hroom : ks.length + 1 < scanBound) (hval : ∀ i v, Pv i v → ∃ k, ks[i]? = some k ∧ (mixKind P w).is k v = true) :
    ∀ (m i : Nat) (s : Shared), n - i = m → i ≤ n → St i s → (∃ es ep t, SetMR P w s.heap S (ks.take i) es ep t) →
      (∀ s' es ep t, Moved (S :: wr) G s s' → SetMR P w s'.heap S ks es ep t → R (.ok (.ret .none)) s') →
      codeAny (model P w) A (.builtin "set.update.loop" ⟨[.ref S, .ref I], []⟩) R s := by
  have hSw : S ∉ wr := fun h => hSf (W.sub _ h)
  have hsub : ∀ b ∈ wr, b ∈ S :: wr := fun b hb => List.mem_cons_of_mem _ hb
  intro m
  induction m with
  | zero =>
    intro i s hm hi hst hS hR
    obtain ⟨es, ep, t, hS⟩ := hS
    have hin : i = n := by omega
    subst hin
    refine codeAny_builtin F.entry_set_update_loop ?_
    rw [Around.under_plainId F.plain_set_update_loop _]
    show wpAny _ A.in1 (pyNext (.ref I) >>= _) _ _ s
    refine wpAny_bind (W.done s _ _ hst fun s' mv => ?_)
    rw [List.take_of_length_le (by omega)] at hS
    show wpAny _ A.in1 (ret Value.none) _ _ s'
    exact wpAny_pure (hR s' es ep t (mv.mono hsub) (hS.at fun o e => mv.heap S o hSw e))
  | succ m ih =>
    intro i s hm hi hst hS hR
    obtain ⟨es, ep, t, hS⟩ := hS
    have hlt : i < n := by omega
    refine codeAny_builtin F.entry_set_update_loop ?_
    rw [Around.under_plainId F.plain_set_update_loop _]
    show wpAny _ A.in1 (pyNext (.ref I) >>= _) _ _ s
    refine wpAny_bind (W.item i s _ _ hlt hst fun v s' hP hst' mv => ?_)
    obtain ⟨k, hk, hkey⟩ := hval i v hP
    have hS' := hS.at (h' := s'.heap) fun o e => mv.heap S o hSw e
    show wpAny _ A.in1 (holding [v] (setAdd S v) >>= _) _ _ s'
    refine wpAny_bind (wpAny_holding ?_)
    unfold setAdd
    refine wpAny_holding ?_
    refine wpAny_bind ((mixKind P w).pyHash (k := k) hkey ?_)
    have hlen : (ks.take i).length + 1 < scanBound := by rw [List.length_take]; omega
    refine setM_add (s := { s' with toks := s'.toks + 1 }) (k := k) hS' hkey hlen fun b h' hsb hS2 => ?_
    have ht : ks.take i ++ [k] = ks.take (i + 1) := by rw [List.take_add_one, hk]; rfl
    rw [ht] at hS2
    refine wpAny_pure ⟨plainId_quiet F.plain_set_update_loop _, ih (i + 1) _ (by omega) hlt (W.frame _ s' _ _ hst' (Nat.le_succ _) fun b hb o e => ?_) hS2 fun s'' es2 ep2 t2 mv2 hS3 => ?_⟩
    · exact (hsb.2 b (fun h : b = S => hSf (h ▸ hb))).trans e
    · refine hR s'' es2 ep2 t2 (Moved.trans W.gtrans ((mv.mono hsub).then_heap (Nat.le_succ _) fun b o hb e => ?_) mv2) hS3
      exact (hsb.2 b (fun h : b = S => hb (h ▸ List.mem_cons_self))).trans e
set_option maxRecDepth 100000 in
/-- set(xs), xs a list of ints or of texts -/
theorem call_set_keys {l : Addr} {items : Array Value} (ks : List Key) {Q : Value → Shared → Prop} (hh : A.handled = none) (hl : s.heap.IsList l items) (hsz : items.size = ks.length)
    (hit : ∀ (i : Nat) (v : Value), items[i]? = some v → ∃ k, ks[i]? = some k ∧ (mixKind P w).is k v = true) (hroom : ks.length + 1 < scanBound)
    (h : ∀ (h' : Heap) (tk : Nat) es ep t, SetMR P w h' s.heap.objs.size ks es ep t → (∀ b o, s.heap.get? b = some o → h'.get? b = some o) → Q (.ref s.heap.objs.size) { s with heap := h', toks := tk }) :
    wpAny (model P w) A (call (.type "set") [.ref l]) Q E s := by
  obtain ⟨c, tl, hmro⟩ := F.called_set.mro
  have hmade := F.called_set.made
  have hsub := F.called_set.sub
  refine wpAny_call (codeAny_of_tree ?_)
  show wpAny _ _ (callAny (.type "set") _) _ _ _
  refine wpAny_pure ⟨Code.quiet_builtin _ (by decide +kernel), codeAny_builtin F.entry_type_call ?_⟩
  rw [Around.under_plain (weight_type_call_type "set" [.ref l] []) rfl]
  have h1 := F.called_set.notType
  have h2 := F.called_set.canCreate
  have hct := F.typeCall_set_1 (.ref l)
  repeat (any_goals (first | assumption | wp_step))
  refine codeAny_mono (code_set_led1 (.ref l) (E := E) (Q₁ := fun obj s₁ => obj = .ref s.heap.objs.size ∧ s₁ = { s with heap := s.heap.push { cls := .type "set", dict := none, data := .set #[] 0 (.fresh 0 0 (!w.params.followText "set-order")) } }) ⟨rfl, rfl⟩) fun r s₁ hr => ?_
  cases r with
  | error e => exact hr
  | ok fl =>
    cases fl with
    | ret obj =>
      obtain ⟨rfl, rfl⟩ := hr
      have hS : (s.heap.push (nwS w)).get? s.heap.objs.size = some (nwS w) := Heap.get?_push_size _ rfl
      have hT : Shared.TypeIs { s with heap := s.heap.push (nwS w) } (.ref s.heap.objs.size) "set" := ⟨_, hS, rfl⟩
      have hli := F.called_set.init.lookup
      have hbi := F.called_set.init.bind (.ref s.heap.objs.size)
      repeat (any_goals (first | assumption | wp_step))
      refine codeAny_mono (codeAny_call_builtin (R := wants (fun r s₂ => r = .none ∧ ∃ h' tk es ep t, s₂ = { s with heap := h', toks := tk } ∧ SetMR P w h' s.heap.objs.size ks es ep t ∧
          (∀ b o, s.heap.get? b = some o → h'.get? b = some o)) E) F.called_set.init.plain F.entry_set_init (check_set_init_1 hT ?_)) fun r₂ s₂ hr₂ => ?_
      · obtain ⟨ol, hol, hcl, nl, hdl⟩ := hl
        obtain ⟨ocls, odict, odata, oslots⟩ := ol
        simp only at hcl hdl
        subst hcl; subst hdl
        have hol' : (s.heap.push (nwS w)).get? l = some { cls := .type "list", dict := odict, data := .seq items nl, slots := oslots } := Heap.get?_push_of_some _ hol
        have hsls := F.sub_list_set
        have hslf := F.sub_list_frozenset
        have hne : (Value.type "list" == Value.type "dict") = false := by decide
        have hl1 : (s.heap.push (nwS w)).IsList l items := ⟨_, hol', rfl, nl, rfl⟩
        unfold Builtin.«set.__init__» noKeywords Builtin.Frozenset.updateFrom
        generalize hPI : pyIter = PI
        wp_walk
        subst hPI
        refine wpAny_pyIter_list hl1 ?_
        refine wpAny_bind (wpAny_runValue ?_)
        have hlS : l < s.heap.objs.size := Heap.lt_size hol
        have hh3 : A.in1.in1.in1.handled = none := by simp [hh]
        have hz1 : (s.heap.push (nwS w)).objs.size = s.heap.objs.size + 1 := Heap.size_push ..
        have hneI : l ≠ (s.heap.push (nwS w)).objs.size := by rw [hz1]; exact Nat.ne_of_lt (Nat.lt_succ_of_lt hlS)
        have hSf : s.heap.objs.size ∉ [(s.heap.push (nwS w)).objs.size, l] := by
          intro z
          rcases List.mem_cons.mp z with z | z
          · rw [hz1] at z; exact absurd z (Nat.ne_of_lt (Nat.lt_succ_self _))
          · exact absurd (List.mem_singleton.mp z) (Nat.ne_of_gt hlS)
        refine setM_loop ((Walks.list hh3 _ l hneI items).toS) s.heap.objs.size hSf ks hsz hroom hit (items.size - 0) 0 _ (by omega) (Nat.zero_le _)
          ⟨⟨_, Heap.get?_push_size _ rfl, rfl, rfl⟩, (hl1.push _)⟩ ⟨#[], 0, _, setM_fresh ?_⟩ fun s' es ep t mv hS' => ?_
        · exact Heap.get?_push_of_some _ hS
        · obtain ⟨h', g2, d', tk', os'⟩ := s'
          have eg : g2 = s.gens := mv.gens
          have ed : d' = s.drawn := mv.drawn
          have eo : os' = s.os := mv.os
          subst eg; subst ed; subst eo
          show wpAny _ _ _ _ _ _
          refine wpAny_pure ?_
          show wpAny _ _ (ret Value.none) _ _ _
          refine wpAny_pure ⟨rfl, h', tk', es, ep, t, rfl, hS', fun b o e => mv.heap b o (fun z => ?_) (Heap.get?_push_of_some _ (Heap.get?_push_of_some _ e))⟩
          have hb := Heap.lt_size e
          rcases List.mem_cons.mp z with z | z
          · exact absurd z (Nat.ne_of_lt hb)
          · have e2 := List.mem_singleton.mp z
            rw [e2, hz1] at hb
            exact absurd hb (Nat.not_lt.mpr (Nat.le_succ _))
      · cases r₂ with
        | error e => exact hr₂
        | ok fl₂ =>
          cases fl₂ with
          | ret r =>
            obtain ⟨rfl, h', tk, es, ep, t, rfl, hS', hk'⟩ := hr₂
            repeat (any_goals (first | assumption | wp_step))
            exact h _ _ _ _ _ hS' hk'
          | _ => exact hr₂.elim
    | _ => exact hr.elim
end
end Uw
end
section
set_option Elab.async false
set_option linter.all false
set_option maxRecDepth 100000
set_option maxHeartbeats 4000000
namespace Uw
open PySem PySem.Spec PyProof.Rows L2
def SetMO (P : Program) (w : World) (a : Addr) (L : List Key) : HO := .ext fun h => ∃ es ep t, SetMR P w h a L es ep t
theorem setMO_new {P : Program} {w : World} {H : Hp} {h : Heap} {a : Addr} {L : List Key} (R : ∃ es ep t, SetMR P w h a L es ep t) : ObjOk P w H h a (SetMO P w a L) := by
  refine ⟨R, ?_, fun h1 h2 p k => ?_⟩
  · obtain ⟨es, ep, t, R⟩ := R
    obtain ⟨o, ho, _⟩ := R.ob
    exact ⟨o, ho⟩
  · obtain ⟨es, ep, t, R⟩ := p
    exact ⟨es, ep, t, R.at k⟩
theorem vals_keys {P : Program} {w : World} : ∀ {ks : List Key} {us : List Value}, Vals (ks.map kV) us → ∀ (i : Nat) (v : Value), us[i]? = some v → ∃ k, ks[i]? = some k ∧ (mixKind P w).is k v = true
  | [], _, .nil, i, v, e => by simp at e
  | k :: ks, _, .cons r t, 0, v, e => by
    have e2 : _ = v := Option.some.inj e
    subst e2
    exact ⟨k, rfl, kV_is r⟩
  | k :: ks, _, .cons r t, i + 1, v, e => vals_keys t i v e
/-- what sorting asks of a kind of items -/
structure KSort (κ : Type) (mk : κ → Key) (enc : κ → PyData) : Prop where
  alike : ∀ a b, PySem.W.alike (enc a) (enc b) = true
  plain : ∀ a, enc a ≠ .none ∧ ∀ xs, enc a ≠ .tuple xs
  flat : ∀ a, (enc a).depth = 0
  reads : ∀ (h : Heap) k v, keyIs (mk k) v = true → Reads h v (enc k) []
  rel : ∀ k v, keyIs (mk k) v = true → RelV (kV (mk k)) v
  inj : ∀ a b, mk a = mk b → a = b
theorem ksInt : KSort Int Sum.inl PyData.int where
  alike := fun _ _ => by simp [PySem.W.alike]
  plain := fun _ => ⟨by simp, by simp⟩
  flat := fun _ => rfl
  reads := fun h k v e => by
    rcases keyIs_shape e with ⟨i, t, e1, rfl⟩ | ⟨x, t, e1, _⟩
    · cases e1; exact .int _ _
    · cases e1
  rel := fun k v e => by
    rcases keyIs_shape e with ⟨i, t, e1, rfl⟩ | ⟨x, t, e1, _⟩
    · cases e1; exact ⟨t, rfl⟩
    · cases e1
  inj := fun a b e => Sum.inl.inj e
theorem ksStr : KSort Str Sum.inr PyData.str where
  alike := fun _ _ => by simp [PySem.W.alike]
  plain := fun _ => ⟨by simp, by simp⟩
  flat := fun _ => rfl
  reads := fun h k v e => by
    rcases keyIs_shape e with ⟨i, t, e1, _⟩ | ⟨x, t, e1, rfl⟩
    · cases e1
    · cases e1; exact .str _ _
  rel := fun k v e => by
    rcases keyIs_shape e with ⟨i, t, e1, _⟩ | ⟨x, t, e1, rfl⟩
    · cases e1
    · cases e1; exact ⟨t, rfl⟩
  inj := fun a b e => Sum.inr.inj e
theorem each_mem2 {α β : Type} {S : α → β → Prop} : ∀ {as : List α} {bs : List β}, PySem.W.EachIs S as bs → ∀ {T : V → α → Prop} (f : β → V), (∀ a b, S a b → b ∈ bs → T (f b) a) → Paired T (bs.map f) as
  | _, _, .nil, _, _, _ => .nil
  | _, _, .cons h t, _, f, k => .cons (k _ _ h List.mem_cons_self) (each_mem2 t f fun a b s hb => k a b s (List.mem_cons_of_mem _ hb))
section
variable {X : Cx}
/-- set(xs), a list of ints or of texts -/
def rSetK (K : PySem.W.Frag) (P : Program) (w : World) : List V → Hp → VK → Prop := fun xs H Q => ∃ (l : Addr) (ks : List Key), xs = [V.ref l] ∧ SqL K H l (ks.map kV) ∧ ks.length ≤ 1000 ∧
  ∀ a, H a = none → Q (.ref a) (upd H a (SetMO P w a ks))
theorem cr_setK (hc : X.calm = true) : CallR X (.type "set") (rSetK X.K X.prog X.w) := by
  intro pins s σ H xs us Q I r h
  obtain ⟨l, ks, rfl, hl, hz, q⟩ := h
  rw [Vals.ref1 r]
  obtain ⟨its, rv, pl, _⟩ := I.list hl
  have hlen : its.toArray.size = ks.length := by rw [List.size_toArray, ← rv.length, List.length_map]
  refine call_set_keys (P := X.prog) (w := X.w) ks (I.ok.hd hc) pl.isList hlen (fun i v hv => vals_keys rv i v (by simpa using hv)) (by unfold scanBound; omega) fun h' tk es ep t R k => ?_
  exact ⟨.ref s.heap.objs.size, upd H s.heap.objs.size (SetMO X.prog X.w s.heap.objs.size ks), I.laid (t' := tk) k (Nat.le_refl _) (setMO_new ⟨es, ep, t, R⟩), rfl, q _ (I.hok.fresh (Nat.le_refl _))⟩
/-- sorted(a set of such keys) -/
def rSortK (P : Program) (w : World) {κ : Type} (mk : κ → Key) : List V → Hp → VK → Prop := fun vs H Q => ∃ (a : Addr) (ks : List κ), vs = [V.ref a] ∧ H a = some (SetMO P w a (ks.map mk)) ∧
  ∀ (out : List κ) (p : Addr), (∀ k, k ∈ out ↔ k ∈ ks) → out.length ≤ ks.length → H p = none → Q (.ref p) (upd H p (.lst (out.map fun k => kV (mk k))))
theorem cr_sortK {κ : Type} {mk : κ → Key} {enc : κ → PyData} (S : KSort κ mk enc) (hc : X.calm = true) (hu : X.A.units + 64 < cLine) : CallR X (.builtin "sorted") (rSortK X.prog X.w mk) := by
  intro pins s σ H vs us Q I r h
  obtain ⟨a, ks, rfl, ha, q⟩ := h
  obtain ⟨es, ep, t, R⟩ : ∃ es ep t, SetMR X.prog X.w s.heap a (ks.map mk) es ep t := (I.hok a _ ha).1
  rw [Vals.ref1 r]
  obtain ⟨o, ho, hex, hd⟩ := R.ob
  -- the keys of the table's values, in its order
  obtain ⟨L, hL, hLk⟩ : ∃ L : List (κ × Value), es.toList.map (·.2) = L.map Prod.snd ∧ (∀ b ∈ L, keyIs (mk b.1) b.2 = true ∧ b.1 ∈ ks) := by
    have all : ∀ l : List (Int × Value), (∀ e ∈ l, ∃ k ∈ ks.map mk, KeyE X.w e k) → ∃ L : List (κ × Value), l.map (·.2) = L.map Prod.snd ∧ (∀ b ∈ L, keyIs (mk b.1) b.2 = true ∧ b.1 ∈ ks) := by
      intro l
      induction l with
      | nil => intro _; exact ⟨[], rfl, fun b hb => nomatch hb⟩
      | cons e l ih =>
        intro hk
        obtain ⟨k, hkm, hke⟩ := hk e List.mem_cons_self
        obtain ⟨k0, hk0, rfl⟩ := List.mem_map.mp hkm
        obtain ⟨L, h1, h2⟩ := ih fun e' he => hk e' (List.mem_cons_of_mem _ he)
        refine ⟨(k0, e.2) :: L, by rw [List.map_cons, List.map_cons, h1], fun b hb => ?_⟩
        rcases List.mem_cons.mp hb with z | z
        · rw [z]; exact ⟨hke.1, hk0⟩
        · exact h2 b z
    exact all es.toList R.ks
  have hlenL : L.length = es.size := by
    have := congrArg List.length hL
    rw [List.length_map, List.length_map, Array.length_toList] at this
    exact this.symm
  have hszL : L.length ≤ ks.length := by have := R.size; rw [List.length_map] at this; omega
  refine sorted_set_data (P := X.prog) (w := X.w) (β := { b : κ × Value // keyIs (mk b.1) b.2 = true }) (R := fun (v : Value) b => v = b.1.2) (enc := fun b => enc b.1.1) (L := L.attach.map fun b => ⟨b.1, (hLk b.1 b.2).1⟩) (f := fun b => b.1.2)
    (I.ok.hd hc) ⟨o, ho, hex.1, hd⟩ R.fits R.few R.ris R.led (by rw [hL, List.map_map]; (conv => lhs; rw [← List.attach_map_subtype_val L, List.map_map]); rfl) (fun _ _ => rfl) (fun h' _ b _ => S.reads h' _ _ b.2)
    (fun b b' => S.alike _ _) (fun L' _ => PySem.W.Sortable.others fun b => S.plain _) (fun b => by rw [S.flat]; omega) fun s' p out c L' k g o hp hg eo pm => ?_
  have pm2 : (L'.map fun b => b.1).Perm L := by
    have := pm.map fun b => b.1
    rw [List.map_map] at this
    have e : L.attach.map ((fun b : { b : κ × Value // keyIs (mk b.1) b.2 = true } => b.1) ∘ fun b => ⟨b.1, (hLk b.1 b.2).1⟩) = L := List.attach_map_subtype_val L
    rw [e] at this
    exact this
  have hn : H p = none := I.hok.fresh hp
  have hlen : (L'.map fun b => kV (mk b.1.1)).length ≤ sizeLine := by
    have e1 := pm2.length_eq
    rw [List.length_map] at e1
    have e2 := R.few
    rw [List.length_map, e1, hlenL, sizeLine_eq]
    unfold scanBound at e2
    omega
  have hv : Vals (L'.map fun b => kV (mk b.1.1)) out.toList := each_mem2 eo _ fun a b e _ => by
    rw [e]; exact S.rel _ _ b.2
  have J : Inv X pins σ (upd H p (.lst (L'.map fun b => kV (mk b.1.1)))) { s with heap := s'.heap, gens := s'.gens, drawn := s'.drawn, toks := s'.toks } :=
    I.call (ch := []) (Un.laid k hp hn) (I.hok.laid k hp ⟨hlen, out.toList, c, hv, hg⟩) (by rw [g]; exact I.bare) (fun _ z => nomatch z)
  have e : s' = { s with heap := s'.heap, gens := s'.gens, drawn := s'.drawn, toks := s'.toks } := by
    cases s'
    cases s
    cases o
    rfl
  rw [e]
  have mem : ∀ k, k ∈ (L'.map fun b => b.1.1) ↔ k ∈ ks := fun k => by
    constructor
    · intro hm
      obtain ⟨b, hb, rfl⟩ := List.mem_map.mp hm
      exact (hLk b.1 (pm2.mem_iff.mp (List.mem_map.mpr ⟨b, hb, rfl⟩))).2
    · intro hm
      obtain ⟨e, he, hke⟩ := R.has (mk k) (List.mem_map.mpr ⟨k, hm, rfl⟩)
      have h1 : e.2 ∈ L.map Prod.snd := by rw [← hL]; exact List.mem_map.mpr ⟨e, he, rfl⟩
      obtain ⟨b, hb, eb⟩ := List.mem_map.mp h1
      have h2 : mk b.1 = mk k := (mixKind X.prog X.w).inj _ _ _ (hLk b hb).1 (by rw [eb]; exact hke.1)
      have h3 : b ∈ L'.map fun b => b.1 := pm2.mem_iff.mpr hb
      obtain ⟨b', hb', eb'⟩ := List.mem_map.mp h3
      exact List.mem_map.mpr ⟨b', hb', by rw [eb']; exact S.inj _ _ h2⟩
  have q2 := q (L'.map fun b => b.1.1) p mem (by rw [List.length_map]; have := pm2.length_eq; rw [List.length_map] at this; omega) hn
  rw [List.map_map] at q2
  exact ⟨.ref p, _, J, rfl, q2⟩
end
end Uw
end
section
set_option Elab.async false
set_option linter.all false
set_option maxRecDepth 100000
set_option maxHeartbeats 4000000
namespace Uw
open PySem PySem.Spec PyProof.Rows L2
/-! ### dicts whose keys are None and tuples of ints; every value is True -/
/-- a key: None, or a tuple of ints -/
abbrev TK := Option (List Int)
def IsTK (P : Program) (w : World) (h : Heap) : TK → Value → Prop
  | none, v => v = .none
  | some ns, v => ∃ b, v = .ref b ∧ IsT P w h ns b
def hTK (P : Program) (w : World) : TK → Int
  | none => Leaf.none.key.hash w
  | some ns => thash P w ns
def entTK (P : Program) (w : World) (x : TK × Value) : DictEntry := ⟨hTK P w x.1, x.2, .bool true⟩
section
variable {P : Program} {w : World} {A : Around} {E : Value → Shared → Prop} {s : Shared}
theorem IsTK.inj {h : Heap} : ∀ {j k : TK} {v : Value}, IsTK P w h j v → IsTK P w h k v → j = k
  | none, none, _, _, _ => rfl
  | none, some _, _, a, b => by
    obtain ⟨c, e, _⟩ := b
    rw [show _ = Value.none from a] at e
    cases e
  | some _, none, _, a, b => by
    obtain ⟨c, e, _⟩ := a
    rw [show _ = Value.none from b] at e
    cases e
  | some _, some _, _, a, b => by
    obtain ⟨c, e, x⟩ := a
    obtain ⟨d, e2, y⟩ := b
    rw [e] at e2
    cases e2
    rw [x.inj y]
theorem IsTK.keep {h h' : Heap} (hk : ∀ b o, h.get? b = some o → (∃ vs n, o.data = .seq vs n) → h'.get? b = some o) : ∀ {k : TK} {v : Value}, IsTK P w h k v → IsTK P w h' k v
  | none, _, x => x
  | some _, _, x => by
    obtain ⟨b, e, o, items, n, ho, hc, hd, r⟩ := x
    exact ⟨b, e, o, items, n, hk b o ho ⟨_, _, hd⟩, hc, hd, r⟩
theorem tk_hash (hu : A.units < cLine) : ∀ {k : TK} {v : Value} {Q : Int → Shared → Prop}, IsTK P w s.heap k v → (∀ tk, Q (hTK P w k) { s with toks := tk }) → wpAny (model P w) A (pyHash v) Q E s
  | none, v, Q, x, h => by
    rw [show v = Value.none from x]
    exact pyHash_leaf (k := .none) rfl (h _)
  | some ns, v, Q, x, h => by
    obtain ⟨b, rfl, x⟩ := x
    exact wpAny_pyHash_tuple hu x (h _)
theorem tk_eq (hu : A.units < cLine) : ∀ {j k : TK} {u v : Value} {Q : Bool → Shared → Prop}, IsTK P w s.heap j u → IsTK P w s.heap k v → Q (decide (j = k)) s → wpAny (model P w) A (eqBool u v) Q E s
  | none, none, u, v, Q, x, y, h => by
    rw [show u = Value.none from x, show v = Value.none from y]
    exact eqAt_leaf (x := .none) (y := .none) rfl rfl P w E Q h
  | none, some _, u, v, Q, x, y, h => by
    obtain ⟨b, rfl, o, items, n, ho, hc, hd, _⟩ := y
    rw [show u = Value.none from x]
    exact SeqAt.EqAt.none_tuple (l := b) (items := items) ⟨o, ho, hc, n, hd⟩ hu P w E Q h
  | some _, none, u, v, Q, x, y, h => by
    obtain ⟨b, rfl, o, items, n, ho, hc, hd, _⟩ := x
    rw [show v = Value.none from y]
    exact SeqAt.EqAt.tuple_none (l := b) (items := items) ⟨o, ho, hc, n, hd⟩ hu P w E Q h
  | some a, some c, u, v, Q, x, y, h => by
    obtain ⟨b, rfl, x⟩ := x
    obtain ⟨d, rfl, y⟩ := y
    refine wpAny_eqBool_tuple hu x y ?_
    have e : decide (a = c) = decide ((some a : TK) = some c) := by
      by_cases z : a = c
      · rw [decide_eq_true z, decide_eq_true (congrArg some z)]
      · rw [decide_eq_false z, decide_eq_false fun q => z (Option.some.inj q)]
    rw [e]; exact h
theorem tk_quiet : ∀ {k : TK} {v : Value} {Q : Bool → Shared → Prop}, IsTK P w s.heap k v → Q true s → wpAny (model P w) A (eqIsQuiet 8 v) Q E s
  | none, v, Q, x, h => by
    rw [show v = Value.none from x]
    unfold eqIsQuiet
    exact wpAny_pure h
  | some _, v, Q, x, h => by
    obtain ⟨b, rfl, x⟩ := x
    exact wpAny_eqIsQuiet_tuple x h
theorem tk_tell {k : TK} {v : Value} {stored : List Value} {Q : Bool → Shared → Prop} (hkey : IsTK P w s.heap k v) (hst : ∀ u ∈ stored, ∃ j, IsTK P w s.heap j u) (h : Q false s) : wpAny (model P w) A (tableMayTell v stored) Q E s := by
  unfold tableMayTell
  split
  · exact wpAny_pure h
  · refine wpAny_bind (tk_quiet hkey ?_)
    simp only [Bool.not_true, Bool.false_eq_true, if_false]
    refine wpAny_bind (wpAny_forIn_list _ (fun rest r s' => s' = s ∧ r = (none, ()) ∧ ∀ u ∈ rest, ∃ j, IsTK P w s.heap j u) _ ?_ ?_ _ _ ⟨rfl, rfl, hst⟩)
    · rintro x rest r s' ⟨rfl, rfl, hr⟩
      obtain ⟨j, hj⟩ := hr x List.mem_cons_self
      refine wpAny_bind (tk_quiet hj ?_)
      simp only [Bool.not_true, Bool.false_eq_true, if_false]
      exact wpAny_pure ⟨rfl, rfl, fun u hu => hr u (List.mem_cons_of_mem _ hu)⟩
    · rintro r s' ⟨rfl, rfl, _⟩
      exact wpAny_pure h
/-- the places that are looked at -/
theorem places_mem {n : Nat} {f : Nat → Option Int} {h : Int} {i : Nat} : i ∈ placesWithHash n f h ↔ i < n ∧ (f i == some h) = true := by
  unfold placesWithHash
  rw [List.mem_filter, List.mem_range]
theorem places_nodup (n : Nat) (f : Nat → Option Int) (h : Int) : (placesWithHash n f h).Nodup := List.nodup_range.filter _
end
end Uw
end
section
set_option Elab.async false
set_option linter.all false
set_option maxRecDepth 100000
set_option maxHeartbeats 4000000
namespace Uw
open PySem PySem.Spec PyProof.Rows L2
section
variable {P : Program} {w : World} {A : Around} {E : Value → Shared → Prop} {s : Shared}
theorem tk_find {d : Addr} {o : Obj} {es : Array DictEntry} {ep : Nat} {xs : List (TK × Value)} {k : TK} {v : Value} {Q : Option Nat → Shared → Prop} (hu : A.units < cLine) (hkey : IsTK P w s.heap k v)
    (ho : s.heap.get? d = some o) (hd : o.data = .dict es ep) (he : es.toList = xs.map (entTK P w)) (his : ∀ x ∈ xs, IsTK P w s.heap x.1 x.2) (hn : (xs.map (·.1)).Nodup)
    (hnone : k ∉ xs.map (·.1) → Q none s) (hsome : ∀ j u, xs[j]? = some (k, u) → Q (some j) s) :
    wpAny (model P w) A (dictFind d v (hTK P w k)) Q E s := by
  have hat : ∀ j : Nat, es[j]? = (xs[j]?).map (entTK P w) := fun j => by rw [← Array.getElem?_toList, he, List.getElem?_map]
  have hsz : es.size = xs.length := by rw [← Array.length_toList, he, List.length_map]
  -- the places
  generalize hpl : placesWithHash es.size (fun i => es[i]?.map (·.hash)) (hTK P w k) = pl
  have pmem : ∀ i ∈ pl, ∃ j u, xs[i]? = some (j, u) ∧ hTK P w j = hTK P w k ∧ es[i]? = some (entTK P w (j, u)) := fun i hi => by
    rw [← hpl] at hi
    obtain ⟨h1, h2⟩ := places_mem.mp hi
    rw [hsz] at h1
    obtain ⟨⟨j, u⟩, e1⟩ : ∃ x, xs[i]? = some x := ⟨xs[i], List.getElem?_eq_getElem h1⟩
    have e2 := hat i
    rw [e1] at e2
    refine ⟨j, u, e1, ?_, e2⟩
    rw [e2] at h2
    have h3 : (hTK P w j == hTK P w k) = true := h2
    exact eq_of_beq h3
  have pall : ∀ i u, xs[i]? = some (k, u) → i ∈ pl := fun i u e => by
    rw [← hpl]
    refine places_mem.mpr ⟨by rw [hsz]; exact (List.getElem?_eq_some_iff.mp e).1, ?_⟩
    rw [hat i, e]
    show (some (hTK P w k) == some (hTK P w k)) = true
    exact beq_self_eq_true _
  have one : ∀ (i j : Nat) (u u' : Value), xs[i]? = some (k, u) → xs[j]? = some (k, u') → i = j := fun i j u u' e1 e2 => by
    have a1 : (xs.map (·.1))[i]? = some k := by rw [List.getElem?_map, e1]; rfl
    have a2 : (xs.map (·.1))[j]? = some k := by rw [List.getElem?_map, e2]; rfl
    exact nd_ix hn a1 a2
  have out : (∀ (i : Nat) (u : Value), xs[i]? ≠ some (k, u)) → k ∉ xs.map (·.1) := fun h hm => by
    obtain ⟨x, hx, e⟩ := List.mem_map.mp hm
    obtain ⟨i, hi⟩ := List.mem_iff_getElem?.mp hx
    exact h i x.2 (by rw [hi, ← e])
  have hany : ∀ b, v = .ref b → ¬ (es.any fun e => e.key == v && e.hash != hTK P w k) = true := fun b _ => by
    rw [← Array.any_toList, List.any_eq_true]
    rintro ⟨e, hin, hc⟩
    rw [he] at hin
    obtain ⟨x, hx, rfl⟩ := List.mem_map.mp hin
    rw [Bool.and_eq_true, beq_iff_eq, bne_iff_ne] at hc
    obtain ⟨h1, h2⟩ := hc
    have h3 := his x hx
    rw [show x.2 = v from h1] at h3
    exact h2 (by show hTK P w x.1 = _; rw [h3.inj hkey])
  have hst : ∀ u ∈ pl.filterMap (fun i => es[i]?.map (·.key)), ∃ j, IsTK P w s.heap j u := fun u hu' => by
    obtain ⟨i, hi, e⟩ := List.mem_filterMap.mp hu'
    obtain ⟨j, u', e1, _, e3⟩ := pmem i hi
    rw [e3] at e
    have e' : u' = u := Option.some.inj e
    exact ⟨j, by rw [← e']; exact his _ (List.mem_of_getElem? e1)⟩
  have pnd : pl.Nodup := by rw [← hpl]; exact places_nodup _ _ _
  have nostr : ∀ x t, v ≠ .str x t := fun x t e => by
    rw [e] at hkey
    cases k with
    | none => cases (show Value.str x t = Value.none from hkey)
    | some ns => obtain ⟨b, e, _⟩ := hkey; cases e
  unfold dictFind
  try with_reducible refine wpAny_holding ?_
  refine wpAny_bind (wpAny_dictEntries ho hd ?_)
  cases k with
  | none =>
    have ev : v = .none := hkey
    subst ev
    dsimp only
    rw [hpl]
    by_cases hcv : ((Value.none :: List.filterMap (fun i => Option.map (fun x => x.key) es[i]?) pl).all carriedByValue) = true
    · rw [if_pos hcv]
      unfold dictWalkPlain
      refine wpAny_bind (wpAny_forIn_list _ (fun rest b s' => s' = s ∧ b = (none, ()) ∧ (∀ i ∈ rest, i ∈ pl) ∧ ∀ (i : Nat) (u : Value), xs[i]? = some (none, u) → i ∈ rest) _ ?_ ?_ _ _ ⟨rfl, rfl, fun _ h => h, pall⟩)
      · rintro x rest b' s' ⟨rfl, rfl, hin, hall⟩
        obtain ⟨j, u, e1, e2, e3⟩ := pmem x (hin x List.mem_cons_self)
        rw [e3]
        dsimp only
        rw [if_pos (show ((entTK P w (j, u)).hash == hTK P w none) = true by rw [show (entTK P w (j, u)).hash = hTK P w j from rfl, e2]; exact beq_self_eq_true _)]
        refine wpAny_bind (wpAny_dictEpoch ho hd (wpAny_bind (tk_eq hu (his _ (List.mem_of_getElem? e1)) hkey (wpAny_bind (wpAny_dictEpoch ho hd ?_)))))
        rw [if_neg (by simp)]
        by_cases hjk : j = none
        · subst hjk
          rw [decide_eq_true rfl]
          simp only [if_true]
          exact wpAny_bind (wpAny_rule (wpAny_pure (wpAny_pure (hsome x u e1))))
        · rw [decide_eq_false hjk]
          simp only [Bool.false_eq_true, if_false]
          refine wpAny_bind (wpAny_rule (wpAny_pure ⟨rfl, rfl, fun i hi => hin i (List.mem_cons_of_mem _ hi), fun i u' e => ?_⟩))
          rcases List.mem_cons.mp (hall i u' e) with z | z
          · rw [z, e1] at e
            exact absurd (congrArg Prod.fst (Option.some.inj e)) hjk
          · exact z
      · rintro b' s' ⟨rfl, rfl, _, hall⟩
        exact wpAny_pure (hnone (out fun i u e => nomatch hall i u e))
    · rw [if_neg hcv]
      by_cases hone : (List.filterMap (fun i => Option.map (fun x => x.key) es[i]?) pl == [Value.none]) = true <;> (first | rw [if_pos hone] | rw [if_neg hone]) <;> (first | refine wpAny_bind (wpAny_pure ?_) | refine wpAny_bind (tk_tell hkey hst ?_)) <;> (
        rw [if_neg (by simp)]
        refine wpAny_bind (wpAny_forIn_list _ (fun rest b s' => s' = s ∧ rest.Nodup ∧ (∀ i ∈ rest, i ∈ pl) ∧ ∃ hit, b = (none, hit) ∧
          ((hit = none ∧ ∀ (i : Nat) (u : Value), xs[i]? = some (none, u) → i ∈ rest) ∨ ∃ (j : Nat) (u : Value), hit = some j ∧ xs[j]? = some (none, u) ∧ j ∉ rest)) _ ?_ ?_ _ _ ⟨rfl, pnd, fun _ h => h, none, rfl, .inl ⟨rfl, pall⟩⟩)
        · rintro x rest b' s' ⟨rfl, nd, hin, hit, rfl, hH⟩
          obtain ⟨hx, nd'⟩ := List.nodup_cons.mp nd
          obtain ⟨j, u, e1, e2, e3⟩ := pmem x (hin x List.mem_cons_self)
          rw [e3]
          dsimp only
          rw [if_pos (show ((entTK P w (j, u)).hash == hTK P w (none)) = true by rw [show (entTK P w (j, u)).hash = hTK P w j from rfl, e2]; exact beq_self_eq_true _)]
          refine wpAny_bind (wpAny_dictEpoch ho hd (wpAny_bind (tk_eq hu (his _ (List.mem_of_getElem? e1)) hkey (wpAny_bind (wpAny_dictEpoch ho hd ?_)))))
          rw [if_neg (by simp)]
          have hin' : ∀ i ∈ rest, i ∈ pl := fun i hi => hin i (List.mem_cons_of_mem _ hi)
          by_cases hjk : j = none
          · subst hjk
            rw [decide_eq_true rfl]
            rcases hH with ⟨rfl, _⟩ | ⟨j', u', _, hj', hn'⟩
            · simp only [Option.isSome_none, Bool.false_eq_true, if_false, if_true]
              refine wpAny_bind (wpAny_rule ?_)
              split
              · exact wpAny_pure (wpAny_pure (hsome x u e1))
              · exact wpAny_pure ⟨rfl, nd', hin', some x, rfl, .inr ⟨x, u, rfl, e1, hx⟩⟩
            · exact absurd (show j' ∈ x :: rest by rw [one _ _ _ _ hj' e1]; exact List.mem_cons_self) hn'
          · rw [decide_eq_false hjk]
            simp only [Bool.false_eq_true, if_false, Bool.false_and]
            refine wpAny_bind (wpAny_rule ?_)
            refine wpAny_pure ⟨rfl, nd', hin', hit, rfl, ?_⟩
            rcases hH with ⟨h0, hall⟩ | ⟨j', u', h1, hj', hn'⟩
            · refine .inl ⟨h0, fun i u' e => ?_⟩
              rcases List.mem_cons.mp (hall i u' e) with z | z
              · rw [z, e1] at e
                exact absurd (congrArg Prod.fst (Option.some.inj e)) hjk
              · exact z
            · exact .inr ⟨j', u', h1, hj', fun z => hn' (List.mem_cons_of_mem _ z)⟩
        · rintro b' s' ⟨rfl, _, _, hit, rfl, hH⟩
          rcases hH with ⟨rfl, hall⟩ | ⟨j', u', rfl, hj', _⟩
          · exact wpAny_pure (hnone (out fun i u e => nomatch hall i u e))
          · exact wpAny_pure (hsome j' u' hj'))
  | some ns =>
    obtain ⟨b, ev, hb⟩ := id hkey
    subst ev
    dsimp only
    rw [hpl]
    rw [if_neg (show ¬ ((Value.ref b :: List.filterMap (fun i => Option.map (fun x => x.key) es[i]?) pl).all carriedByValue) = true by simp [carriedByValue])]
    rw [if_neg (hany b rfl)]
    by_cases hone : (List.filterMap (fun i => Option.map (fun x => x.key) es[i]?) pl == [Value.ref b]) = true <;> (first | rw [if_pos hone] | rw [if_neg hone]) <;> (first | refine wpAny_bind (wpAny_pure ?_) | refine wpAny_bind (tk_tell hkey hst ?_)) <;> (
        rw [if_neg (by simp)]
        refine wpAny_bind (wpAny_forIn_list _ (fun rest b s' => s' = s ∧ rest.Nodup ∧ (∀ i ∈ rest, i ∈ pl) ∧ ∃ hit, b = (none, hit) ∧
          ((hit = none ∧ ∀ (i : Nat) (u : Value), xs[i]? = some (some ns, u) → i ∈ rest) ∨ ∃ (j : Nat) (u : Value), hit = some j ∧ xs[j]? = some (some ns, u) ∧ j ∉ rest)) _ ?_ ?_ _ _ ⟨rfl, pnd, fun _ h => h, none, rfl, .inl ⟨rfl, pall⟩⟩)
        · rintro x rest b' s' ⟨rfl, nd, hin, hit, rfl, hH⟩
          obtain ⟨hx, nd'⟩ := List.nodup_cons.mp nd
          obtain ⟨j, u, e1, e2, e3⟩ := pmem x (hin x List.mem_cons_self)
          rw [e3]
          dsimp only
          rw [if_pos (show ((entTK P w (j, u)).hash == hTK P w (some ns)) = true by rw [show (entTK P w (j, u)).hash = hTK P w j from rfl, e2]; exact beq_self_eq_true _)]
          refine wpAny_bind (wpAny_dictEpoch ho hd (wpAny_bind (tk_eq hu (his _ (List.mem_of_getElem? e1)) hkey (wpAny_bind (wpAny_dictEpoch ho hd ?_)))))
          rw [if_neg (by simp)]
          have hin' : ∀ i ∈ rest, i ∈ pl := fun i hi => hin i (List.mem_cons_of_mem _ hi)
          by_cases hjk : j = some ns
          · subst hjk
            rw [decide_eq_true rfl]
            rcases hH with ⟨rfl, _⟩ | ⟨j', u', _, hj', hn'⟩
            · simp only [Option.isSome_none, Bool.false_eq_true, if_false, if_true]
              refine wpAny_bind (wpAny_rule ?_)
              split
              · exact wpAny_pure (wpAny_pure (hsome x u e1))
              · exact wpAny_pure ⟨rfl, nd', hin', some x, rfl, .inr ⟨x, u, rfl, e1, hx⟩⟩
            · exact absurd (show j' ∈ x :: rest by rw [one _ _ _ _ hj' e1]; exact List.mem_cons_self) hn'
          · rw [decide_eq_false hjk]
            simp only [Bool.false_eq_true, if_false, Bool.false_and]
            refine wpAny_bind (wpAny_rule ?_)
            refine wpAny_pure ⟨rfl, nd', hin', hit, rfl, ?_⟩
            rcases hH with ⟨h0, hall⟩ | ⟨j', u', h1, hj', hn'⟩
            · refine .inl ⟨h0, fun i u' e => ?_⟩
              rcases List.mem_cons.mp (hall i u' e) with z | z
              · rw [z, e1] at e
                exact absurd (congrArg Prod.fst (Option.some.inj e)) hjk
              · exact z
            · exact .inr ⟨j', u', h1, hj', fun z => hn' (List.mem_cons_of_mem _ z)⟩
        · rintro b' s' ⟨rfl, _, _, hit, rfl, hH⟩
          rcases hH with ⟨rfl, hall⟩ | ⟨j', u', rfl, hj', _⟩
          · exact wpAny_pure (hnone (out fun i u e => nomatch hall i u e))
          · exact wpAny_pure (hsome j' u' hj'))
end
end Uw
end
section
set_option Elab.async false
set_option linter.all false
set_option maxRecDepth 100000
set_option maxHeartbeats 4000000
namespace Uw
open PySem PySem.Spec PyProof.Rows L2
/-- a key and the address of its tuple (of None: any) -/
abbrev KA := TK × Addr
def kaVal (x : KA) : TK × Value := (x.1, match x.1 with
  | none => .none
  | some _ => .ref x.2)
def DN0 (P : Program) (w : World) (h : Heap) (a : Addr) (xs : List KA) : Prop := ∃ o es ep, h.get? a = some o ∧ o.ExactDict ∧ o.data = .dict es ep ∧ es.toList = (xs.map kaVal).map (entTK P w)
def DNO (P : Program) (w : World) (a : Addr) (xs : List KA) : HO := .ext fun h => DN0 P w h a xs
def KeyAt (K : PySem.W.Frag) (H : Hp) (x : KA) : Prop := ∀ ns, x.1 = some ns → SqT K H x.2 (ns.map V.int)
/-- the value of a key -/
def KeyV (K : PySem.W.Frag) (H : Hp) : TK → V → Prop
  | none, v => v = .non
  | some ns, v => ∃ b, v = .ref b ∧ SqT K H b (ns.map V.int)
/-- at a stands a dict with the keys xs -/
structure DicN (P : Program) (w : World) (K : PySem.W.Frag) (H : Hp) (a : Addr) (xs : List KA) : Prop where
  ob : H a = some (DNO P w a xs)
  sys : (a == sysModules) = false
  nd : (xs.map (·.1)).Nodup
  at_ : ∀ x ∈ xs, KeyAt K H x
theorem dno_ok {P : Program} {w : World} {H : Hp} {h : Heap} {a : Addr} {xs : List KA} (x : DN0 P w h a xs) : ObjOk P w H h a (DNO P w a xs) := by
  have ⟨o, es, ep, ho, r⟩ := x
  refine ⟨x, ⟨o, ho⟩, fun h1 h2 p k => ?_⟩
  obtain ⟨o', es', ep', ho', r'⟩ := p
  exact ⟨o', es', ep', k o' ho', r'⟩
section
variable {X : Cx} {pins : List (Addr × Obj)} {σ : L2.St} {H : Hp} {s : Shared}
theorem tk_of_key (I : Inv X pins σ H s) : ∀ {k : TK} {v : V} {u : Value}, KeyV X.K H k v → RelV v u → IsTK X.prog X.w s.heap k u
  | none, v, u, x, r => by
    rw [show v = V.non from x] at r
    exact r
  | some ns, v, u, x, r => by
    obtain ⟨b, rfl, hb⟩ := x
    exact ⟨b, r, I.isT hb⟩
theorem tk_of_at (I : Inv X pins σ H s) {x : KA} (h : KeyAt X.K H x) : IsTK X.prog X.w s.heap (kaVal x).1 (kaVal x).2 := by
  obtain ⟨k, b⟩ := x
  cases k with
  | none => exact rfl
  | some ns => exact ⟨b, rfl, I.isT (h ns rfl)⟩
theorem kaVal_keys (xs : List KA) : (xs.map kaVal).map (·.1) = xs.map (·.1) := by rw [List.map_map]; rfl
variable {a : Addr} {xs : List KA} {k : TK} {x : V} {u : Value}
/-- the key is looked for -/
theorem dn_get {A : Around} {E : Value → Shared → Prop} {Q : Option Value → Shared → Prop} (hu : A.units < cLine) (I : Inv X pins σ H s) (d : DicN X.prog X.w X.K H a xs) (hk : KeyV X.K H k x) (ru : RelV x u)
    (h : ∀ tk r, r.isSome = decide (k ∈ xs.map (·.1)) → Q r { s with toks := tk }) : wpAny (model X.prog X.w) A (dictGet a u) Q E s := by
  obtain ⟨⟨o, es, ep, ho, hx, hd, he⟩, _⟩ := I.hok a _ d.ob
  have hkey := tk_of_key I hk ru
  unfold dictGet
  try with_reducible refine wpAny_holding ?_
  refine wpAny_bind (tk_hash hu hkey fun tk => wpAny_bind (tk_find (s := { s with toks := tk }) hu hkey ho hd he (fun y hy => ?_) (by rw [kaVal_keys]; exact d.nd) (fun hno => ?_) fun j v hj => ?_))
  · obtain ⟨z, hz, rfl⟩ := List.mem_map.mp hy
    exact tk_of_at I (d.at_ z hz)
  · rw [kaVal_keys] at hno
    refine wpAny_pure (h tk none ?_)
    rw [decide_eq_false hno]; rfl
  · refine wpAny_bind (wpAny_dictEntries (s := { s with toks := tk }) ho hd ?_)
    have e : es[j]? = some (entTK X.prog X.w (k, v)) := by rw [← Array.getElem?_toList, he, List.getElem?_map, hj]; rfl
    rw [e]
    refine wpAny_pure (h tk _ ?_)
    have hm : k ∈ xs.map (·.1) := by
      rw [← kaVal_keys]
      exact List.mem_map.mpr ⟨(k, v), List.mem_of_getElem? hj, rfl⟩
    rw [decide_eq_true hm]; rfl
theorem dn_typeIs (I : Inv X pins σ H s) (d : DicN X.prog X.w X.K H a xs) : s.TypeIs (.ref a) "dict" := by
  obtain ⟨⟨o, es, ep, ho, hx, _⟩, _⟩ := I.hok a _ d.ob
  exact ⟨o, ho, hx.1⟩
theorem dn_contains {A : Around} {E : Value → Shared → Prop} {Q : Bool → Shared → Prop} (hu : A.units + 1 < cLine) (I : Inv X pins σ H s) (d : DicN X.prog X.w X.K H a xs) (hk : KeyV X.K H k x) (ru : RelV x u)
    (h : ∀ tk, Q (decide (k ∈ xs.map (·.1))) { s with toks := tk }) : wpAny (model X.prog X.w) A (contains (.ref a) u) Q E s := by
  have hT := dn_typeIs I d
  refine wpAny_contains_slot hT F.slot_dict_contains ?_
  refine call_meetsIn F.slot_dict_contains hT F.entry_dict_contains (F.args_dict_contains_2 _ _)
    (S := fun A' R s' => A' = A ∧ s' = s ∧ ∀ tk, R (.ok (.ret (.bool (decide (k ∈ xs.map (·.1)))))) { s with toks := tk }) (.of_wp fun A' R s' hS => ?_) ⟨rfl, rfl, fun tk => wpAny_truthy_bool (h tk)⟩
  obtain ⟨rfl, rfl, hq⟩ := hS
  show wpAny _ _ (dictGet a u >>= _) _ _ _
  refine wpAny_bind (dn_get (show A'.in1.units < cLine from hu) I d hk ru fun tk r hr => ?_)
  cases r with
  | some p =>
    rw [← hr] at hq
    show wpAny _ _ (ret (.bool true)) _ _ _
    exact wpAny_pure ⟨_, rfl, hq tk⟩
  | none =>
    rw [← hr] at hq
    show wpAny _ _ (Builtin.Dict.pendingKey? a u >>= _) _ _ _
    exact wpAny_bind (wpAny_pendingKey_other d.sys (wpAny_pure ⟨_, rfl, hq tk⟩))
end
section
variable {X : Cx}
def rInN (P : Program) (w : World) (K : PySem.W.Frag) (neg : Bool) : R2 := fun x y H Q => ∃ a xs k, y = .ref a ∧ DicN P w K H a xs ∧ KeyV K H k x ∧ Q (.bl (if neg then !decide (k ∈ xs.map (·.1)) else decide (k ∈ xs.map (·.1)))) H
theorem op_inN (hu : X.A.units + 1 < cLine) : OpR X (compareOp .In) (rInN X.prog X.w X.K false) := by
  intro pins s σ H x y v u Q I rx ry h
  obtain ⟨a, xs, k, rfl, d, hk, q⟩ := h
  cases ry
  show wpAny _ _ ((do return Value.bool (← contains (.ref a) v)) : Sem Value) _ _ s
  exact wpAny_bind (dn_contains hu I d hk rx fun tk => wpAny_pure ⟨.bl _, H, I.tok tk, rfl, q⟩)
theorem op_notInN (hu : X.A.units + 1 < cLine) : OpR X (compareOp .NotIn) (rInN X.prog X.w X.K true) := by
  intro pins s σ H x y v u Q I rx ry h
  obtain ⟨a, xs, k, rfl, d, hk, q⟩ := h
  cases ry
  show wpAny _ _ ((do return Value.bool (!(← contains (.ref a) v))) : Sem Value) _ _ s
  exact wpAny_bind (dn_contains hu I d hk rx fun tk => wpAny_pure ⟨.bl _, H, I.tok tk, rfl, q⟩)
/-- {} -/
def tDNewN (P : Program) (w : World) : TE := fun _ H Q => ∀ p, H p = none → (p == sysModules) = false → Q (.ref p) (upd H p (DNO P w p []))
theorem pe_dnewN {pos : Pos} : PE X (.Dict [] [] pos) (tDNewN X.prog X.w) := ⟨fun pins s σ H Q I h =>
  wpAny_Dict_empty ⟨.ref s.heap.objs.size, _, I.laid (a := s.heap.objs.size) (o := DNO X.prog X.w s.heap.objs.size []) (t' := s.toks) (fun _ _ q => Heap.get?_push_of_some _ q) (Nat.le_refl _)
    (dno_ok ⟨_, #[], 0, Heap.get?_push_size _ rfl, ⟨rfl, rfl, rfl⟩, rfl, rfl⟩), rfl, h _ (I.hok.fresh (Nat.le_refl _)) (beq_eq_false_iff_ne.mpr (Ne.symm (Nat.ne_of_lt I.big)))⟩⟩
end
end Uw
end
section
set_option Elab.async false
set_option linter.all false
set_option maxRecDepth 100000
set_option maxHeartbeats 4000000
namespace Uw
open PySem PySem.Spec PyProof.Rows L2
section
variable {X : Cx} {pins : List (Addr × Obj)} {σ : L2.St} {H : Hp} {s : Shared} {a : Addr} {xs : List KA} {k : TK} {x : V} {u : Value}
theorem dn_write {h' : Heap} {tk : Nat} {ys : List KA} (I : Inv X pins σ H s) (d : DicN X.prog X.w X.K H a xs) (hs : Heap.SameBut a s.heap h') (new : DN0 X.prog X.w h' a ys) : Inv X pins σ (upd H a (DNO X.prog X.w a ys)) { s with heap := h', toks := tk } := by
  have ⟨o, _, _, ho, _⟩ := new
  exact d_write I (by rw [d.ob]; exact True.intro) hs ⟨o, ho⟩ (dno_ok new)
/-- the address that goes with a key -/
def adK : TK → V → Addr
  | some _, .ref b => b
  | _, _ => 0
theorem kaVal_new {K : PySem.W.Frag} {H : Hp} : ∀ {k : TK} {x : V} {u : Value}, KeyV K H k x → RelV x u → kaVal (k, adK k x) = (k, u)
  | none, x, u, h, r => by
    rw [show x = V.non from h] at r
    rw [show u = Value.none from r]; rfl
  | some ns, x, u, h, r => by
    obtain ⟨b, rfl, _⟩ := h
    cases r; rfl
theorem keyAt_new {K : PySem.W.Frag} {H : Hp} : ∀ {k : TK} {x : V}, KeyV K H k x → KeyAt K H (k, adK k x)
  | none, x, h => fun ns e => nomatch e
  | some ns, x, h => fun ns' e => by
    obtain ⟨b, rfl, hb⟩ := h
    cases e
    exact hb
theorem dn_set {A : Around} {E : Value → Shared → Prop} {Q : Unit → Shared → Prop} (hu : A.units + 1 < cLine) (I : Inv X pins σ H s) (d : DicN X.prog X.w X.K H a xs) (hk : KeyV X.K H k x) (ru : RelV x u) (hn : k ∉ xs.map (·.1)) (hz : xs.length < sizeLine)
    (h : ∀ s', Inv X pins σ (upd H a (DNO X.prog X.w a (xs ++ [(k, adK k x)]))) s' → Q () s') : wpAny (model X.prog X.w) A (setItem (.ref a) u (.bool true)) Q E s := by
  have hT := dn_typeIs I d
  obtain ⟨⟨o, es, ep, ho, hx, hd, he⟩, _⟩ := I.hok a _ d.ob
  have hkey := tk_of_key I hk ru
  have hsz : es.size = xs.length := by rw [← Array.length_toList, he, List.length_map, List.length_map]
  unfold setItem
  try with_reducible refine wpAny_holding ?_
  refine wpAny_bind (wpAny_sequenceKey hT (by decide) ?_)
  refine wpAny_bind (wpAny_callSpecial?_slot (name := Str.ofString "__setitem__") hT slot_dict_setitem (wpAny_call_entry slot_dict_setitem hT entry_dict_setitem ?_ (args_dict_setitem _ _ _)))
  show wpAny _ _ (Builtin.Dict.notOrdered "__setitem__" ⟨[.ref a, u, .bool true], []⟩ >>= _) _ _ s
  refine wpAny_bind (wpAny_notOrdered_dict hT ?_)
  show wpAny _ _ (dictSet a u (.bool true) >>= _) _ _ s
  refine wpAny_bind ?_
  unfold dictSet
  try with_reducible refine wpAny_holding ?_
  refine wpAny_bind (tk_hash (show A.in1.units < cLine from hu) hkey fun tk => ?_)
  unfold dictSetHashed
  try with_reducible refine wpAny_holding ?_
  refine wpAny_bind (tk_find (s := { s with toks := tk }) (show A.in1.units < cLine from hu) hkey ho hd he (fun y hy => ?_) (by rw [kaVal_keys]; exact d.nd) (fun hno => ?_) fun j v hj => ?_)
  · obtain ⟨z, hz, rfl⟩ := List.mem_map.mp hy
    exact tk_of_at I (d.at_ z hz)
  · refine wpAny_bind (wpAny_rule (wpAny_updateDictKeys (hz := by omega) (s := { s with toks := tk }) ho hd ?_))
    refine wpAny_pure ⟨.none, rfl, wpAny_pure (h _ (dn_write (s := { s with toks := tk }) (tk := tk) (I.tok tk) d (Heap.SameBut.update ..) ⟨_, _, ep + 1, Heap.get?_update_self _ ho (Obj.isFreed_of_dict (Obj.data_mapDictKeys hd _)), hx.mapDictKeys _, Obj.data_mapDictKeys hd _, ?_⟩))⟩
    rw [List.map_append, List.map_append, ← he]
    show (es.push _).toList = _
    rw [Array.toList_push, List.map_cons, List.map_nil, kaVal_new hk ru]
    rfl
  · refine absurd ?_ hn
    rw [← kaVal_keys]
    exact List.mem_map.mpr ⟨(k, v), List.mem_of_getElem? hj, rfl⟩
end
theorem KeyAt.keep {K : PySem.W.Frag} {H H' : Hp} {x : KA} (h : KeyAt K H x) (k : ∀ b xs, SqT K H b xs → SqT K H' b xs) : KeyAt K H' x := fun ns e => k _ _ (h ns e)
theorem sqT_upd {K : PySem.W.Frag} {H : Hp} {a : Addr} {o : HO} (hm : ∀ ys, ¬ Rd H a (.tup ys)) {b : Addr} {xs : List V} (h : SqT K H b xs) : SqT K (upd H a o) b xs := by
  rcases h with h | h
  · have ne : b ≠ a := fun e => hm xs (e ▸ h)
    rcases h with h | ⟨o', h⟩
    · exact .inl (.inl (by rw [upd_ne ne]; exact h))
    · exact .inl (.inr ⟨o', by rw [upd_ne ne]; exact h⟩)
  · exact .inr h
theorem dno_notup {P : Program} {w : World} {H : Hp} {a : Addr} {xs : List KA} (h : H a = some (DNO P w a xs)) : ∀ ys, ¬ Rd H a (.tup ys) := fun ys z => by
  rcases z with z | ⟨o, z⟩
  · rw [h] at z; cases z
  · rw [h] at z; cases z
section
variable {X : Cx}
/-- d[k] = True, k not there yet -/
def rSetN (P : Program) (w : World) (K : PySem.W.Frag) : TSet := fun o i v H Q => ∃ a xs k, o = .ref a ∧ v = .bl true ∧ DicN P w K H a xs ∧ KeyV K H k i ∧ k ∉ xs.map (·.1) ∧ xs.length < sizeLine ∧
  ∀ b, b = adK k i → DicN P w K (upd H a (DNO P w a (xs ++ [(k, b)]))) a (xs ++ [(k, b)]) → Q (upd H a (DNO P w a (xs ++ [(k, b)])))
theorem set_dN (hu : X.A.units + 1 < cLine) : PSet X (rSetN X.prog X.w X.K) := by
  intro pins s σ H o i v ov iv u Q I ro ri rv h
  obtain ⟨a, xs, k, rfl, rfl, d, hk, hn, hz, q⟩ := h
  cases ro
  cases rv
  refine dn_set hu I d hk ri hn hz fun s' I' => ⟨_, I', q _ rfl ⟨upd_same, d.sys, ?_, fun y hy => ?_⟩⟩
  · rw [List.map_append, List.nodup_append]
    exact ⟨d.nd, by simp, fun y hy z hz e => hn (by rw [List.map_cons, List.map_nil, List.mem_singleton] at hz; rw [← (show z = k from hz), ← e]; exact hy)⟩
  · have kp : ∀ b ys, SqT X.K H b ys → SqT X.K (upd H a (DNO X.prog X.w a (xs ++ [(k, adK k i)]))) b ys := fun b ys => sqT_upd (dno_notup d.ob)
    rcases List.mem_append.mp hy with z | z
    · exact (d.at_ y z).keep kp
    · rw [List.mem_singleton.mp z]
      exact (keyAt_new hk).keep kp
/-! ### the keys, walked -/
def ItN (K : PySem.W.Frag) (P : Program) (w : World) (d : Addr) (o : Obj) (xs : List KA) : It :=
  ⟨fun i H => H d = some (.frz o (DNO P w d xs)) ∧ i < xs.length, fun i H x H' => H' = H ∧ ∃ y, xs[i]? = some y ∧ x = (match y.1 with | none => V.non | some _ => V.ref y.2), fun i H => H d = some (.frz o (DNO P w d xs)) ∧ xs.length ≤ i⟩
theorem frzN {pins : List (Addr × Obj)} {σ : L2.St} {H : Hp} {s : Shared} {d : Addr} {o : Obj} {xs : List KA} (I : Inv X pins σ H s) (h : H d = some (.frz o (DNO X.prog X.w d xs))) :
    s.heap.get? d = some o ∧ o.ExactDict ∧ ∃ es ep, o.data = .dict es ep ∧ es.toList = (xs.map kaVal).map (entTK X.prog X.w) ∧ es.size = xs.length := by
  obtain ⟨hg, ⟨o', es, ep, ho, hx, hd, he⟩, _⟩ := I.hok d _ h
  rw [hg] at ho
  cases ho
  exact ⟨hg, hx, es, ep, hd, he, by rw [← Array.length_toList, he, List.length_map, List.length_map]⟩
theorem turn_keysN {P : Program} {w : World} {K : PySem.W.Frag} {tg : Expr} {d : Addr} {o : Obj} {es : Array DictEntry} {ep : Nat} {xs : List KA} (it : Addr) (hod : o.data = .dict es ep) :
    Turn P w K tg (ItN K P w d o xs) [it] it (fun i h => h.IsKeyIter it d i xs.length ep) where
  mem := by simp
  obj := fun i h st b hb => by
    rw [List.mem_singleton.mp hb]
    obtain ⟨oi, e, c, dd⟩ := st
    exact ⟨oi, e, fun v z => by rw [dd] at z; cases z⟩
  keep := fun i h h' st k => st.at fun oi e => k it (by simp) oi e
  item := by
    intro X hP hw hK hc i pins s σ H E I hf st hg
    subst hP hw hK
    obtain ⟨hd, hi⟩ := hg
    obtain ⟨f0, f1, f2, f3, f4, f5⟩ := hf it (by simp)
    obtain ⟨hgd, hx, es', ep', hdt, he, hsz⟩ := frzN I hd
    obtain ⟨rfl, rfl⟩ := dict_ep hod hdt
    have hen : es'[i]? = some (entTK X.prog X.w (kaVal xs[i])) := by
      rw [← Array.getElem?_toList, he, List.getElem?_map, List.getElem?_map, List.getElem?_eq_getElem hi]; rfl
    refine next_key_item st hgd hdt hsz hen fun h' st' sb => ?_
    have I1 : Inv X pins σ H { s with heap := h' } := I.turned (t' := s.toks) (fun b ob hb e => (sb.2 b hb).trans e) f0 f1 f3 f4 f5
    obtain ⟨oi, e, c, dd⟩ := id st'
    refine ⟨(kaVal xs[i]).2, rfl, go_of (s := { s with heap := h' }) e c dd (by decide) ⟨_, H, I1, ?_, ⟨rfl, xs[i], List.getElem?_eq_getElem hi, rfl⟩, st', fun b hb => (hf b hb).1⟩⟩
    show RelV (match xs[i].1 with | none => V.non | some _ => V.ref xs[i].2) (match xs[i].1 with | none => Value.none | some _ => Value.ref xs[i].2)
    cases xs[i].1 <;> rfl
  done := by
    intro X hP hw hK hc i pins s σ H E I hf st hg
    subst hP hw hK
    obtain ⟨hd, hi⟩ := hg
    obtain ⟨f0, f1, f2, f3, f4, f5⟩ := hf it (by simp)
    obtain ⟨hgd, hx, es', ep', hdt, he, hsz⟩ := frzN I hd
    obtain ⟨rfl, rfl⟩ := dict_ep hod hdt
    exact next_key_end (I.ok.hd hc) st hgd hdt hsz hi fun h' eb => ⟨rfl, I.turned (t' := s.toks) (fun b ob hb e => eb b ob hb e) f0 f1 f3 f4 f5⟩
  self := fun A i s Q E st h => (turn_keysT (P := P) (w := w) (K := K) (tg := tg) (d := d) (kvs := xs.map fun _ => ([], V.non)) it hod).self A i s Q E (by rw [List.length_map]; exact st) h
def iKeysN (K : PySem.W.Frag) (P : Program) (w : World) (td : TE) : TI := fun σ H R => td σ H fun x H1 => ∃ d o xs, x = .ref d ∧ (d == sysModules) = false ∧ H1 d = some (.frz o (DNO P w d xs)) ∧ R (ItN K P w d o xs) H1
theorem pi_keysN {tg e : Expr} {td : TE} (he : PE X e td) : PI X tg e (iKeysN X.K X.prog X.w td) := by
  refine ⟨fun pins s σ H R I h => ?_⟩
  refine thn (he.run pins s σ H _ I h) fun u s1 ⟨x, H1, I1, rx, d, o, xs, ex, hs, hd, q⟩ => ?_
  subst ex
  obtain rfl : u = Value.ref d := rx
  obtain ⟨hgd, hx, es, ep, hdt, _, hsz⟩ := frzN I1 hd
  refine iter_keys hs hgd hx hdt (pi_one (tk := s1.toks) I1 _ (turn_keysN _ hdt) ⟨_, Heap.get?_push_size _ rfl, rfl, ?_⟩ q)
  rw [hsz] <;> rfl
end
end Uw
end
section
set_option Elab.async false
set_option linter.all false
set_option maxRecDepth 100000
set_option maxHeartbeats 4000000
namespace Uw
open PySem PySem.Spec PyProof.Rows L2
section
variable {X : Cx}
theorem call_max3 (hc : X.calm = true) : CallR X (.builtin "max") (fun xs H Q => ∃ i j k, xs = [.int i, .int j, .int k] ∧ Q (.int (if j > i then (if k > j then k else j) else (if k > i then k else i))) H) := by
  intro pins s σ H xs us Q I r h
  obtain ⟨i, j, k, rfl, q⟩ := h
  cases r with
  | cons r1 r =>
    cases r with
    | cons r2 r =>
      cases r with
      | cons r3 r =>
        cases r
        obtain ⟨t1, rfl⟩ := r1
        obtain ⟨t2, rfl⟩ := r2
        obtain ⟨t3, rfl⟩ := r3
        refine max_three_ints (I.ok.hd hc) fun h' tk kp => ⟨_, H, I.kept kp, ?_, q⟩
        split <;> split <;> exact ⟨_, rfl⟩
/-- every c-th item of xs from lo on, ahead of hi: some of xs, no more than there are such places -/
def rStep (K : PySem.W.Frag) : V → Int → Int → Int → Hp → VK → Prop := fun x lo hi c H Q => ∃ (a : Addr) (ns : List Int), x = .ref a ∧ SqL K H a (ns.map V.int) ∧ 0 < c ∧ 0 ≤ lo ∧ lo ≤ hi ∧ (hi - lo + c - 1) / c ≤ 1000 ∧
  ∀ (zs : List Int) (p : Addr), (zs.length : Int) ≤ (hi - lo + c - 1) / c → (∀ z ∈ zs, z ∈ ns) → H p = none → Q (.ref p) (upd H p (.lst (zs.map V.int)))
def tStep (K : PySem.W.Frag) (te : TE) (tl th tc : TO) : TE := fun σ H Q => te σ H fun x H1 => tl σ H1 fun l H2 => th σ H2 fun u H3 => tc σ H3 fun c H4 => ∃ lo hi st, l = some lo ∧ u = some hi ∧ c = some st ∧ rStep K x lo hi st H4 Q
theorem pick_some {items : Array Value} {lo hi c : Int} (h0 : 0 < c) (h1 : 0 ≤ lo) (h2 : lo ≤ hi) : ((slicePick items (some lo) (some hi) (some c)).toList.length : Int) ≤ (hi - lo + c - 1) / c ∧ ∀ v ∈ (slicePick items (some lo) (some hi) (some c)).toList, v ∈ items.toList := by
  unfold slicePick
  refine ⟨?_, fun v hv => ?_⟩
  · refine Int.le_trans (Int.ofNat_le.mpr (List.length_filterMap_le _ _)) ?_
    unfold sliceRange
    rw [List.length_map, List.length_range]
    have e : sliceBounds (some lo) (some hi) (some c) items.size = (max 0 (min lo items.size), max 0 (min hi items.size), c) := by
      unfold sliceBounds
      simp only [Option.getD_some, gt_iff_lt, h0, if_true]
      rw [if_neg (by omega), if_neg (by omega)]
    rw [e]
    simp only [gt_iff_lt, h0, if_true]
    split
    · rw [Int.toNat_of_nonneg (Int.ediv_nonneg (by omega) (by omega))]
      exact Int.ediv_le_ediv h0 (by omega)
    · exact Int.ediv_nonneg (by omega) (by omega)
  · obtain ⟨i, _, e⟩ := List.mem_filterMap.mp hv
    exact Array.mem_toList_iff.mpr (Array.mem_of_getElem? e)
theorem ints_sub {ns : List Int} {all : List Value} (r : IntsAre all ns) : ∀ {us : List Value}, (∀ u ∈ us, u ∈ all) → ∃ zs : List Int, Vals (zs.map V.int) us ∧ ∀ z ∈ zs, z ∈ ns
  | [], _ => ⟨[], .nil, fun z h => nomatch h⟩
  | u :: us, h => by
    obtain ⟨zs, h1, h2⟩ := ints_sub r (us := us) fun v hv => h v (List.mem_cons_of_mem _ hv)
    obtain ⟨i, hi⟩ := List.mem_iff_getElem?.mp (h u List.mem_cons_self)
    have hlt : i < ns.length := by rw [← IntsAre.length r]; exact (List.getElem?_eq_some_iff.mp hi).1
    obtain ⟨t, e⟩ := PyProof.Rows.IntsAre.int_at r i u hi
    have eg : ns.getD i 0 = ns[i] := by rw [List.getD_eq_getElem?_getD, List.getElem?_eq_getElem hlt]; rfl
    refine ⟨ns[i] :: zs, .cons ⟨t, by rw [e, eg]⟩ h1, fun z hz => ?_⟩
    rcases List.mem_cons.mp hz with z' | z'
    · rw [z']; exact List.getElem_mem hlt
    · exact h2 z z'
theorem pe_step {e lo hi c : Expr} {te : TE} {tl th tc : TO} {p2 pos : Pos} (he : PE X e te) (hl : PO X (some lo) tl) (hu : PO X (some hi) th) (hc : PO X (some c) tc) :
    PE X (.Subscript e (.Slice (some lo) (some hi) (some c) p2) pos) (tStep X.K te tl th tc) := by
  refine ⟨fun pins s σ H Q I h => ?_⟩
  refine Subscript_ (thn (he.run pins s σ H _ I h) fun v s1 ⟨x, H1, I1, r1, q1⟩ => ?_)
  refine wpAny_Slice (thn (hl.run pins s1 σ H1 _ I1 q1) fun vl s2 ⟨l, H2, I2, pl, q2⟩ => thn (hu.run pins s2 σ H2 _ I2 q2) fun vu s3 ⟨u, H3, I3, pu, q3⟩ => thn (hc.run pins s3 σ H3 _ I3 q3) fun vc s4 ⟨cc, H4, I4, pc, q4⟩ => ?_)
  obtain ⟨lo', hi', st, rfl, rfl, rfl, a, ns, rfl, hS, h0, h1, h2, h3, q⟩ := q4
  cases r1
  have I5 : Inv X pins σ H4 { s4 with heap := s4.heap.push { cls := .type "slice", data := .fields #[vl, vu, vc] } } := I4.kept (t' := s4.toks) fun b ob q => Heap.get?_push_of_some _ q
  obtain ⟨its, rv, ht, hz⟩ := I5.list hS
  have hI := intsAre_of rv
  obtain ⟨b1, b2⟩ := pick_some (items := its.toArray) h0 h1 h2
  obtain ⟨zs, rz, hzs⟩ := ints_sub hI (us := (slicePick its.toArray (some lo') (some hi') (some st)).toList) fun u hu => by simpa using b2 u hu
  have hzl : zs.length = (slicePick its.toArray (some lo') (some hi') (some st)).toList.length := by rw [← rz.length, List.length_map]
  have hn := I5.hok.fresh (Nat.le_refl _)
  have hle : (zs.map V.int).length ≤ sizeLine := by
    rw [List.length_map, sizeLine_eq]
    omega
  show wpAny (model X.prog X.w) X.A (subscriptTail e (.Slice (some lo) (some hi) (some c) p2) (.ref a) (.ref s4.heap.objs.size)) (EP X pins σ Q) X.xe { s4 with heap := s4.heap.push { cls := .type "slice", data := .fields #[vl, vu, vc] } }
  refine tail_any (ops := [.ref a, .ref s4.heap.objs.size]) ht.isList.typeIs slot_list_getitem.lookup
    (wpAny_getItem_list_slice ht.isList (Heap.IsSliceOf.new ..) pl pu pc (by intro z; rw [Option.some.inj z] at h0; omega) ?_ (by have := rv.length; rw [List.size_toArray]; omega)) (by with_unfolding_all rfl)
  exact ⟨.ref _, _, I5.laid (t' := s4.toks) (o := .lst (zs.map V.int)) (fun b ob q => Heap.get?_push_of_some _ q) (Nat.le_refl _) ⟨hle, _, 0, rz, Heap.get?_push_size _ rfl⟩, rfl, q zs _ (by rw [hzl]; exact b1) hzs hn⟩
end
end Uw
end
section
set_option Elab.async false
set_option linter.all false
set_option maxRecDepth 100000
set_option maxHeartbeats 4000000
namespace Uw
open PySem PySem.Spec PyProof.Rows L2 Evl
/-! what a value stands for: data -/
inductive Dt where
  | non | bl (b : Bool) | int (i : Int) | str (s : PySem.Str) | lst (l : List Dt) | tup (l : List Dt) | dct (ks : List TK) | scr (ns : List Int)
structure Kw where
  K : PySem.W.Frag
  P : Program
  w : World
  mg : PySem.Str → Option Value
  base : Heap
def KeyH (H : Hp) (x : KA) : Prop := ∀ ns, x.1 = some ns → H x.2 = some (.tup (ns.map V.int))
theorem KeyH.mono {H H' : Hp} {x : KA} (e : Evl.Ex H H') (h : KeyH H x) : KeyH H' x := fun ns q => e _ _ (h ns q)
theorem KeyH.at_ {K : PySem.W.Frag} {H : Hp} {x : KA} (h : KeyH H x) : KeyAt K H x := fun ns q => st_of (h ns q)
mutual
inductive Rp (k : Kw) (H : Hp) : V → Dt → Prop
  | non : Rp k H .non .non
  | bl (b : Bool) : Rp k H (.bl b) (.bl b)
  | int (i : Int) : Rp k H (.int i) (.int i)
  | str (x : PySem.Str) : Rp k H (.str x) (.str x)
  | lst {a : Addr} {xs : List V} {ds : List Dt} : H a = some (.lst xs) → RpA k H xs ds → Rp k H (.ref a) (.lst ds)
  | tup {a : Addr} {xs : List V} {ds : List Dt} : H a = some (.tup xs) → RpA k H xs ds → Rp k H (.ref a) (.tup ds)
  | dct {a : Addr} {xs : List KA} : DicN k.P k.w k.K H a xs → (∀ y ∈ xs, KeyH H y) → Rp k H (.ref a) (.dct (xs.map (·.1)))
  | scr {a : Addr} {ns : List Int} : SqL k.K H a (ns.map V.int) → Rp k H (.ref a) (.scr ns)
inductive RpA (k : Kw) (H : Hp) : List V → List Dt → Prop
  | nil : RpA k H [] []
  | cons {v : V} {vs : List V} {d : Dt} {ds : List Dt} : Rp k H v d → RpA k H vs ds → RpA k H (v :: vs) (d :: ds)
end
theorem dicN_mono {P : Program} {w : World} {K : PySem.W.Frag} {H H' : Hp} {a : Addr} {xs : List KA} (e : Ex H H') (d : DicN P w K H a xs) : DicN P w K H' a xs :=
  ⟨e _ _ d.ob, d.sys, d.nd, fun y hy => (d.at_ y hy).keep fun _ _ h => ex_t e h⟩
mutual
theorem Rp.mono {k : Kw} {H H' : Hp} (e : Ex H H') : ∀ {v : V} {d : Dt}, Rp k H v d → Rp k H' v d
  | _, _, .non => .non
  | _, _, .bl b => .bl b
  | _, _, .int i => .int i
  | _, _, .str x => .str x
  | _, _, .lst h r => .lst (e _ _ h) (RpA.mono e r)
  | _, _, .tup h r => .tup (e _ _ h) (RpA.mono e r)
  | _, _, .dct h h2 => .dct (dicN_mono e h) fun y hy => (h2 y hy).mono e
  | _, _, .scr h => .scr (ex_l e h)
theorem RpA.mono {k : Kw} {H H' : Hp} (e : Ex H H') : ∀ {vs : List V} {ds : List Dt}, RpA k H vs ds → RpA k H' vs ds
  | _, _, .nil => .nil
  | _, _, .cons h r => .cons (Rp.mono e h) (RpA.mono e r)
end
section
variable {k : Kw} {H : Hp}
theorem RpA.length {vs : List V} {ds : List Dt} (r : RpA k H vs ds) : vs.length = ds.length := by
  induction vs generalizing ds with
  | nil => cases r; rfl
  | cons v vs ih => cases r with | cons h r => rw [List.length_cons, List.length_cons, ih r]
theorem RpA.get : ∀ {vs : List V} {ds : List Dt} {i : Nat} {d : Dt}, RpA k H vs ds → ds[i]? = some d → ∃ v, vs[i]? = some v ∧ Rp k H v d
  | _, _, i, d, .nil, h => by simp at h
  | _, _, 0, d, .cons h _, e => ⟨_, rfl, by cases e; exact h⟩
  | _, _, i + 1, d, .cons _ r, e => by obtain ⟨v, a, b⟩ := RpA.get (i := i) r e; exact ⟨v, a, b⟩
theorem RpA.getV : ∀ {vs : List V} {ds : List Dt} {i : Nat} {v : V}, RpA k H vs ds → vs[i]? = some v → ∃ d, ds[i]? = some d ∧ Rp k H v d
  | _, _, i, d, .nil, h => by simp at h
  | _, _, 0, d, .cons h _, e => ⟨_, rfl, by cases e; exact h⟩
  | _, _, i + 1, d, .cons _ r, e => by obtain ⟨v, a, b⟩ := RpA.getV (i := i) r e; exact ⟨v, a, b⟩
theorem RpA.app : ∀ {vs ws : List V} {ds es : List Dt}, RpA k H vs ds → RpA k H ws es → RpA k H (vs ++ ws) (ds ++ es)
  | _, _, _, _, .nil, s => s
  | _, _, _, _, .cons h r, s => .cons h (r.app s)
theorem RpA.take : ∀ {vs : List V} {ds : List Dt} (n : Nat), RpA k H vs ds → RpA k H (vs.take n) (ds.take n)
  | _, _, 0, _ => .nil
  | _, _, n + 1, .nil => .nil
  | _, _, n + 1, .cons h r => .cons h (r.take n)
theorem RpA.drop : ∀ {vs : List V} {ds : List Dt} (n : Nat), RpA k H vs ds → RpA k H (vs.drop n) (ds.drop n)
  | _, _, 0, r => r
  | _, _, n + 1, .nil => .nil
  | _, _, n + 1, .cons h r => r.drop n
theorem RpA.set : ∀ {vs : List V} {ds : List Dt} {i : Nat} {v : V} {d : Dt}, RpA k H vs ds → Rp k H v d → RpA k H (vs.set i v) (ds.set i d)
  | _, _, _, _, _, .nil, _ => .nil
  | _, _, 0, _, _, .cons h r, s => .cons s r
  | _, _, i + 1, _, _, .cons h r, s => .cons h (r.set s)
theorem RpA.ints : ∀ {vs : List V} {ns : List Int}, RpA k H vs (ns.map Dt.int) → vs = ns.map V.int
  | _, [], r => by cases r; rfl
  | _, n :: ns, r => by
    cases r with
    | cons h r => cases h; rw [r.ints]; rfl
theorem RpA.ofInts : ∀ {ns : List Int}, RpA k H (ns.map V.int) (ns.map Dt.int)
  | [] => .nil
  | n :: ns => .cons (.int n) ofInts
theorem RpA.strs : ∀ {vs : List V} {ns : List PySem.Str}, RpA k H vs (ns.map Dt.str) → vs = ns.map V.str
  | _, [], r => by cases r; rfl
  | _, n :: ns, r => by
    cases r with
    | cons h r => cases h; rw [r.strs]; rfl
theorem RpA.ofStrs : ∀ {ns : List PySem.Str}, RpA k H (ns.map V.str) (ns.map Dt.str)
  | [] => .nil
  | n :: ns => .cons (.str n) ofStrs
end
/-! ### changing things, slots, what is around -/
structure Mut where
  at_ : V → Hp → Hp → List Addr → Prop
  keep : ∀ {v : V} {H0 H H0' H' : Hp} {fp : List Addr}, at_ v H0 H fp → Ex H0 H0' → (∀ a ∈ fp, H' a = H a) → at_ v H0' H' fp
inductive Ent where
  | d (x : Dt)
  | m (own : Bool) (u : Mut)
abbrev EV := List (Option Ent)
def EntAt (k : Kw) (G : Hp) (v : V) (H0 H : Hp) : Ent → List Addr → Prop
  | .d x, _ => Rp k H0 v x
  | .m own u, fp => u.at_ v H0 H fp ∧ (own = true → ∀ a ∈ fp, G a = none)
structure Wld (M : List Addr) (G0 G H0 H : Hp) : Prop where
  fz : Ex G0 H0
  in_ : Ex H0 H
  kp : ∀ a o, a ∉ M → G a = some o → H a = some o
  nw : ∀ a, H0 a ≠ none → G0 a ≠ none ∨ G a = none
  tr : ∀ a, G a ≠ none → H a ≠ none
theorem Wld.refl {M : List Addr} {G0 G : Hp} (h : Ex G0 G) : Wld M G0 G G0 G := ⟨Ex.refl _, h, fun _ _ _ h => h, fun _ h => .inl h, fun _ h => h⟩
theorem Wld.trans {M : List Addr} {G0 G H0 H I0 I : Hp} (a : Wld M G0 G H0 H) (b : Wld M H0 H I0 I) : Wld M G0 G I0 I :=
  ⟨a.fz.trans b.fz, b.in_, fun x o n h => b.kp x o n (a.kp x o n h), fun x h => by
    rcases b.nw x h with h | h
    · exact a.nw x h
    · exact .inr (Classical.byContradiction fun z => a.tr x z h), fun x h => b.tr x (a.tr x h)⟩
/-- all fits M's addresses when it fits none's -/
theorem Wld.wide {M : List Addr} {G0 G H0 H : Hp} (a : Wld [] G0 G H0 H) : Wld M G0 G H0 H := ⟨a.fz, a.in_, fun x o _ h => a.kp x o (by simp) h, a.nw, a.tr⟩
structure Env (k : Kw) (M : List Addr × V) (G0 G : Hp) (σ : L2.St) (H0 H : Hp) (ds : EV) : Prop where
  wld : Wld M.1 G0 G H0 H
  len : ds.length = σ.length
  pin : ∀ (n : Nat) (u : Mut), ds[n]? = some (some (.m false u)) → σ[n]? = some (some M.2)
  ent : ∃ F : Nat → List Addr, (∀ i e, ds[i]? = some (some e) → ∃ v, σ[i]? = some (some v) ∧ EntAt k G v H0 H e (F i)) ∧ (∀ i j a, a ∈ F i → a ∈ F j → i = j) ∧
    ∀ i a, a ∈ F i → H0 a = none ∧ (a ∈ M.1 ∨ G a = none) ∧ H a ≠ none
section
variable {k : Kw} {M : List Addr × V} {G0 G H0 H H0' H' : Hp} {σ : L2.St} {ds : EV}
theorem Env.get (E : Env k M G0 G σ H0 H ds) {i : Nat} {x : Dt} (h : ds[i]? = some (some (.d x))) : ∃ v, σ[i]? = some (some v) ∧ Rp k H0 v x := by
  obtain ⟨F, f, _⟩ := E.ent
  exact f i _ h
/-- new things stand, the old ones stand still -/
theorem Env.step (E : Env k M G0 G σ H0 H ds) (h : Wld [] H0 H H0' H') : Env k M G0 G σ H0' H' ds := by
  refine ⟨E.wld.trans h.wide, E.len, E.pin, ?_⟩
  obtain ⟨F, f1, f2, f3⟩ := E.ent
  have kp : ∀ i a, a ∈ F i → H' a = H a := fun i a ha => by
    cases q : H a with
    | none => exact absurd q (f3 i a ha).2.2
    | some o => exact h.kp a o (by simp) q
  refine ⟨F, fun i e he => ?_, f2, fun i a ha => ⟨?_, (f3 i a ha).2.1, ?_⟩⟩
  · obtain ⟨v, h1, h2⟩ := f1 i e he
    refine ⟨v, h1, ?_⟩
    cases e with
    | d x => exact Rp.mono h.fz h2
    | m own u => exact ⟨u.keep h2.1 h.fz (kp i), h2.2⟩
  · refine Classical.byContradiction fun z => ?_
    rcases h.nw a z with y | y
    · exact y (f3 i a ha).1
    · exact (f3 i a ha).2.2 y
  · rw [kp i a ha]; exact (f3 i a ha).2.2
theorem Env.fresh (E : Env k M G0 G σ H0 H ds) {p : Addr} (h : H p = none) : G p = none ∧ H0 p = none := by
  refine ⟨Classical.byContradiction fun z => E.wld.tr p z h, ?_⟩
  cases q : H0 p with
  | none => rfl
  | some o => exact absurd (E.wld.in_ p o q) (by rw [h]; exact fun e => nomatch e)
/-- a new thing that is not to change -/
theorem wld_new {p : Addr} {o : HO} (hi : Ex H0 H) (h : H p = none) : Wld [] H0 H (upd H0 p o) (upd H p o) := by
  have h0 : H0 p = none := fresh_back hi h
  refine ⟨Ex.new h0, fun a u e => ?_, fun a u _ e => Ex.new h a u e, fun a e => ?_, fun a e => ?_⟩
  · by_cases q : a = p
    · subst q
      rw [upd_same] at e ⊢
      exact e
    · rw [upd_ne q] at e ⊢
      exact hi a u e
  · by_cases q : a = p
    · subst q
      exact .inr h
    · rw [upd_ne q] at e
      exact .inl e
  · by_cases q : a = p
    · subst q
      exact absurd h e
    · rw [upd_ne q]
      exact e
theorem pin_set {W : V} (h : ∀ (n : Nat) (u : Mut), ds[n]? = some (some (.m false u)) → σ[n]? = some (some W)) {i : Nat} {e : Option Ent} {z : Option V} (he : ∀ u, e ≠ some (.m false u)) : ∀ (n : Nat) (u : Mut), (ds.set i e)[n]? = some (some (.m false u)) → (σ.set i z)[n]? = some (some W) := fun n u hn => by
  by_cases q : i = n
  · subst q
    rw [List.getElem?_set] at hn
    split at hn
    · split at hn
      · exact absurd (Option.some.inj hn) (he u)
      · cases hn
    · exact absurd rfl ‹_›
  · rw [List.getElem?_set_ne q] at hn ⊢
    exact h n u hn
theorem pin_set0 {W : V} (h : ∀ (n : Nat) (u : Mut), ds[n]? = some (some (.m false u)) → σ[n]? = some (some W)) {i : Nat} {e : Option Ent} (he : ∀ u, e = some (.m false u) → ∃ u', ds[i]? = some (some (.m false u'))) : ∀ (n : Nat) (u : Mut), (ds.set i e)[n]? = some (some (.m false u)) → σ[n]? = some (some W) := fun n u hn => by
  by_cases q : i = n
  · subst q
    rw [List.getElem?_set] at hn
    split at hn
    · split at hn
      · obtain ⟨u', hu⟩ := he u (Option.some.inj hn)
        exact h _ u' hu
      · cases hn
    · exact absurd rfl ‹_›
  · rw [List.getElem?_set_ne q] at hn
    exact h n u hn
theorem Env.setD (E : Env k M G0 G σ H0 H ds) {i : Nat} {v : V} {x : Dt} (h : Rp k H0 v x) : Env k M G0 G (σ.set i (some v)) H0 H (ds.set i (some (.d x))) := by
  refine ⟨E.wld, by rw [List.length_set, List.length_set, E.len], pin_set E.pin (fun u z => nomatch z), ?_⟩
  obtain ⟨F, f1, f2, f3⟩ := E.ent
  refine ⟨F, fun j e he => ?_, f2, f3⟩
  by_cases q : i = j
  · subst q
    rw [List.getElem?_set] at he
    split at he
    · split at he
      · rename_i hl
        cases he
        refine ⟨v, ?_, h⟩
        rw [List.getElem?_set]
        simp [← E.len, hl]
      · cases he
    · exact absurd rfl ‹_›
  · rw [List.getElem?_set_ne q] at he ⊢
    exact f1 j e he
/-- a slot that isn't known any more -/
theorem Env.setN (E : Env k M G0 G σ H0 H ds) {i : Nat} {z : Option V} : Env k M G0 G (σ.set i z) H0 H (ds.set i none) := by
  refine ⟨E.wld, by rw [List.length_set, List.length_set, E.len], pin_set E.pin (fun u z => nomatch z), ?_⟩
  obtain ⟨F, f1, f2, f3⟩ := E.ent
  refine ⟨F, fun j e he => ?_, f2, f3⟩
  by_cases q : i = j
  · subst q
    rw [List.getElem?_set] at he
    split at he
    · split at he <;> cases he
    · exact absurd rfl ‹_›
  · rw [List.getElem?_set_ne q] at he ⊢
    exact f1 j e he
/-- less is known -/
theorem Env.less (E : Env k M G0 G σ H0 H ds) {es : EV} (hl : es.length = ds.length) (h : ∀ (i : Nat) (e : Ent), es[i]? = some (some e) → ds[i]? = some (some e)) : Env k M G0 G σ H0 H es := by
  refine ⟨E.wld, hl.trans E.len, fun n u z => E.pin n u (h n _ z), ?_⟩
  obtain ⟨F, f1, f2, f3⟩ := E.ent
  exact ⟨F, fun i e he => f1 i e (h i e he), f2, f3⟩
/-- a slot gets what changes and is new -/
theorem Env.setM (E : Env k M G0 G σ H0 H ds) {i : Nat} {v : V} {u : Mut} {fp : List Addr} (hw : ∀ a, a ∉ fp → H' a = H a) (hf : ∀ a ∈ fp, H a = none ∧ H' a ≠ none) (h : u.at_ v H0 H' fp) :
    Env k M G0 G (σ.set i (some v)) H0 H' (ds.set i (some (.m true u))) := by
  have fr : ∀ a ∈ fp, G a = none ∧ H0 a = none := fun a ha => E.fresh (hf a ha).1
  obtain ⟨F, f1, f2, f3⟩ := E.ent
  have nin : ∀ j a, a ∈ F j → a ∉ fp := fun j a ha hb => (f3 j a ha).2.2 (hf a hb).1
  refine ⟨⟨E.wld.fz, fun a o e => ?_, fun a o n e => ?_, E.wld.nw, fun a e => ?_⟩, by rw [List.length_set, List.length_set, E.len], pin_set E.pin (fun u z => nomatch z), fun j => if j = i then fp else F j, fun j e he => ?_, fun j l a ha hb => ?_, fun j a ha => ?_⟩
  · rw [hw a fun z => by rw [(fr a z).2] at e; cases e]
    exact E.wld.in_ a o e
  · rw [hw a fun z => by rw [(fr a z).1] at e; cases e]
    exact E.wld.kp a o n e
  · rw [hw a fun z => e (fr a z).1]
    exact E.wld.tr a e
  · by_cases q : i = j
    · subst q
      rw [List.getElem?_set] at he
      split at he
      · split at he
        · rename_i hl
          cases he
          refine ⟨v, ?_, ?_⟩
          · rw [List.getElem?_set]
            simp [← E.len, hl]
          · simp only [if_true]
            exact ⟨h, fun _ a ha => (fr a ha).1⟩
        · cases he
      · exact absurd rfl ‹_›
    · rw [List.getElem?_set_ne q] at he ⊢
      obtain ⟨v', h1, h2⟩ := f1 j e he
      refine ⟨v', h1, ?_⟩
      dsimp only
      rw [if_neg (show ¬ j = i from fun z => q z.symm)]
      cases e with
      | d x => exact h2
      | m own u' => exact ⟨u'.keep h2.1 (Ex.refl _) fun a ha => hw a (nin j a ha), h2.2⟩
  · dsimp only at ha hb
    split at ha
    · split at hb
      · subst_vars; rfl
      · exact absurd ha (nin _ _ hb)
    · split at hb
      · exact absurd hb (nin _ _ ha)
      · exact f2 _ _ a ha hb
  · dsimp only at ha
    split at ha
    · exact ⟨(fr a ha).2, .inr (fr a ha).1, (hf a ha).2⟩
    · rw [hw a (nin j a ha)]
      exact f3 j a ha
/-- what stands in a slot changes: only in its own addresses, and in new ones -/
theorem Env.mut (E : Env k M G0 G σ H0 H ds) {i : Nat} {own : Bool} {u u' : Mut} {v : V}
    (hs : ds[i]? = some (some (.m own u))) (hv : σ[i]? = some (some v)) (hx : ∀ fp, u.at_ v H0 H fp → (∀ a ∈ fp, H0 a = none ∧ H a ≠ none) → ∃ fp', (∀ a ∈ fp', a ∈ fp ∨ H a = none) ∧ (∀ a ∈ fp', H' a ≠ none) ∧ (∀ a, a ∉ fp → H a ≠ none → H' a = H a) ∧ (∀ a ∈ fp, H' a ≠ none) ∧ u'.at_ v H0 H' fp') :
    Env k M G0 G σ H0 H' (ds.set i (some (.m own u'))) := by
  obtain ⟨F, f1, f2, f3⟩ := E.ent
  obtain ⟨v0, hv0, h0, ho⟩ := f1 i _ hs
  rw [hv] at hv0
  cases hv0
  obtain ⟨fp', a1, a2, a3, a4, a5⟩ := hx (F i) h0 fun a ha => ⟨(f3 i a ha).1, (f3 i a ha).2.2⟩
  have fr : ∀ a, H a = none → G a = none ∧ H0 a = none := fun a ha => E.fresh ha
  have sm : ∀ j a, j ≠ i → a ∈ F j → H' a = H a := fun j a hj ha => a3 a (fun z => hj (f2 j i a ha z)) (f3 j a ha).2.2
  refine ⟨⟨E.wld.fz, fun a o e => ?_, fun a o n e => ?_, E.wld.nw, fun a e => ?_⟩, by rw [List.length_set, E.len], pin_set0 E.pin (fun u z => by cases z; exact ⟨_, hs⟩), fun j => if j = i then fp' else F j, fun j e he => ?_, fun j l a ha hb => ?_, fun j a ha => ?_⟩
  · have e2 := E.wld.in_ a o e
    rw [a3 a (fun z => by rw [(f3 i a z).1] at e; cases e) (by rw [e2]; exact fun z => nomatch z)]
    exact e2
  · have e2 := E.wld.kp a o n e
    rw [a3 a (fun z => ?_) (by rw [e2]; exact fun z => nomatch z)]
    · exact e2
    · rcases (f3 i a z).2.1 with y | y
      · exact n y
      · rw [y] at e; cases e
  · by_cases q : a ∈ F i
    · exact a4 a q
    · have := E.wld.tr a e
      rw [a3 a q this]
      exact this
  · by_cases q : i = j
    · subst q
      rw [List.getElem?_set] at he
      split at he
      · split at he
        · cases he
          refine ⟨v, hv, ?_⟩
          simp only [if_true]
          refine ⟨a5, fun w a ha => ?_⟩
          rcases a1 a ha with y | y
          · exact ho w a y
          · exact (fr a y).1
        · cases he
      · exact absurd rfl ‹_›
    · rw [List.getElem?_set_ne q] at he
      obtain ⟨v', h1, h2⟩ := f1 j e he
      refine ⟨v', h1, ?_⟩
      dsimp only
      rw [if_neg (show ¬ j = i from fun z => q z.symm)]
      cases e with
      | d x => exact h2
      | m own u' => exact ⟨u'.keep h2.1 (Ex.refl _) fun a ha => sm j a (fun z => q z.symm) ha, h2.2⟩
  · dsimp only at ha hb
    have key : ∀ j, j ≠ i → a ∈ F j → a ∉ fp' := fun j hj hf hp => by
      rcases a1 a hp with y | y
      · exact hj (f2 j i a hf y)
      · exact (f3 j a hf).2.2 y
    split at ha
    · split at hb
      · subst_vars; rfl
      · exact absurd ha (key _ ‹_› hb)
    · split at hb
      · exact absurd hb (key _ ‹_› ha)
      · exact f2 _ _ a ha hb
  · dsimp only at ha
    split at ha
    · refine ⟨?_, ?_, a2 a ha⟩
      · rcases a1 a ha with y | y
        · exact (f3 i a y).1
        · exact (fr a y).2
      · rcases a1 a ha with y | y
        · exact (f3 i a y).2.1
        · exact .inr (fr a y).1
    · rw [sm j a ‹_› ha]
      exact f3 j a ha
/-- lists that change -/
def mL (k : Kw) (l : List Dt) : Mut where
  at_ v H0 H fp := ∃ a xs, v = .ref a ∧ fp = [a] ∧ H a = some (.lst xs) ∧ RpA k H0 xs l
  keep := by
    rintro v H0 H H0' H' fp ⟨a, xs, rfl, rfl, h, r⟩ e kp
    exact ⟨a, xs, rfl, rfl, by rw [kp a List.mem_cons_self]; exact h, r.mono e⟩
theorem Env.getM (E : Env k M G0 G σ H0 H ds) {i : Nat} {own : Bool} {l : List Dt} (h : ds[i]? = some (some (.m own (mL k l)))) : ∃ a xs, σ[i]? = some (some (.ref a)) ∧ H a = some (.lst xs) ∧ RpA k H0 xs l := by
  obtain ⟨F, f, _⟩ := E.ent
  obtain ⟨v, h1, ⟨a, xs, rfl, _, h2, h3⟩, _⟩ := f i _ h
  exact ⟨a, xs, h1, h2, h3⟩
theorem Env.mutL (E : Env k M G0 G σ H0 H ds) {i : Nat} {own : Bool} {l l' : List Dt} {a : Addr} {xs' : List V} (h : ds[i]? = some (some (.m own (mL k l)))) (hv : σ[i]? = some (some (.ref a))) (r : RpA k H0 xs' l') :
    Env k M G0 G σ H0 (upd H a (.lst xs')) (ds.set i (some (.m own (mL k l')))) :=
  E.mut h hv fun fp ⟨b, xs, e1, e2, e3, e4⟩ hf => by
    cases e1
    subst e2
    refine ⟨[a], fun b hb => .inl hb, fun b hb => ?_, fun b hb _ => ?_, fun b hb => ?_, a, xs', rfl, rfl, upd_same, r⟩
    · rw [List.mem_singleton.mp hb, upd_same]; exact fun z => nomatch z
    · exact upd_ne fun z => hb (by rw [z]; exact List.mem_cons_self)
    · rw [List.mem_singleton.mp hb, upd_same]; exact fun z => nomatch z
/-- an own list that will not change any more -/
theorem Env.frz (E : Env k M G0 G σ H0 H ds) {i : Nat} {l : List Dt} (h : ds[i]? = some (some (.m true (mL k l)))) : ∃ H0', Ex H0 H0' ∧ Env k M G0 G σ H0' H (ds.set i (some (.d (.lst l)))) := by
  obtain ⟨F, f1, f2, f3⟩ := E.ent
  obtain ⟨v, h1, ⟨a, xs, rfl, hF, h2, h3⟩, ho⟩ := f1 i _ h
  have hi : a ∈ F i := by rw [hF]; exact List.mem_cons_self
  have h0 : H0 a = none := (f3 i a hi).1
  have hg : G a = none := ho rfl a hi
  have ne : ∀ j b, j ≠ i → b ∈ F j → b ≠ a := fun j b hj hb e => hj (f2 j i b hb (by rw [e]; exact hi))
  refine ⟨upd H0 a (.lst xs), Ex.new h0, ⟨⟨E.wld.fz.trans (Ex.new h0), fun b o e => ?_, E.wld.kp, fun b e => ?_, E.wld.tr⟩, by rw [List.length_set, E.len], pin_set0 E.pin (fun u z => nomatch z), fun j => if j = i then [] else F j, fun j e he => ?_, fun j l b ha hb => ?_, fun j b ha => ?_⟩⟩
  · by_cases q : b = a
    · subst q; rw [upd_same] at e; rw [h2]; exact e
    · rw [upd_ne q] at e; exact E.wld.in_ b o e
  · by_cases q : b = a
    · subst q; exact .inr hg
    · rw [upd_ne q] at e; exact E.wld.nw b e
  · by_cases q : i = j
    · subst q
      rw [List.getElem?_set] at he
      split at he
      · split at he
        · cases he
          exact ⟨_, h1, .lst upd_same (h3.mono (Ex.new h0))⟩
        · cases he
      · exact absurd rfl ‹_›
    · rw [List.getElem?_set_ne q] at he
      obtain ⟨v', h1, h2'⟩ := f1 j e he
      refine ⟨v', h1, ?_⟩
      dsimp only
      rw [if_neg (show ¬ j = i from fun z => q z.symm)]
      cases e with
      | d x => exact Rp.mono (Ex.new h0) h2'
      | m own u' => exact ⟨u'.keep h2'.1 (Ex.new h0) fun b _ => rfl, h2'.2⟩
  · dsimp only at ha hb
    split at ha
    · cases ha
    · split at hb
      · cases hb
      · exact f2 _ _ b ha hb
  · dsimp only at ha
    split at ha
    · cases ha
    · rw [upd_ne (ne j b ‹_› ha)]
      exact f3 j b ha
end
end Uw
end
section
set_option Elab.async false
set_option linter.all false
set_option maxRecDepth 100000
set_option maxHeartbeats 4000000
namespace Uw
open PySem PySem.Spec PyProof.Rows L2 Evl
/-! expressions: syntax, slots, the datum that comes out -/
structure Good {ι : Type} (Y : ι → Cx) (k : Kw) (lv : Nat) : Prop where
  eK : ∀ i, (Y i).K = k.K
  eP : ∀ i, (Y i).prog = k.P
  ew : ∀ i, (Y i).w = k.w
  em : ∀ i, (Y i).mg = k.mg
  eb : ∀ i, (Y i).base = k.base
  ec : ∀ i, (Y i).calm = true
  hr : ∀ i, Room lv (Y i).A
  nd : ∀ i, (Y i).N.Nodup
def EP (k : Kw) (te : TE) (ds : EV) (d : Dt) : Prop := ∀ M G0 G σ H0 H, Env k M G0 G σ H0 H ds → ∀ Q : VK, (∀ v H0' H', Env k M G0 G σ H0' H' ds → Wld [] H0 H H0' H' → Rp k H0' v d → Q v H') → te σ H Q
def EPA (k : Kw) (ta : TA) (ds : EV) (l : List Dt) : Prop := ∀ M G0 G σ H0 H, Env k M G0 G σ H0 H ds → ∀ Q : List V → Hp → Prop, (∀ vs H0' H', Env k M G0 G σ H0' H' ds → Wld [] H0 H H0' H' → RpA k H0' vs l → Q vs H') → ta σ H Q
def EPO (k : Kw) (to : TO) (ds : EV) (o : Option Int) : Prop := ∀ M G0 G σ H0 H, Env k M G0 G σ H0 H ds → ∀ Q : Option Int → Hp → Prop, (∀ H0' H', Env k M G0 G σ H0' H' ds → Wld [] H0 H H0' H' → Q o H') → to σ H Q
section
variable {ι : Type} {Y : ι → Cx} {k : Kw} {lv : Nat} {ds : EV} {e a b c : Expr} {pos : Pos}
def XD {ι : Type} (Y : ι → Cx) (k : Kw) (e : Expr) (ds : EV) (d : Dt) : Prop := ∃ te, (∀ i, PE (Y i) e te) ∧ EP k te ds d
def XA {ι : Type} (Y : ι → Cx) (k : Kw) (es : List Expr) (ds : EV) (l : List Dt) : Prop := ∃ ta, (∀ i, PA (Y i) es ta) ∧ EPA k ta ds l
def XO {ι : Type} (Y : ι → Cx) (k : Kw) (e : Option Expr) (ds : EV) (o : Option Int) : Prop := ∃ to, (∀ i, PO (Y i) e to) ∧ EPO k to ds o
theorem XD.is {d d' : Dt} (h : XD Y k e ds d) (q : d = d') : XD Y k e ds d' := q ▸ h
theorem x_int {i : Int} {j : Nat} : XD Y k (.Constant (.int i) j pos) ds (.int i) := ⟨_, fun _ => pe_int, fun _ _ _ _ _ _ E Q q => q _ _ _ E (Wld.refl E.wld.in_) (.int i)⟩
theorem x_str {i : PySem.Str} {j : Nat} : XD Y k (.Constant (.str i) j pos) ds (.str i) := ⟨_, fun _ => pe_str, fun _ _ _ _ _ _ E Q q => q _ _ _ E (Wld.refl E.wld.in_) (.str i)⟩
theorem x_bl {i : Bool} {j : Nat} : XD Y k (.Constant (.bool i) j pos) ds (.bl i) := ⟨_, fun _ => pe_bl, fun _ _ _ _ _ _ E Q q => q _ _ _ E (Wld.refl E.wld.in_) (.bl i)⟩
theorem x_non {j : Nat} : XD Y k (.Constant .none j pos) ds .non := ⟨_, fun _ => pe_non, fun _ _ _ _ _ _ E Q q => q _ _ _ E (Wld.refl E.wld.in_) .non⟩
theorem x_name (n : Nat) {x : PySem.Str} {d : Dt} (h : ds[n]? = some (some (.d d))) (hN : ∀ i, (Y i).N[n]? = some x := by intro _; rfl) (hv : ∀ i, Vis (Y i).env.scope x := by intro _; first | exact .inl rfl | exact .inr (.inl rfl) | exact .inr (.inr rfl))
    (h1 : (x == ("__debug__" : PySem.Str)) = false := by decide) (h2 : (x == ("__classdict__" : PySem.Str)) = false := by decide) : XD Y k (.Name x pos) ds d :=
  ⟨_, fun i => pe_var (hN i) (hv i) h1 h2, fun M G0 G σ H0 H E Q q => by
    obtain ⟨v, h1, h2⟩ := E.get h
    exact ⟨v, h1, q v _ _ E (Wld.refl E.wld.in_) h2⟩⟩
/-- two operands, an operation that makes no thing -/
theorem x_op2 {da db d : Dt} {te : TE} {r : R2} (ha : XD Y k a ds da) (hb : XD Y k b ds db) {f : Expr → Expr → Expr} (hp : ∀ i ta tb, PE (Y i) a ta → PE (Y i) b tb → PE (Y i) (f a b) (tOp r ta tb))
    (hr : ∀ H x y, Rp k H x da → Rp k H y db → ∃ z, Rp k H z d ∧ ∀ H', Ex H H' → ∀ Q : VK, Q z H' → r x y H' Q) : XD Y k (f a b) ds d := by
  obtain ⟨ta, pa, ea⟩ := ha
  obtain ⟨tb, pb, eb⟩ := hb
  refine ⟨_, fun i => hp i ta tb (pa i) (pb i), fun M G0 G σ H0 H E Q q => ?_⟩
  refine ea M G0 G σ H0 H E _ fun x H1 H1' E1 e1 r1 => eb M G0 G σ H1 H1' E1 _ fun y H2 H2' E2 e2 r2 => ?_
  obtain ⟨z, hz, hq⟩ := hr H2 x y (r1.mono e2.fz) r2
  exact hq H2' E2.wld.in_ Q (q z H2 H2' E2 (e1.trans e2) hz)
/-- a comparison: as a value and as a test -/
def XC {ι : Type} (Y : ι → Cx) (k : Kw) (a : Expr) (op : CmpOp) (b : Expr) (ds : EV) (p : Bool) : Prop := ∃ r ta tb, (∀ i, OpR (Y i) (compareOp op) r ∧ PE (Y i) a ta ∧ PE (Y i) b tb) ∧ behindInMarks op b = false ∧ EP k (tOp r ta tb) ds (.bl p)
theorem x_c {op : CmpOp} {p : Bool} (h : XC Y k a op b ds p) : XD Y k (.Compare a [op] [b] pos) ds (.bl p) := by
  obtain ⟨r, ta, tb, h1, h2, h3⟩ := h
  exact ⟨_, fun i => pe_cmpR (h1 i).1 (h1 i).2.1 (h1 i).2.2 h2, h3⟩
theorem q_op2 {da db : Dt} {op : CmpOp} {p : Bool} {r : R2} (ha : XD Y k a ds da) (hb : XD Y k b ds db) (hO : ∀ i, OpR (Y i) (compareOp op) r) (hm : behindInMarks op b = false)
    (hr : ∀ H x y, Rp k H x da → Rp k H y db → ∃ z, Rp k H z (.bl p) ∧ ∀ H', Ex H H' → ∀ Q : VK, Q z H' → r x y H' Q) : XC Y k a op b ds p := by
  obtain ⟨ta, pa, ea⟩ := ha
  obtain ⟨tb, pb, eb⟩ := hb
  refine ⟨r, ta, tb, fun i => ⟨hO i, pa i, pb i⟩, hm, fun M G0 G σ H0 H E Q q => ?_⟩
  refine ea M G0 G σ H0 H E _ fun x H1 H1' E1 e1 r1 => eb M G0 G σ H1 H1' E1 _ fun y H2 H2' E2 e2 r2 => ?_
  obtain ⟨z, hz, hq⟩ := hr H2 x y (r1.mono e2.fz) r2
  exact hq H2' E2.wld.in_ Q (q z H2 H2' E2 (e1.trans e2) hz)
section
variable {i j : Int}
theorem x_I0 {g : Int → Int → Dt} {gv : Int → Int → V} {op : Operator} (hg : ∀ i j, ∀ H : Hp, Rp k H (gv i j) (g i j)) (ho : ∀ X : Cx, OpR X (binaryOp op) (rI0 gv)) (ha : XD Y k a ds (.int i)) (hb : XD Y k b ds (.int j)) : XD Y k (.BinOp a op b pos) ds (g i j) :=
  x_op2 (te := tC .non) (f := fun a b => .BinOp a op b pos) ha hb (fun i ta tb p q => pe_op (ho _) p q) fun H x y r1 r2 => by
    cases r1; cases r2
    exact ⟨_, hg i j H, fun H' _ Q q => ⟨i, j, rfl, rfl, q⟩⟩
theorem x_Ic {C : Int → Int → Prop} {g : Int → Int → Dt} {gv : Int → Int → V} {op : Operator} (hg : ∀ i j, ∀ H : Hp, Rp k H (gv i j) (g i j)) (ho : ∀ X : Cx, OpR X (binaryOp op) (rI C gv)) (ha : XD Y k a ds (.int i)) (hb : XD Y k b ds (.int j)) (hc : C i j) : XD Y k (.BinOp a op b pos) ds (g i j) :=
  x_op2 (te := tC .non) (f := fun a b => .BinOp a op b pos) ha hb (fun i ta tb p q => pe_op (ho _) p q) fun H x y r1 r2 => by
    cases r1; cases r2
    exact ⟨_, hg i j H, fun H' _ Q q => ⟨i, j, rfl, rfl, hc, q⟩⟩
theorem x_add (ha : XD Y k a ds (.int i)) (hb : XD Y k b ds (.int j)) : XD Y k (.BinOp a .Add b pos) ds (.int (i + j)) := x_I0 (g := fun i j => .int (i + j)) (fun _ _ _ => .int _) (fun _ => op_add) ha hb
theorem x_sub (ha : XD Y k a ds (.int i)) (hb : XD Y k b ds (.int j)) : XD Y k (.BinOp a .Sub b pos) ds (.int (i - j)) := x_I0 (g := fun i j => .int (i - j)) (fun _ _ _ => .int _) (fun _ => op_sub) ha hb
theorem x_band (ha : XD Y k a ds (.int i)) (hb : XD Y k b ds (.int j)) : XD Y k (.BinOp a .BitAnd b pos) ds (.int (Builtin.bitAnd i j)) := x_I0 (g := fun i j => .int (Builtin.bitAnd i j)) (fun _ _ _ => .int _) (fun _ => op_and) ha hb
theorem x_bor (ha : XD Y k a ds (.int i)) (hb : XD Y k b ds (.int j)) : XD Y k (.BinOp a .BitOr b pos) ds (.int (Builtin.bitOr i j)) := x_I0 (g := fun i j => .int (Builtin.bitOr i j)) (fun _ _ _ => .int _) (fun _ => op_or) ha hb
theorem x_bxor (ha : XD Y k a ds (.int i)) (hb : XD Y k b ds (.int j)) : XD Y k (.BinOp a .BitXor b pos) ds (.int (Builtin.bitXor i j)) := x_I0 (g := fun i j => .int (Builtin.bitXor i j)) (fun _ _ _ => .int _) (fun _ => op_xor) ha hb
theorem x_mul (ha : XD Y k a ds (.int i)) (hb : XD Y k b ds (.int j)) (hc : CMulW i j) : XD Y k (.BinOp a .Mult b pos) ds (.int (i * j)) := x_Ic (g := fun i j => .int (i * j)) (fun _ _ _ => .int _) (fun _ => op_mulW) ha hb hc
theorem x_mod (ha : XD Y k a ds (.int i)) (hb : XD Y k b ds (.int j)) (hc : 0 < j) : XD Y k (.BinOp a .Mod b pos) ds (.int (i % j)) := x_Ic (g := fun i j => .int (i % j)) (fun _ _ _ => .int _) (fun _ => op_mod) ha hb hc
theorem x_div (ha : XD Y k a ds (.int i)) (hb : XD Y k b ds (.int j)) (hc : CDivW i j) : XD Y k (.BinOp a .FloorDiv b pos) ds (.int (i / j)) := x_Ic (g := fun i j => .int (i / j)) (fun _ _ _ => .int _) (fun _ => op_fdivW) ha hb hc
theorem x_pow (ha : XD Y k a ds (.int i)) (hb : XD Y k b ds (.int j)) (hc : CPow i j) : XD Y k (.BinOp a .Pow b pos) ds (.int (i ^ j.toNat)) := x_Ic (g := fun i j => .int (i ^ j.toNat)) (fun _ _ _ => .int _) (fun _ => op_pow) ha hb hc
theorem x_shl (ha : XD Y k a ds (.int i)) (hb : XD Y k b ds (.int j)) (hc : CPow i j) : XD Y k (.BinOp a .LShift b pos) ds (.int (i * 2 ^ j.toNat)) := x_Ic (g := fun i j => .int (i * 2 ^ j.toNat)) (fun _ _ _ => .int _) (fun _ => op_shl) ha hb hc
theorem x_shr (ha : XD Y k a ds (.int i)) (hb : XD Y k b ds (.int j)) (hc : 0 ≤ j) : XD Y k (.BinOp a .RShift b pos) ds (.int (i / 2 ^ j.toNat)) := x_Ic (g := fun i j => .int (i / 2 ^ j.toNat)) (fun _ _ _ => .int _) (fun _ => op_shr) ha hb hc
theorem q_cI {g : Int → Int → Bool} {op : CmpOp} (ho : ∀ X : Cx, OpR X (compareOp op) (rI0 fun i j => V.bl (g i j))) (hm : behindInMarks op b = false) (ha : XD Y k a ds (.int i)) (hb : XD Y k b ds (.int j)) : XC Y k a op b ds (g i j) :=
  q_op2 ha hb (fun i => (ho _)) hm fun H x y r1 r2 => by
    cases r1; cases r2
    exact ⟨_, .bl _, fun H' _ Q q => ⟨i, j, rfl, rfl, q⟩⟩
theorem q_lt (ha : XD Y k a ds (.int i)) (hb : XD Y k b ds (.int j)) : XC Y k a .Lt b ds (decide (i < j)) := q_cI (g := fun i j => decide (i < j)) (fun _ => op_lt) (nomark _) ha hb
theorem q_le (ha : XD Y k a ds (.int i)) (hb : XD Y k b ds (.int j)) : XC Y k a .LtE b ds (decide (i ≤ j)) := q_cI (g := fun i j => decide (i ≤ j)) (fun _ => op_le) (nomark _) ha hb
theorem q_gt (ha : XD Y k a ds (.int i)) (hb : XD Y k b ds (.int j)) : XC Y k a .Gt b ds (decide (j < i)) := q_cI (g := fun i j => decide (j < i)) (fun _ => op_gt) (nomark _) ha hb
end
theorem x_adds {s t : PySem.Str} (ha : XD Y k a ds (.str s)) (hb : XD Y k b ds (.str t)) (hc : s.length + t.length ≤ 100000) : XD Y k (.BinOp a .Add b pos) ds (.str (s ++ t)) :=
  x_op2 (te := tC .non) (f := fun a b => .BinOp a .Add b pos) ha hb (fun i ta tb p q => pe_op op_add_str p q) fun H x y r1 r2 => by
    cases r1; cases r2
    exact ⟨_, .str _, fun H' _ Q q => ⟨s, t, rfl, rfl, sz_of hc, q⟩⟩
/-- == of scalars -/
def scD : Dt → Dt → Bool
  | .int _, .int _ | .str _, .str _ | .bl _, .bl _ => true
  | _, _ => false
def eqD : Dt → Dt → Bool
  | .int i, .int j => decide (i = j)
  | .str s, .str t => decide (s = t)
  | .bl s, .bl t => decide (s = t)
  | _, _ => false
theorem scD_ok {H : Hp} {x y : V} {da db : Dt} (r1 : Rp k H x da) (r2 : Rp k H y db) (h : scD da db = true) : scal x y = true ∧ decide (x = y) = eqD da db := by
  cases r1 <;> cases r2 <;> first | (simp [scD] at h; done) | (refine ⟨rfl, ?_⟩; simp [eqD]; done)
theorem q_eq {da db : Dt} (ha : XD Y k a ds da) (hb : XD Y k b ds db) (hs : scD da db = true) : XC Y k a .Eq b ds (eqD da db) :=
  q_op2 ha hb (fun i => op_eq) (nomark _) fun H x y r1 r2 => by
    obtain ⟨s1, s2⟩ := scD_ok r1 r2 hs
    exact ⟨_, .bl _, fun H' _ Q q => ⟨s1, by rw [s2]; exact q⟩⟩
theorem q_ne {da db : Dt} (ha : XD Y k a ds da) (hb : XD Y k b ds db) (hs : scD da db = true) : XC Y k a .NotEq b ds (!eqD da db) :=
  q_op2 ha hb (fun i => op_ne) (nomark _) fun H x y r1 r2 => by
    obtain ⟨s1, s2⟩ := scD_ok r1 r2 hs
    exact ⟨_, .bl _, fun H' _ Q q => ⟨s1, by rw [s2]; exact q⟩⟩
def isN : Dt → Bool
  | .non => true
  | _ => false
theorem isN_ok {H : Hp} {x : V} {da : Dt} (r1 : Rp k H x da) : decide (x = V.non) = isN da := by
  cases r1 <;> simp [isN]
theorem q_isN {da : Dt} {j : Nat} {p : Pos} (ha : XD Y k a ds da) : XC Y k a .Is (.Constant .none j p) ds (isN da) :=
  q_op2 ha x_non (fun i => op_isN) (nomark _) fun H x y r1 r2 => by
    have h := isN_ok r1
    cases r2
    exact ⟨_, .bl _, fun H' _ Q q => ⟨rfl, by rw [h]; exact q⟩⟩
theorem q_notN {da : Dt} {j : Nat} {p : Pos} (ha : XD Y k a ds da) : XC Y k a .IsNot (.Constant .none j p) ds (!isN da) :=
  q_op2 ha x_non (fun i => op_notN) (nomark _) fun H x y r1 r2 => by
    have h := isN_ok r1
    cases r2
    exact ⟨_, .bl _, fun H' _ Q q => ⟨rfl, by rw [h]; exact q⟩⟩
/-- a text in some texts -/
theorem inV_strs (s : PySem.Str) (l : List PySem.Str) : inV (.str s) (l.map V.str) = l.any (· == s) := by
  unfold inV
  rw [List.any_map]
  rfl
theorem flat_strs (l : List PySem.Str) : (l.map V.str).all flatV = true := by
  rw [List.all_map]
  exact List.all_eq_true.mpr fun _ _ => rfl
def seqD (l : List Dt) : Dt → Prop
  | .lst m | .tup m => m = l
  | _ => False
theorem seq_ok {H : Hp} {y : V} {db : Dt} {l : List Dt} (r : Rp k H y db) (h : seqD l db) : ∃ p xs, y = .ref p ∧ (∀ K, SqL K H p xs ∨ SqT K H p xs) ∧ RpA k H xs l := by
  cases r <;> first | cases h | skip
  · rename_i h1 h2; exact ⟨_, _, rfl, fun K => .inl (sq_of h1), h2⟩
  · rename_i h1 h2; exact ⟨_, _, rfl, fun K => .inr (st_of h1), h2⟩
theorem sq_mono {K : PySem.W.Frag} {H H' : Hp} {p : Addr} {xs : List V} (e : Ex H H') (h : SqL K H p xs ∨ SqT K H p xs) : SqL K H' p xs ∨ SqT K H' p xs := h.imp (ex_l e) (ex_t e)
theorem q_inS (g : Good Y k lv) {s : PySem.Str} {l : List PySem.Str} {db : Dt} (ha : XD Y k a ds (.str s)) (hb : XD Y k b ds db) (hs : seqD (l.map Dt.str) db := by rfl) (hm : behindInMarks .In b = false := by rfl) : XC Y k a .In b ds (l.any (· == s)) :=
  q_op2 (r := rIn k.K false) ha hb (fun i => by have h := op_in_seq (X := Y i); rw [g.eK i] at h; exact h) hm fun H x y r1 r2 => by
    cases r1
    obtain ⟨p, xs, rfl, h1, h2⟩ := seq_ok r2 hs
    have e := h2.strs
    subst e
    refine ⟨_, .bl _, fun H' ex Q q => ⟨p, _, rfl, sq_mono ex (h1 _), rfl, flat_strs l, ?_⟩⟩
    rw [if_neg (by decide), inV_strs]; exact q
theorem q_niS (g : Good Y k lv) {s : PySem.Str} {l : List PySem.Str} {db : Dt} (ha : XD Y k a ds (.str s)) (hb : XD Y k b ds db) (hs : seqD (l.map Dt.str) db := by rfl) (hm : behindInMarks .NotIn b = false := by rfl) : XC Y k a .NotIn b ds (!l.any (· == s)) :=
  q_op2 (r := rIn k.K true) ha hb (fun i => by have h := op_notIn_seq (X := Y i); rw [g.eK i] at h; exact h) hm fun H x y r1 r2 => by
    cases r1
    obtain ⟨p, xs, rfl, h1, h2⟩ := seq_ok r2 hs
    have e := h2.strs
    subst e
    refine ⟨_, .bl _, fun H' ex Q q => ⟨p, _, rfl, sq_mono ex (h1 _), rfl, flat_strs l, ?_⟩⟩
    rw [if_pos rfl, inV_strs]; exact q
/-! places -/
theorem atI_D {H : Hp} {xs : List V} {l : List Dt} {i : Int} {d : Dt} (r : RpA k H xs l) (h : atI l i = some d) : ∃ v, atI xs i = some v ∧ Rp k H v d := by
  unfold atI at h ⊢
  rw [r.length]
  cases q : ixN l.length i with
  | none => rw [q] at h; cases h
  | some j =>
    rw [q] at h
    exact r.get h
theorem x_ixL (g : Good Y k lv) {l : List Dt} {i : Int} {d : Dt} (ha : XD Y k a ds (.lst l)) (hb : XD Y k b ds (.int i)) (h : atI l i = some d) (hp : PlainIx b := by exact fun _ _ => rfl) : XD Y k (.Subscript a b pos) ds d :=
  x_op2 (te := tC .non) (f := fun a b => .Subscript a b pos) (r := rIxL k.K) ha hb (fun i ta tb p q => by have h := pe_ix (X := Y i) (pos := pos) ix_list p q hp; rw [g.eK i] at h; exact h) fun H x y r1 r2 => by
    cases r1; rename_i h1 h2; cases r2
    obtain ⟨v, e, r⟩ := atI_D h2 h
    exact ⟨v, r, fun H' ex Q q => ⟨_, _, i, v, rfl, rfl, sq_of (ex _ _ h1), e, q⟩⟩
theorem x_ixT (g : Good Y k lv) {l : List Dt} {i : Int} {d : Dt} (ha : XD Y k a ds (.tup l)) (hb : XD Y k b ds (.int i)) (h : atI l i = some d) (hp : PlainIx b := by exact fun _ _ => rfl) : XD Y k (.Subscript a b pos) ds d :=
  x_op2 (te := tC .non) (f := fun a b => .Subscript a b pos) (r := rIxT k.K) ha hb (fun i ta tb p q => by have h := pe_ix (X := Y i) (pos := pos) ix_tup p q hp; rw [g.eK i] at h; exact h) fun H x y r1 r2 => by
    cases r1; rename_i h1 h2; cases r2
    obtain ⟨v, e, r⟩ := atI_D h2 h
    exact ⟨v, r, fun H' ex Q q => ⟨_, _, i, v, rfl, rfl, st_of (ex _ _ h1), e, q⟩⟩
theorem x_ixScr (g : Good Y k lv) {l : List Int} {i n : Int} (ha : XD Y k a ds (.scr l)) (hb : XD Y k b ds (.int i)) (h : atI l i = some n) (hp : PlainIx b := by exact fun _ _ => rfl) : XD Y k (.Subscript a b pos) ds (.int n) :=
  x_op2 (te := tC .non) (f := fun a b => .Subscript a b pos) (r := rIxL k.K) ha hb (fun i ta tb p q => by have h := pe_ix (X := Y i) (pos := pos) ix_list p q hp; rw [g.eK i] at h; exact h) fun H x y r1 r2 => by
    cases r1; rename_i h1; cases r2
    refine ⟨_, .int n, fun H' ex Q q => ⟨_, _, i, .int n, rfl, rfl, ex_l ex h1, ?_, q⟩⟩
    unfold atI at h ⊢
    rw [List.length_map]
    cases q : ixN l.length i with
    | none => rw [q] at h; cases h
    | some j =>
      rw [q] at h
      have h' : l[j]? = some n := h
      show (l.map V.int)[j]? = _
      rw [List.getElem?_map, h']; rfl
theorem x_ixS (g : Good Y k lv) {z : PySem.Str} {i : Int} {c : Nat} (ha : XD Y k a ds (.str z)) (hb : XD Y k b ds (.int i)) (hz : z.length ≤ 100000) (h : atI z.cps.toList i = some c) (hp : PlainIx b := by exact fun _ _ => rfl) : XD Y k (.Subscript a b pos) ds (.str ⟨#[c]⟩) :=
  x_op2 (te := tC .non) (f := fun a b => .Subscript a b pos) ha hb (fun i ta tb p q => pe_ix ix_str p q hp) fun H x y r1 r2 => by
    cases r1; cases r2
    exact ⟨_, .str _, fun H' ex Q q => ⟨z, i, c, rfl, rfl, sz_of hz, h, q⟩⟩
/-! arguments -/
theorem xa_nil : XA Y k [] ds [] := ⟨_, fun _ => pa_nil, fun M G0 G σ H0 H E Q q => q _ _ _ E (Wld.refl E.wld.in_) .nil⟩
theorem xa_cons {es : List Expr} {l : List Dt} {d : Dt} (h : XD Y k e ds d) (hr : XA Y k es ds l) (hs : ∀ i, starEach (e :: es) (Y i).env = (false, eval e (Y i).env) :: starEach es (Y i).env := by intro _; rfl) : XA Y k (e :: es) ds (d :: l) := by
  obtain ⟨te, p, ee⟩ := h
  obtain ⟨ta, pa, ea⟩ := hr
  refine ⟨_, fun i => pa_cons (p i) (pa i) (hs i), fun M G0 G σ H0 H E Q q => ?_⟩
  exact ee M G0 G σ H0 H E _ fun x H1 H1' E1 e1 r1 => ea M G0 G σ H1 H1' E1 _ fun y H2 H2' E2 e2 r2 => q (x :: y) H2 H2' E2 (e1.trans e2) (.cons (r1.mono e2.fz) r2)
theorem x_tup {es : List Expr} {l : List Dt} {n : Nat} (h : XA Y k es ds l) (hl : l.length ≤ 100000 := by exact Nat.le_of_ble_eq_true rfl) : XD Y k (.Tuple es n pos) ds (.tup l) := by
  obtain ⟨ta, pa, ea⟩ := h
  refine ⟨_, fun i => pe_tup (pa i), fun M G0 G σ H0 H E Q q => ?_⟩
  refine ea M G0 G σ H0 H E _ fun xs H1 H1' E1 e1 r1 => ⟨sz_of (by rw [r1.length]; exact hl), fun p hp => ?_⟩
  have w := wld_new (o := .tup xs) E1.wld.in_ hp
  exact q _ _ _ (E1.step w) (e1.trans w) (.tup upd_same (r1.mono w.fz))
theorem x_lst {es : List Expr} {l : List Dt} (h : XA Y k es ds l) (hl : l.length ≤ 100000 := by exact Nat.le_of_ble_eq_true rfl) : XD Y k (.List es pos) ds (.lst l) := by
  obtain ⟨ta, pa, ea⟩ := h
  refine ⟨_, fun i => pe_lst (pa i), fun M G0 G σ H0 H E Q q => ?_⟩
  refine ea M G0 G σ H0 H E _ fun xs H1 H1' E1 e1 r1 => ⟨sz_of (by rw [r1.length]; exact hl), fun p hp => ?_⟩
  have w := wld_new (o := .lst xs) E1.wld.in_ hp
  exact q _ _ _ (E1.step w) (e1.trans w) (.lst upd_same (r1.mono w.fz))
/-- an operation that makes a new thing, or gives an old one -/
theorem x_mk2 {da db d : Dt} {r : R2} (ha : XD Y k a ds da) (hb : XD Y k b ds db) {f : Expr → Expr → Expr} (hp : ∀ i ta tb, PE (Y i) a ta → PE (Y i) b tb → PE (Y i) (f a b) (tOp r ta tb))
    (hr : ∀ H0 H x y, Ex H0 H → Rp k H0 x da → Rp k H0 y db → ∀ Q : VK, (∀ z H0' H', Wld [] H0 H H0' H' → Rp k H0' z d → Q z H') → r x y H Q) : XD Y k (f a b) ds d := by
  obtain ⟨ta, pa, ea⟩ := ha
  obtain ⟨tb, pb, eb⟩ := hb
  refine ⟨_, fun i => hp i ta tb (pa i) (pb i), fun M G0 G σ H0 H E Q q => ?_⟩
  refine ea M G0 G σ H0 H E _ fun x H1 H1' E1 e1 r1 => eb M G0 G σ H1 H1' E1 _ fun y H2 H2' E2 e2 r2 => ?_
  exact hr H2 H2' x y E2.wld.in_ (r1.mono e2.fz) r2 Q fun z H3 H3' w hz => q z H3 H3' (E2.step w) ((e1.trans e2).trans w) hz
theorem x_catL {l m : List Dt} (ha : XD Y k a ds (.lst l)) (hb : XD Y k b ds (.lst m)) (hz : l.length + m.length ≤ 100000) : XD Y k (.BinOp a .Add b pos) ds (.lst (l ++ m)) :=
  x_mk2 (f := fun a b => .BinOp a .Add b pos) ha hb (fun i ta tb p q => pe_op op_cat p q) fun H0 H x y hi r1 r2 Q q => by
    cases r1; rename_i a1 xs h1 h2; cases r2; rename_i a2 ys h3 h4
    refine ⟨_, _, _, _, rfl, rfl, hi _ _ h1, hi _ _ h3, sz_of (by rw [h2.length, h4.length]; exact hz), fun p hp => ?_⟩
    have w := wld_new (o := .lst (xs ++ ys)) hi hp
    exact q _ _ _ w (.lst upd_same ((h2.app h4).mono w.fz))
theorem x_catT (g : Good Y k lv) {l m : List Dt} (ha : XD Y k a ds (.tup l)) (hb : XD Y k b ds (.tup m)) (hl : l ≠ []) (hz : l.length + m.length ≤ 100000) : XD Y k (.BinOp a .Add b pos) ds (.tup (l ++ m)) :=
  x_mk2 (f := fun a b => .BinOp a .Add b pos) (r := rCatT k.K) ha hb (fun i ta tb p q => by have h := pe_op (X := Y i) (pos := pos) op_catT p q; rw [g.eK i] at h; exact h) fun H0 H x y hi r1 r2 Q q => by
    cases r1; rename_i a1 xs h1 h2; cases r2; rename_i a2 ys h3 h4
    refine ⟨_, _, _, _, rfl, rfl, st_of (hi _ _ h1), st_of (hi _ _ h3), fun e => ?_, sz_of (by rw [h2.length, h4.length]; exact hz), fun e => ?_, fun _ p hp => ?_⟩
    · subst e
      cases h2
      exact hl rfl
    · subst e
      cases h4
      exact q _ _ _ (Wld.refl hi) (.tup h1 (by rw [List.append_nil]; exact h2))
    · have w := wld_new (o := .tup (xs ++ ys)) hi hp
      exact q _ _ _ w (.tup upd_same ((h2.app h4).mono w.fz))
/-! tests, choices -/
theorem pe_nev {X : Cx} : PE X e (fun _ _ _ => False) := ⟨fun _ _ _ _ _ _ h => h.elim⟩
theorem x_opt {p : Prop} [Decidable p] {d : Dt} (h : p → XD Y k e ds d) : ∃ te, (∀ i, PE (Y i) e te) ∧ (p → EP k te ds d) := by
  by_cases q : p
  · obtain ⟨t, h1, h2⟩ := h q
    exact ⟨t, h1, fun _ => h2⟩
  · exact ⟨_, fun _ => pe_nev, fun z => absurd z q⟩
theorem x_ifE {d : Dt} {p : Bool} (hc : XD Y k c ds (.bl p)) (ha : p = true → XD Y k a ds d) (hb : p = false → XD Y k b ds d)
    (hs : ∀ i, ∀ (whole : Sem Value), PySem.isTrue c (Y i).env whole = (do let v ← whole; standAt c.pos; holding [v] (truthy v)) := by intro i whole; rfl) : XD Y k (.IfExp c a b pos) ds d := by
  obtain ⟨tc, pc, ec⟩ := hc
  obtain ⟨ta, pa, ea⟩ := x_opt ha
  obtain ⟨tb, pb, eb⟩ := x_opt hb
  refine ⟨_, fun i => pe_ifExp (pt_val (pc i) (hs i)) (pa i) (pb i), fun M G0 G σ H0 H E Q q => ?_⟩
  refine ec M G0 G σ H0 H E _ fun x H1 H1' E1 e1 r1 => ?_
  cases r1
  refine ⟨p, rfl, ?_⟩
  cases p with
  | true => exact ea rfl M G0 G σ H1 H1' E1 _ fun z H2 H2' E2 e2 r2 => q z H2 H2' E2 (e1.trans e2) r2
  | false => exact eb rfl M G0 G σ H1 H1' E1 _ fun z H2 H2' E2 e2 r2 => q z H2 H2' E2 (e1.trans e2) r2
theorem x_and {p q : Bool} {rest : List Expr} (ha : XD Y k a ds (.bl p)) (hb : p = true → XD Y k (.BoolOp .And (b :: rest) pos) ds (.bl q)) : XD Y k (.BoolOp .And (a :: b :: rest) pos) ds (.bl (p && q)) := by
  obtain ⟨ta, pa, ea⟩ := ha
  obtain ⟨tb, pb, eb⟩ := x_opt hb
  refine ⟨_, fun i => pe_and (pa i) (pb i), fun M G0 G σ H0 H E Q k => ?_⟩
  refine ea M G0 G σ H0 H E _ fun x H1 H1' E1 e1 r1 => ?_
  cases r1
  refine ⟨p, rfl, ?_⟩
  cases p with
  | true => exact eb rfl M G0 G σ H1 H1' E1 _ fun z H2 H2' E2 e2 r2 => k z H2 H2' E2 (e1.trans e2) r2
  | false => exact k _ H1 H1' E1 e1 (.bl _)
theorem x_or {p q : Bool} {rest : List Expr} (ha : XD Y k a ds (.bl p)) (hb : p = false → XD Y k (.BoolOp .Or (b :: rest) pos) ds (.bl q)) : XD Y k (.BoolOp .Or (a :: b :: rest) pos) ds (.bl (p || q)) := by
  obtain ⟨ta, pa, ea⟩ := ha
  obtain ⟨tb, pb, eb⟩ := x_opt hb
  refine ⟨_, fun i => pe_or (pa i) (pb i), fun M G0 G σ H0 H E Q k => ?_⟩
  refine ea M G0 G σ H0 H E _ fun x H1 H1' E1 e1 r1 => ?_
  cases r1
  refine ⟨p, rfl, ?_⟩
  cases p with
  | false => exact eb rfl M G0 G σ H1 H1' E1 _ fun z H2 H2' E2 e2 r2 => k z H2 H2' E2 (e1.trans e2) r2
  | true => exact k _ H1 H1' E1 e1 (.bl _)
theorem x_one {op : BoolOp} {d : Dt} (ha : XD Y k a ds d) : XD Y k (.BoolOp op [a] pos) ds d := by
  obtain ⟨ta, pa, ea⟩ := ha
  exact ⟨_, fun i => pe_one (pa i), ea⟩
theorem x_not {p : Bool} (ha : XD Y k a ds (.bl p)) : XD Y k (.UnaryOp .Not a pos) ds (.bl (!p)) := by
  obtain ⟨ta, pa, ea⟩ := ha
  refine ⟨_, fun i => pe_not (pa i), fun M G0 G σ H0 H E Q k => ea M G0 G σ H0 H E _ fun x H1 H1' E1 e1 r1 => ?_⟩
  cases r1
  exact ⟨p, rfl, k _ _ _ E1 e1 (.bl _)⟩
theorem x_neg {i : Int} (ha : XD Y k a ds (.int i)) : XD Y k (.UnaryOp .USub a pos) ds (.int (-i)) := by
  obtain ⟨ta, pa, ea⟩ := ha
  refine ⟨_, fun i => pe_un un_neg (pa i), fun M G0 G σ H0 H E Q k => ea M G0 G σ H0 H E _ fun x H1 H1' E1 e1 r1 => ?_⟩
  cases r1
  exact ⟨i, rfl, k _ _ _ E1 e1 (.int _)⟩
/-! slices -/
theorem xo_none : XO Y k none ds none := ⟨_, fun _ => po_none, fun M G0 G σ H0 H E Q q => q _ _ E (Wld.refl E.wld.in_)⟩
theorem xo_some {i : Int} (h : XD Y k e ds (.int i)) : XO Y k (some e) ds (some i) := by
  obtain ⟨t, p, ee⟩ := h
  refine ⟨_, fun i => po_some (p i), fun M G0 G σ H0 H E Q q => ee M G0 G σ H0 H E _ fun x H1 H1' E1 e1 r1 => ?_⟩
  cases r1
  exact ⟨i, rfl, q _ _ E1 e1⟩
def cutD (l : List Dt) (lo hi : Option Int) : List Dt := List.take (HT.sIx l.length l.length hi - HT.sIx l.length 0 lo) (List.drop (HT.sIx l.length 0 lo) l)
theorem cut_ok {H : Hp} {xs : List V} {l : List Dt} {lo hi : Option Int} (r : RpA k H xs l) : RpA k H (cutV xs lo hi) (cutD l lo hi) := by
  unfold cutV cutD
  rw [r.length]
  exact (r.drop _).take _
theorem x_slL (g : Good Y k lv) {lo hi : Option Expr} {l : List Dt} {i j : Option Int} {p2 : Pos} (ha : XD Y k a ds (.lst l)) (hl : XO Y k lo ds i) (hh : XO Y k hi ds j) : XD Y k (.Subscript a (.Slice lo hi none p2) pos) ds (.lst (cutD l i j)) := by
  obtain ⟨ta, pa, ea⟩ := ha
  obtain ⟨tl, pl, el⟩ := hl
  obtain ⟨th, ph, eh⟩ := hh
  refine ⟨tSl (rSlL k.K) ta tl th, fun i => by have h := pe_slice (X := Y i) (pos := pos) (p2 := p2) sl_list (pa i) (pl i) (ph i); rw [g.eK i] at h; exact h, fun M G0 G σ H0 H E Q q => ?_⟩
  refine ea M G0 G σ H0 H E _ fun x H1 H1' E1 e1 r1 => el M G0 G σ H1 H1' E1 _ fun H2 H2' E2 e2 => eh M G0 G σ H2 H2' E2 _ fun H3 H3' E3 e3 => ?_
  cases r1
  rename_i a1 xs h1 h2
  refine ⟨_, _, rfl, sq_of (E3.wld.in_ _ _ (e3.fz _ _ (e2.fz _ _ h1))), fun p hp => ?_⟩
  have w := wld_new (o := .lst (cutV xs i j)) E3.wld.in_ hp
  exact q _ _ _ (E3.step w) (((e1.trans e2).trans e3).trans w) (.lst upd_same (cut_ok (h2.mono ((e2.trans e3).trans w).fz)))
theorem sIx_same0 {xs : List V} {i j : Option Int} (h : HT.sIx xs.length 0 i = 0 ∧ HT.sIx xs.length xs.length j = xs.length) : cutV xs i j = xs := by
  unfold cutV
  rw [h.1, h.2]
  simp
theorem x_slT (g : Good Y k lv) {lo hi : Option Expr} {l : List Dt} {i j : Option Int} {p2 : Pos} (ha : XD Y k a ds (.tup l)) (hl : XO Y k lo ds i) (hh : XO Y k hi ds j) : XD Y k (.Subscript a (.Slice lo hi none p2) pos) ds (.tup (cutD l i j)) := by
  obtain ⟨ta, pa, ea⟩ := ha
  obtain ⟨tl, pl, el⟩ := hl
  obtain ⟨th, ph, eh⟩ := hh
  refine ⟨tSl (rSlA k.K) ta tl th, fun i => by have h := pe_slice (X := Y i) (pos := pos) (p2 := p2) sl_tupA (pa i) (pl i) (ph i); rw [g.eK i] at h; exact h, fun M G0 G σ H0 H E Q q => ?_⟩
  refine ea M G0 G σ H0 H E _ fun x H1 H1' E1 e1 r1 => el M G0 G σ H1 H1' E1 _ fun H2 H2' E2 e2 => eh M G0 G σ H2 H2' E2 _ fun H3 H3' E3 e3 => ?_
  cases r1
  rename_i a1 xs h1 h2
  refine ⟨_, _, rfl, st_of (E3.wld.in_ _ _ (e3.fz _ _ (e2.fz _ _ h1))), fun z => ?_, fun _ p hp => ?_⟩
  · have c := cut_ok (lo := i) (hi := j) h2
    rw [sIx_same0 z] at c
    exact q _ _ _ E3 ((e1.trans e2).trans e3) ((Rp.tup h1 c).mono (e2.trans e3).fz)
  · have w := wld_new (o := .tup (cutV xs i j)) E3.wld.in_ hp
    exact q _ _ _ (E3.step w) (((e1.trans e2).trans e3).trans w) (.tup upd_same (cut_ok (h2.mono ((e2.trans e3).trans w).fz)))
theorem x_catA (g : Good Y k lv) {l m : List Dt} (ha : XD Y k a ds (.tup l)) (hb : XD Y k b ds (.tup m)) (hz : l.length + m.length ≤ 100000) : XD Y k (.BinOp a .Add b pos) ds (.tup (l ++ m)) :=
  x_mk2 (f := fun a b => .BinOp a .Add b pos) (r := rCatA k.K) ha hb (fun i ta tb p q => by have h := pe_op (X := Y i) (pos := pos) op_catA p q; rw [g.eK i] at h; exact h) fun H0 H x y hi r1 r2 Q q => by
    cases r1; rename_i a1 xs h1 h2; cases r2; rename_i a2 ys h3 h4
    refine ⟨_, _, _, _, rfl, rfl, st_of (hi _ _ h1), st_of (hi _ _ h3), sz_of (by rw [h2.length, h4.length]; exact hz), fun e => ?_, fun _ e => ?_, fun _ _ p hp => ?_⟩
    · subst e
      cases h2
      exact q _ _ _ (Wld.refl hi) (.tup h3 h4)
    · subst e
      cases h4
      exact q _ _ _ (Wld.refl hi) (.tup h1 (by rw [List.append_nil]; exact h2))
    · have w := wld_new (o := .tup (xs ++ ys)) hi hp
      exact q _ _ _ w (.tup upd_same ((h2.app h4).mono w.fz))
/-! built-ins -/
theorem x_B {x : PySem.Str} {id : String} {p : Pos} {es : List Expr} {l : List Dt} {d : Dt} {r : List V → Hp → VK → Prop} (g : Good Y k lv) (hc : ∀ i, CallR (Y i) (.builtin id) r) (hm : k.mg x = none) (hv : bootBuiltins x = some (.builtin id)) (ha : XA Y k (a :: es) ds l)
    (hr : ∀ H0 H vs, Ex H0 H → RpA k H0 vs l → ∀ Q : VK, (∀ z H0' H', Wld [] H0 H H0' H' → Rp k H0' z d → Q z H') → r vs H Q) (hg : ∀ i, Gl (Y i) x := by intro _; rfl) (h1 : x ≠ ("__name__" : PySem.Str) := by decide) (h2 : (x == ("__debug__" : PySem.Str)) = false := by decide)
    (he : ∀ i, starEach (a :: es) (Y i).env = (false, eval a (Y i).env) :: starEach es (Y i).env := by intro _; rfl) (hpl : ∀ i, ((backTo pos (starEach es (Y i).env)).any fun x => x.1) = false := by intro _; rfl) : XD Y k (.Call (.Name x p) (a :: es) [] pos) ds d := by
  obtain ⟨ta, pa, ea⟩ := ha
  refine ⟨tCB r ta, fun i => pe_callB (hc i) (hg i) (by rw [g.em i]; exact hm) hv (pa i) h1 h2 (he i) (hpl i), fun M G0 G σ H0 H E Q q => ea M G0 G σ H0 H E _ fun vs H1 H1' E1 e1 r1 => hr H1 H1' vs E1.wld.in_ r1 Q fun z H2 H2' w hz => q z H2 H2' (E1.step w) (e1.trans w) hz⟩
theorem x_Ty {x : PySem.Str} {id : String} {p : Pos} {es : List Expr} {l : List Dt} {d : Dt} {r : List V → Hp → VK → Prop} (g : Good Y k lv) (hc : ∀ i, CallR (Y i) (.type id) r) (hm : k.mg x = none) (hv : bootBuiltins x = some (.type id)) (ha : XA Y k (a :: es) ds l)
    (hr : ∀ H0 H vs, Ex H0 H → RpA k H0 vs l → ∀ Q : VK, (∀ z H0' H', Wld [] H0 H H0' H' → Rp k H0' z d → Q z H') → r vs H Q) (hg : ∀ i, Gl (Y i) x := by intro _; rfl) (h1 : x ≠ ("__name__" : PySem.Str) := by decide) (h2 : (x == ("__debug__" : PySem.Str)) = false := by decide)
    (he : ∀ i, starEach (a :: es) (Y i).env = (false, eval a (Y i).env) :: starEach es (Y i).env := by intro _; rfl) (hpl : ∀ i, ((backTo pos (starEach es (Y i).env)).any fun x => x.1) = false := by intro _; rfl) : XD Y k (.Call (.Name x p) (a :: es) [] pos) ds d := by
  obtain ⟨ta, pa, ea⟩ := ha
  refine ⟨tCB r ta, fun i => pe_callTy (hc i) (hg i) (by rw [g.em i]; exact hm) hv (pa i) h1 h2 (he i) (hpl i), fun M G0 G σ H0 H E Q q => ea M G0 G σ H0 H E _ fun vs H1 H1' E1 e1 r1 => hr H1 H1' vs E1.wld.in_ r1 Q fun z H2 H2' w hz => q z H2 H2' (E1.step w) (e1.trans w) hz⟩
theorem RpA.one {H : Hp} {vs : List V} {d : Dt} (r : RpA k H vs [d]) : ∃ v, vs = [v] ∧ Rp k H v d := by
  cases r with | cons h r => cases r; exact ⟨_, rfl, h⟩
theorem RpA.two {H : Hp} {vs : List V} {d e : Dt} (r : RpA k H vs [d, e]) : ∃ v w, vs = [v, w] ∧ Rp k H v d ∧ Rp k H w e := by
  cases r with | cons h r => obtain ⟨w, rfl, h2⟩ := r.one; exact ⟨_, _, rfl, h, h2⟩
theorem RpA.three {H : Hp} {vs : List V} {d e f : Dt} (r : RpA k H vs [d, e, f]) : ∃ v w z, vs = [v, w, z] ∧ Rp k H v d ∧ Rp k H w e ∧ Rp k H z f := by
  cases r with | cons h r => obtain ⟨w, z, rfl, h2, h3⟩ := r.two; exact ⟨_, _, _, rfl, h, h2, h3⟩
section
variable {p : Pos} {l : List Dt}
theorem x_len (g : Good Y k lv) {d : Dt} (hm : k.mg "len" = none) (ha : XD Y k a ds d) (hs : seqD l d) (he : ∀ i, starEach [a] (Y i).env = (false, eval a (Y i).env) :: starEach [] (Y i).env := by intro _; rfl) (hg : ∀ i, Gl (Y i) "len" := by intro _; rfl) : XD Y k (.Call (.Name "len" p) [a] [] pos) ds (.int l.length) :=
  x_B (r := fun xs H Q => ∃ p ys, xs = [V.ref p] ∧ (SqL k.K H p ys ∨ SqT k.K H p ys) ∧ Q (V.int ↑ys.length) H) g (fun i => by have h := call_len_seq (X := Y i); rw [g.eK i] at h; exact h) hm PySem.boot_len (xa_cons ha xa_nil he) (fun H0 H vs hi r Q q => by
    obtain ⟨v, rfl, r1⟩ := r.one
    obtain ⟨b, xs, rfl, h1, h2⟩ := seq_ok r1 hs
    refine ⟨b, xs, rfl, sq_mono hi (h1 _), ?_⟩
    rw [h2.length]
    exact q _ _ _ (Wld.refl hi) (.int _)) (he := he) (hg := hg)
theorem x_lenScr (g : Good Y k lv) {ns : List Int} (hm : k.mg "len" = none) (ha : XD Y k a ds (.scr ns)) (he : ∀ i, starEach [a] (Y i).env = (false, eval a (Y i).env) :: starEach [] (Y i).env := by intro _; rfl) (hg : ∀ i, Gl (Y i) "len" := by intro _; rfl) : XD Y k (.Call (.Name "len" p) [a] [] pos) ds (.int ns.length) :=
  x_B (r := fun xs H Q => ∃ p ys, xs = [V.ref p] ∧ (SqL k.K H p ys ∨ SqT k.K H p ys) ∧ Q (V.int ↑ys.length) H) g (fun i => by have h := call_len_seq (X := Y i); rw [g.eK i] at h; exact h) hm PySem.boot_len (xa_cons ha xa_nil he) (fun H0 H vs hi r Q q => by
    obtain ⟨v, rfl, r1⟩ := r.one
    cases r1
    rename_i h
    refine ⟨_, _, rfl, .inl (ex_l hi h), ?_⟩
    rw [List.length_map]
    exact q _ _ _ (Wld.refl hi) (.int _)) (he := he) (hg := hg)
theorem x_list (g : Good Y k lv) {d : Dt} (hm : k.mg "list" = none) (ha : XD Y k a ds d) (hs : seqD l d := by rfl) (he : ∀ i, starEach [a] (Y i).env = (false, eval a (Y i).env) :: starEach [] (Y i).env := by intro _; rfl) (hg : ∀ i, Gl (Y i) "list" := by intro _; rfl) : XD Y k (.Call (.Name "list" p) [a] [] pos) ds (.lst l) :=
  x_Ty (r := fun xs H Q => ∃ p ys, xs = [V.ref p] ∧ (SqL k.K H p ys ∨ SqT k.K H p ys) ∧ ∀ (l : Addr), H l = none → Q (V.ref l) (upd H l (HO.lst ys))) g (fun i => by have h := call_list_of (X := Y i); rw [g.eK i] at h; exact h) hm (by decide +kernel) (xa_cons ha xa_nil he) (fun H0 H vs hi r Q q => by
    obtain ⟨v, rfl, r1⟩ := r.one
    obtain ⟨b, xs, rfl, h1, h2⟩ := seq_ok r1 hs
    refine ⟨b, xs, rfl, sq_mono hi (h1 _), fun p hp => ?_⟩
    have w := wld_new (o := .lst xs) hi hp
    exact q _ _ _ w (.lst upd_same (h2.mono w.fz))) (he := he) (hg := hg)
theorem x_tuple (g : Good Y k lv) (hm : k.mg "tuple" = none) (ha : XD Y k a ds (.lst l)) (he : ∀ i, starEach [a] (Y i).env = (false, eval a (Y i).env) :: starEach [] (Y i).env := by intro _; rfl) (hg : ∀ i, Gl (Y i) "tuple" := by intro _; rfl) : XD Y k (.Call (.Name "tuple" p) [a] [] pos) ds (.tup l) :=
  x_Ty (r := fun xs H Q => ∃ p ys, xs = [V.ref p] ∧ ((SqL k.K H p ys ∧ ∀ (l : Addr), H l = none → Q (V.ref l) (upd H l (HO.tup ys))) ∨ SqT k.K H p ys ∧ Q (V.ref p) H)) g (fun i => by have h := call_tuple_of (X := Y i); rw [g.eK i] at h; exact h) hm (by decide +kernel) (xa_cons ha xa_nil he) (fun H0 H vs hi r Q q => by
    obtain ⟨v, rfl, r1⟩ := r.one
    cases r1
    rename_i a1 xs h1 h2
    refine ⟨_, xs, rfl, .inl ⟨sq_of (hi _ _ h1), fun p hp => ?_⟩⟩
    have w := wld_new (o := .tup xs) hi hp
    exact q _ _ _ w (.tup upd_same (h2.mono w.fz))) (he := he) (hg := hg)
theorem x_strI (g : Good Y k lv) {n : Int} (hm : k.mg "str" = none) (ha : XD Y k a ds (.int n)) (hn : n.natAbs.log2 < 1920) (he : ∀ i, starEach [a] (Y i).env = (false, eval a (Y i).env) :: starEach [] (Y i).env := by intro _; rfl) (hg : ∀ i, Gl (Y i) "str" := by intro _; rfl) : XD Y k (.Call (.Name "str" p) [a] [] pos) ds (.str (Str.ofString (toString n))) :=
  x_Ty g (fun i => call_str_int) hm (by decide +kernel) (xa_cons ha xa_nil he) (fun H0 H vs hi r Q q => by
    obtain ⟨v, rfl, r1⟩ := r.one
    cases r1
    exact ⟨n, rfl, hn, q _ _ _ (Wld.refl hi) (.str _)⟩) (he := he) (hg := hg)
theorem x_intB (g : Good Y k lv) {n : Bool} (hm : k.mg "int" = none) (ha : XD Y k a ds (.bl n)) (he : ∀ i, starEach [a] (Y i).env = (false, eval a (Y i).env) :: starEach [] (Y i).env := by intro _; rfl) (hg : ∀ i, Gl (Y i) "int" := by intro _; rfl) : XD Y k (.Call (.Name "int" p) [a] [] pos) ds (.int (if n then 1 else 0)) :=
  x_Ty g (fun i => call_int1) hm (by decide +kernel) (xa_cons ha xa_nil he) (fun H0 H vs hi r Q q => by
    obtain ⟨v, rfl, r1⟩ := r.one
    cases r1
    exact .inr ⟨n, rfl, q _ _ _ (Wld.refl hi) (.int _)⟩) (he := he) (hg := hg)
theorem x_max2 (g : Good Y k lv) {i j : Int} (hm : k.mg "max" = none) (ha : XA Y k [a, b] ds [.int i, .int j]) (he : ∀ i, starEach [a, b] (Y i).env = (false, eval a (Y i).env) :: starEach [b] (Y i).env := by intro _; rfl) (hpl : ∀ i, ((backTo pos (starEach [b] (Y i).env)).any fun x => x.1) = false := by intro _; rfl) (hg : ∀ i, Gl (Y i) "max" := by intro _; rfl) : XD Y k (.Call (.Name "max" p) [a, b] [] pos) ds (.int (if j > i then j else i)) :=
  x_B g (fun i => call_max2 (g.ec i)) hm (by decide +kernel) ha (fun H0 H vs hi r Q q => by
    obtain ⟨v, w, rfl, r1, r2⟩ := r.two
    cases r1; cases r2
    exact ⟨i, j, rfl, q _ _ _ (Wld.refl hi) (.int _)⟩) (he := he) (hg := hg) (hpl := hpl)
theorem x_min2 (g : Good Y k lv) {i j : Int} (hm : k.mg "min" = none) (ha : XA Y k [a, b] ds [.int i, .int j]) (he : ∀ i, starEach [a, b] (Y i).env = (false, eval a (Y i).env) :: starEach [b] (Y i).env := by intro _; rfl) (hpl : ∀ i, ((backTo pos (starEach [b] (Y i).env)).any fun x => x.1) = false := by intro _; rfl) (hg : ∀ i, Gl (Y i) "min" := by intro _; rfl) : XD Y k (.Call (.Name "min" p) [a, b] [] pos) ds (.int (if j < i then j else i)) :=
  x_B g (fun i => call_min2 (g.ec i)) hm (by decide +kernel) ha (fun H0 H vs hi r Q q => by
    obtain ⟨v, w, rfl, r1, r2⟩ := r.two
    cases r1; cases r2
    exact ⟨i, j, rfl, q _ _ _ (Wld.refl hi) (.int _)⟩) (he := he) (hg := hg) (hpl := hpl)
theorem x_max3 (g : Good Y k lv) {i j n : Int} (hm : k.mg "max" = none) (ha : XA Y k [a, b, c] ds [.int i, .int j, .int n]) (he : ∀ i, starEach [a, b, c] (Y i).env = (false, eval a (Y i).env) :: starEach [b, c] (Y i).env := by intro _; rfl) (hpl : ∀ i, ((backTo pos (starEach [b, c] (Y i).env)).any fun x => x.1) = false := by intro _; rfl) (hg : ∀ i, Gl (Y i) "max" := by intro _; rfl) : XD Y k (.Call (.Name "max" p) [a, b, c] [] pos) ds (.int (if j > i then (if n > j then n else j) else (if n > i then n else i))) :=
  x_B g (fun i => call_max3 (g.ec i)) hm (by decide +kernel) ha (fun H0 H vs hi r Q q => by
    obtain ⟨v, w, z, rfl, r1, r2, r3⟩ := r.three
    cases r1; cases r2; cases r3
    exact ⟨i, j, n, rfl, q _ _ _ (Wld.refl hi) (.int _)⟩) (he := he) (hg := hg) (hpl := hpl)
end
theorem sIx_same {l : List Dt} {i j : Option Int} (h : HT.sIx l.length 0 i = 0 ∧ HT.sIx l.length l.length j = l.length) : cutD l i j = l := by
  unfold cutD
  rw [h.1, h.2]
  simp
end
end Uw
end
section
set_option Elab.async false
set_option linter.all false
set_option maxRecDepth 100000
set_option maxHeartbeats 4000000
namespace Uw
open PySem PySem.Spec PyProof.Rows L2 Evl
/-! expressions that may change what stands in a slot; statements; calls -/
theorem wld_mut {A A' B B' : Hp} {p : Addr} {o : HO} (w : Wld [] A A' B B') (h1 : A' p = none) (h2 : B p = none) : Wld [] A A' B (upd B' p o) :=
  ⟨w.fz, fun a u e => by rw [upd_ne (ne_of_none e h2)]; exact w.in_ a u e, fun a u n e => by rw [upd_ne (ne_of_none e h1)]; exact w.kp a u n e, w.nw, fun a e => by
    by_cases q : a = p
    · subst q; exact absurd h1 e
    · rw [upd_ne q]; exact w.tr a e⟩
theorem wld_frz {A A' B B' : Hp} {p : Addr} {o : HO} (w : Wld [] A A' B B') (h1 : A' p = none) (h2 : B p = none) (h3 : B' p = some o) : Wld [] A A' (upd B p o) B' :=
  ⟨w.fz.trans (Ex.new h2), fun a u e => by
    by_cases q : a = p
    · subst q; rw [upd_same] at e; rw [h3]; exact e
    · rw [upd_ne q] at e; exact w.in_ a u e, w.kp, fun a e => by
    by_cases q : a = p
    · subst q; exact .inr h1
    · rw [upd_ne q] at e; exact w.nw a e, w.tr⟩
theorem wld_stay {A A' B B' : Hp} {p : Addr} {o : HO} (w : Wld [] A A' B B') (h1 : A p = none) (h2 : A' p = some o) : B p = none ∧ B' p = some o := by
  refine ⟨?_, w.kp p o (by simp) h2⟩
  refine Classical.byContradiction fun z => ?_
  rcases w.nw p z with y | y
  · exact y h1
  · rw [y] at h2; cases h2
def tE {ι : Type} (Y : ι → Cx) (e : Expr) : TE := fun σ H Q => ∃ te, (∀ i, PE (Y i) e te) ∧ te σ H Q
theorem pe_tE {ι : Type} {Y : ι → Cx} {e : Expr} (i : ι) : PE (Y i) e (tE Y e) := ⟨fun pins s σ H Q I ⟨te, h, q⟩ => (h i).run pins s σ H Q I q⟩
theorem XD.top {ι : Type} {Y : ι → Cx} {k : Kw} {e : Expr} {ds : EV} {d : Dt} (h : XD Y k e ds d) : EP k (tE Y e) ds d := by
  obtain ⟨te, p, ee⟩ := h
  exact fun M G0 G σ H0 H E Q q => ⟨te, p, ee M G0 G σ H0 H E Q q⟩
def EX (k : Kw) (te : TE) (ds : EV) (Po : Dt → EV → Prop) : Prop := ∀ M G0 G σ H0 H, Env k M G0 G σ H0 H ds → ∀ Q : VK, (∀ v H0' H' d ds', Po d ds' → Env k M G0 G σ H0' H' ds' → Ex H0 H0' → Rp k H0' v d → Q v H') → te σ H Q
def EXA (k : Kw) (ta : TA) (ds : EV) (Po : List Dt → EV → Prop) : Prop := ∀ M G0 G σ H0 H, Env k M G0 G σ H0 H ds → ∀ Q : List V → Hp → Prop, (∀ vs H0' H' l ds', Po l ds' → Env k M G0 G σ H0' H' ds' → Ex H0 H0' → RpA k H0' vs l → Q vs H') → ta σ H Q
section
variable {ι : Type} {Y : ι → Cx} {k : Kw} {lv : Nat} {ds : EV} {e a b c : Expr} {pos : Pos}
def XX {ι : Type} (Y : ι → Cx) (k : Kw) (e : Expr) (ds : EV) (Po : Dt → EV → Prop) : Prop := EX k (tE Y e) ds Po
def tA {ι : Type} (Y : ι → Cx) (es : List Expr) : TA := fun σ H Q => ∃ ta, (∀ i, PA (Y i) es ta) ∧ ta σ H Q
theorem pa_tA {ι : Type} {Y : ι → Cx} {es : List Expr} (i : ι) : PA (Y i) es (tA Y es) := ⟨fun ps pins s σ H Q I ⟨te, h, q⟩ => (h i).run ps pins s σ H Q I q⟩
def XXA {ι : Type} (Y : ι → Cx) (k : Kw) (es : List Expr) (ds : EV) (Po : List Dt → EV → Prop) : Prop := EXA k (tA Y es) ds Po
theorem xx_of {te : TE} {Po : Dt → EV → Prop} (p : ∀ i, PE (Y i) e te) (h : EX k te ds Po) : XX Y k e ds Po := fun M G0 G σ H0 H E Q q => ⟨te, p, h M G0 G σ H0 H E Q q⟩
theorem XD.xx {d : Dt} (h : XD Y k e ds d) : XX Y k e ds (fun d' ds' => d' = d ∧ ds' = ds) := fun M G0 G σ H0 H E Q q =>
  h.top M G0 G σ H0 H E Q fun v H0' H' E' ex r => q v H0' H' d ds ⟨rfl, rfl⟩ E' ex.fz r
theorem XX.mono {P P' : Dt → EV → Prop} (h : XX Y k e ds P) (m : ∀ d ds', P d ds' → P' d ds') : XX Y k e ds P' := fun M G0 G σ H0 H E Q q =>
  h M G0 G σ H0 H E Q fun v H0' H' d ds' p E' ex r => q v H0' H' d ds' (m _ _ p) E' ex r
theorem xxa_nil : XXA Y k [] ds (fun l ds' => l = [] ∧ ds' = ds) := fun M G0 G σ H0 H E Q q => ⟨_, fun _ => pa_nil, q [] H0 H [] ds ⟨rfl, rfl⟩ E (Ex.refl _) .nil⟩
theorem xxa_cons {es : List Expr} {P : Dt → EV → Prop} {Po : List Dt → EV → Prop} (h : XX Y k e ds P) (hr : ∀ d ds', P d ds' → XXA Y k es ds' (fun l ds'' => Po (d :: l) ds''))
    (hs : ∀ i, starEach (e :: es) (Y i).env = (false, eval e (Y i).env) :: starEach es (Y i).env := by intro _; rfl) : XXA Y k (e :: es) ds Po := fun M G0 G σ H0 H E Q q =>
  ⟨tCons (tE Y e) (tA Y es), fun i => pa_cons (pe_tE i) (pa_tA i) (hs i), h M G0 G σ H0 H E _ fun x H1 H1' d ds1 p1 E1 e1 r1 =>
    hr d ds1 p1 M G0 G σ H1 H1' E1 _ fun y H2 H2' l ds2 p2 E2 e2 r2 => q (x :: y) H2 H2' (d :: l) ds2 p2 E2 (e1.trans e2) (.cons (r1.mono e2) r2)⟩
theorem xx_tup {es : List Expr} {n : Nat} {Po : List Dt → EV → Prop} (h : XXA Y k es ds Po) (hl : ∀ l ds', Po l ds' → l.length ≤ 100000) : XX Y k (.Tuple es n pos) ds (fun d ds' => ∃ l, d = .tup l ∧ Po l ds') :=
  xx_of (fun i => pe_tup (pa_tA i)) fun M G0 G σ H0 H E Q q => h M G0 G σ H0 H E _ fun xs H1 H1' l ds1 p1 E1 e1 r1 => ⟨sz_of (by rw [r1.length]; exact hl _ _ p1), fun p hp => by
    have w := wld_new (o := .tup xs) E1.wld.in_ hp
    exact q _ _ _ (.tup l) ds1 ⟨l, rfl, p1⟩ (E1.step w) (e1.trans w.fz) (.tup upd_same (r1.mono w.fz))⟩
/-- a binary operation, the left side alone may be of several outcomes -/
theorem xx_catL {P P' : Dt → EV → Prop} (ha : XX Y k a ds P) (hb : ∀ d ds', P d ds' → XX Y k b ds' (fun d2 ds2 => ∃ l m, d = .lst l ∧ d2 = .lst m ∧ l.length + m.length ≤ 100000 ∧ P' (.lst (l ++ m)) ds2)) : XX Y k (.BinOp a .Add b pos) ds P' :=
  xx_of (fun i => pe_op op_cat (pe_tE i) (pe_tE i)) fun M G0 G σ H0 H E Q q => ha M G0 G σ H0 H E _ fun x H1 H1' d ds1 p1 E1 e1 r1 => hb d ds1 p1 M G0 G σ H1 H1' E1 _ fun y H2 H2' d2 ds2 p2 E2 e2 r2 => by
    obtain ⟨l, m, rfl, rfl, hz, hp⟩ := p2
    cases r1; rename_i a1 xs h1 h2; cases r2; rename_i a2 ys h3 h4
    refine ⟨_, _, _, _, rfl, rfl, E2.wld.in_ _ _ (e2 _ _ h1), E2.wld.in_ _ _ h3, sz_of (by rw [h2.length, h4.length]; exact hz), fun p hp' => ?_⟩
    have w := wld_new (o := .lst (xs ++ ys)) E2.wld.in_ hp'
    exact q _ _ _ _ ds2 hp (E2.step w) ((e1.trans e2).trans w.fz) (.lst upd_same (((h2.mono e2).app h4).mono w.fz))
/-- a new list, that may change later -/
def EN (k : Kw) (te : TE) (ds : EV) (P : List Dt → Prop) : Prop := ∀ M G0 G σ H0 H, Env k M G0 G σ H0 H ds → ∀ Q : VK, (∀ p xs H0' H' l, P l → Wld [] H0 H H0' H' → H p = none → H0' p = none → H' p = some (.lst xs) → RpA k H0' xs l → Q (.ref p) H') → te σ H Q
def XN {ι : Type} (Y : ι → Cx) (k : Kw) (e : Expr) (ds : EV) (P : List Dt → Prop) : Prop := EN k (tE Y e) ds P
theorem xn_of {te : TE} {P : List Dt → Prop} (p : ∀ i, PE (Y i) e te) (h : EN k te ds P) : XN Y k e ds P := fun M G0 G σ H0 H E Q q => ⟨te, p, h M G0 G σ H0 H E Q q⟩
theorem xn_lst {es : List Expr} {l : List Dt} {P : List Dt → Prop} (h : XA Y k es ds l) (hP : P l) (hl : l.length ≤ 100000 := by exact Nat.le_of_ble_eq_true rfl) : XN Y k (.List es pos) ds P := by
  obtain ⟨ta, pa, ea⟩ := h
  refine xn_of (fun i => pe_lst (pa i)) fun M G0 G σ H0 H E Q q => ?_
  refine ea M G0 G σ H0 H E _ fun xs H1 H1' E1 e1 r1 => ⟨sz_of (by rw [r1.length]; exact hl), fun p hp => ?_⟩
  have h0 := fresh_back E1.wld.in_ hp
  exact q p xs H1 _ l hP (wld_mut e1 (Classical.byContradiction fun z => e1.tr p z hp) h0) (Classical.byContradiction fun z => e1.tr p z hp) h0 upd_same r1
/-! tests -/
def EPT (k : Kw) (tt : TT) (ds : EV) (b : Bool) : Prop := ∀ M G0 G σ H0 H, Env k M G0 G σ H0 H ds → ∀ Q : Bool → Hp → Prop, (∀ H0' H', Env k M G0 G σ H0' H' ds → Wld [] H0 H H0' H' → Q b H') → tt σ H Q
def XT {ι : Type} (Y : ι → Cx) (k : Kw) (e : Expr) (ds : EV) (b : Bool) : Prop := ∃ tt, (∀ i, PT (Y i) e tt) ∧ EPT k tt ds b
def XW {ι : Type} (Y : ι → Cx) (k : Kw) (e : Expr) (ds : EV) (b : Bool) : Prop := ∃ tt, (∀ i, PW (Y i) e tt) ∧ EPT k tt ds b
theorem t_v {p : Bool} (h : XD Y k e ds (.bl p)) (hs : ∀ i, ∀ (whole : Sem Value), PySem.isTrue e (Y i).env whole = (do let v ← whole; standAt e.pos; holding [v] (truthy v)) := by intro i whole; rfl) : XT Y k e ds p := by
  obtain ⟨te, pe, ee⟩ := h
  refine ⟨_, fun i => pt_val (pe i) (hs i), fun M G0 G σ H0 H E Q q => ee M G0 G σ H0 H E _ fun x H1 H1' E1 e1 r1 => ?_⟩
  cases r1
  exact ⟨p, rfl, q _ _ E1 e1⟩
theorem t_c {op : CmpOp} {p : Bool} (h : XC Y k a op b ds p) : XT Y k (.Compare a [op] [b] pos) ds p := by
  obtain ⟨r, ta, tb, h1, h2, h3⟩ := h
  refine ⟨_, fun i => pt_cmpR (h1 i).1 (h1 i).2.1 (h1 i).2.2 h2, fun M G0 G σ H0 H E Q q => h3 M G0 G σ H0 H E _ fun x H1 H1' E1 e1 r1 => ?_⟩
  cases r1
  exact ⟨p, rfl, q _ _ E1 e1⟩
theorem t_w {p : Bool} (h : XW Y k e ds p) : XT Y k e ds p := by
  obtain ⟨te, pe, ee⟩ := h
  exact ⟨_, fun i => (pe i).pt, ee⟩
theorem t_not {p : Bool} (h : XT Y k a ds p) : XT Y k (.UnaryOp .Not a pos) ds (!p) := by
  obtain ⟨te, pe, ee⟩ := h
  exact ⟨_, fun i => pt_not (pe i), fun M G0 G σ H0 H E Q q => ee M G0 G σ H0 H E _ fun H1 H1' E1 e1 => q _ _ E1 e1⟩
theorem w_and1 {p : Bool} (h : XT Y k a ds p) : XW Y k (.BoolOp .And [a] pos) ds p := by
  obtain ⟨te, pe, ee⟩ := h
  exact ⟨_, fun i => pw_and1 (pe i), ee⟩
theorem w_or1 {p : Bool} (h : XT Y k a ds p) : XW Y k (.BoolOp .Or [a] pos) ds p := by
  obtain ⟨te, pe, ee⟩ := h
  exact ⟨_, fun i => pw_or1 (pe i), ee⟩
theorem pw_nev {X : Cx} : PW X e (fun _ _ _ => False) := ⟨fun _ _ _ _ _ _ _ h => h.elim⟩
theorem w_opt {p : Prop} [Decidable p] {d : Bool} (h : p → XW Y k e ds d) : ∃ te, (∀ i, PW (Y i) e te) ∧ (p → EPT k te ds d) := by
  by_cases q : p
  · obtain ⟨t, h1, h2⟩ := h q
    exact ⟨t, h1, fun _ => h2⟩
  · exact ⟨_, fun _ => pw_nev, fun z => absurd z q⟩
theorem w_and {p q : Bool} {rest : List Expr} (ha : XT Y k a ds p) (hb : p = true → XW Y k (.BoolOp .And (b :: rest) pos) ds q) : XW Y k (.BoolOp .And (a :: b :: rest) pos) ds (p && q) := by
  obtain ⟨ta, pa, ea⟩ := ha
  obtain ⟨tb, pb, eb⟩ := w_opt hb
  refine ⟨_, fun i => pw_and (pa i) (pb i), fun M G0 G σ H0 H E Q k => ?_⟩
  refine ea M G0 G σ H0 H E _ fun H1 H1' E1 e1 => ?_
  cases p with
  | true => exact eb rfl M G0 G σ H1 H1' E1 _ fun H2 H2' E2 e2 => k H2 H2' E2 (e1.trans e2)
  | false => exact k H1 H1' E1 e1
theorem w_or {p q : Bool} {rest : List Expr} (ha : XT Y k a ds p) (hb : p = false → XW Y k (.BoolOp .Or (b :: rest) pos) ds q) : XW Y k (.BoolOp .Or (a :: b :: rest) pos) ds (p || q) := by
  obtain ⟨ta, pa, ea⟩ := ha
  obtain ⟨tb, pb, eb⟩ := w_opt hb
  refine ⟨_, fun i => pw_or (pa i) (pb i), fun M G0 G σ H0 H E Q k => ?_⟩
  refine ea M G0 G σ H0 H E _ fun H1 H1' E1 e1 => ?_
  cases p with
  | false => exact eb rfl M G0 G σ H1 H1' E1 _ fun H2 H2' E2 e2 => k H2 H2' E2 (e1.trans e2)
  | true => exact k H1 H1' E1 e1
/-! ### what a def promises -/
def spP (k : Kw) (F : List Dt → (Dt → Prop) → Prop) : Sp := fun vs G Q _ => ∃ G0 ds R, Ex G0 G ∧ RpA k G0 vs ds ∧ F ds R ∧ ∀ d, R d → ∀ v H0 H, Wld [] G0 G H0 H → Rp k H0 v d → Q v H
/-- .. whose first argument changes -/
def spM (k : Kw) (F : Mut → List Dt → (Dt → Mut → Prop) → Prop) : Sp := fun vs G Q _ => ∃ G0 v vs' fp u ds R, vs = v :: vs' ∧ Ex G0 G ∧ RpA k G0 vs' ds ∧ u.at_ v G0 G fp ∧ (∀ a ∈ fp, G0 a = none ∧ G a ≠ none) ∧ F u ds R ∧
  ∀ d u', R d u' → ∀ r H0 H fp', Wld fp G0 G H0 H → Rp k H0 r d → u'.at_ v H0 H fp' → (∀ a ∈ fp', H0 a = none ∧ (a ∈ fp ∨ G a = none) ∧ H a ≠ none) → Q r H
/-- .. and gives a new list -/
def spN (k : Kw) (F : List Dt → (List Dt → Prop) → Prop) : Sp := fun vs G Q _ => ∃ G0 ds R, Ex G0 G ∧ RpA k G0 vs ds ∧ F ds R ∧ ∀ l, R l → ∀ p xs H0 H, Wld [] G0 G H0 H → G p = none → H0 p = none → H p = some (.lst xs) → RpA k H0 xs l → Q (.ref p) H
abbrev CalK (k : Kw) (lv : Nat) (x : PySem.Str) (sp : Sp) : Prop := C8.Cal k.P k.w k.K k.mg k.base lv x sp []
theorem xx_call {x : PySem.Str} {es : List Expr} {l : List Dt} {p : Pos} {F : List Dt → (Dt → Prop) → Prop} {R : Dt → Prop} {j : Nat} (g : Good Y k lv) (c : CalK k j x (spP k F)) (hj : j ≤ lv) (ha : XA Y k (e :: es) ds l) (hF : F l R) (hg : ∀ i, Gl (Y i) x := by intro _; rfl)
    (hdb : (x == ("__debug__" : PySem.Str)) = false := by decide) (he : ∀ i, starEach (e :: es) (Y i).env = (false, eval e (Y i).env) :: starEach es (Y i).env := by intro _; rfl) (hpl : ∀ i, (backTo pos (starEach es (Y i).env)).any (fun x => x.1) = false := by intro _; rfl) :
    XX Y k (.Call (.Name x p) (e :: es) [] pos) ds (fun d ds' => R d ∧ ds' = ds) := by
  obtain ⟨ta, pa, ea⟩ := ha
  refine xx_of (te := tCall (spP k F) [] C8.E0 ta) (fun i => ?_) fun M G0 G σ H0 H E Q q => ?_
  · have c' : C8.Cal (Y i).prog (Y i).w (Y i).K (Y i).mg (Y i).base j x (spP k F) [] := by rw [g.eP, g.ew, g.eK, g.em, g.eb]; exact c
    exact C8.pe_c c' (g.hr i) hj (hg i) (pa i) hdb (he i) (hpl i)
  · refine ea M G0 G σ H0 H E _ fun vs H1 H1' E1 e1 r1 => ⟨H1, l, R, E1.wld.in_, by rw [List.append_nil]; exact r1, hF, fun d hd v H2 H2' w r => q v H2 H2' d ds ⟨hd, rfl⟩ (E1.step w) (e1.fz.trans w.fz) r⟩
theorem x_call {x : PySem.Str} {es : List Expr} {l : List Dt} {p : Pos} {F : List Dt → (Dt → Prop) → Prop} {d : Dt} {j : Nat} (g : Good Y k lv) (c : CalK k j x (spP k F)) (hj : j ≤ lv) (ha : XA Y k (e :: es) ds l) (hF : F l (fun d' => d' = d)) (hg : ∀ i, Gl (Y i) x := by intro _; rfl)
    (hdb : (x == ("__debug__" : PySem.Str)) = false := by decide) (he : ∀ i, starEach (e :: es) (Y i).env = (false, eval e (Y i).env) :: starEach es (Y i).env := by intro _; rfl) (hpl : ∀ i, (backTo pos (starEach es (Y i).env)).any (fun x => x.1) = false := by intro _; rfl) :
    XD Y k (.Call (.Name x p) (e :: es) [] pos) ds d := by
  obtain ⟨ta, pa, ea⟩ := ha
  refine ⟨tCall (spP k F) [] C8.E0 ta, fun i => ?_, fun M G0 G σ H0 H E Q q => ?_⟩
  · have c' : C8.Cal (Y i).prog (Y i).w (Y i).K (Y i).mg (Y i).base j x (spP k F) [] := by rw [g.eP, g.ew, g.eK, g.em, g.eb]; exact c
    exact C8.pe_c c' (g.hr i) hj (hg i) (pa i) hdb (he i) (hpl i)
  · exact ea M G0 G σ H0 H E _ fun vs H1 H1' E1 e1 r1 => ⟨H1, l, _, E1.wld.in_, by rw [List.append_nil]; exact r1, hF, fun d' hd v H2 H2' w r => q v H2 H2' (E1.step w) (e1.trans w) (hd ▸ r)⟩
theorem xn_call {x : PySem.Str} {es : List Expr} {l : List Dt} {p : Pos} {F : List Dt → (List Dt → Prop) → Prop} {R : List Dt → Prop} {j : Nat} (g : Good Y k lv) (c : CalK k j x (spN k F)) (hj : j ≤ lv) (ha : XA Y k (e :: es) ds l) (hF : F l R) (hg : ∀ i, Gl (Y i) x := by intro _; rfl)
    (hdb : (x == ("__debug__" : PySem.Str)) = false := by decide) (he : ∀ i, starEach (e :: es) (Y i).env = (false, eval e (Y i).env) :: starEach es (Y i).env := by intro _; rfl) (hpl : ∀ i, (backTo pos (starEach es (Y i).env)).any (fun x => x.1) = false := by intro _; rfl) :
    XN Y k (.Call (.Name x p) (e :: es) [] pos) ds R := by
  obtain ⟨ta, pa, ea⟩ := ha
  refine xn_of (te := tCall (spN k F) [] C8.E0 ta) (fun i => ?_) fun M G0 G σ H0 H E Q q => ?_
  · have c' : C8.Cal (Y i).prog (Y i).w (Y i).K (Y i).mg (Y i).base j x (spN k F) [] := by rw [g.eP, g.ew, g.eK, g.em, g.eb]; exact c
    exact C8.pe_c c' (g.hr i) hj (hg i) (pa i) hdb (he i) (hpl i)
  · refine ea M G0 G σ H0 H E _ fun vs H1 H1' E1 e1 r1 => ⟨H1, l, R, E1.wld.in_, by rw [List.append_nil]; exact r1, hF, fun d hd p xs H2 H2' w hp h0 hx r => q p xs H2 H2' d hd (e1.trans w) (Classical.byContradiction fun z => e1.tr p z hp) h0 hx r⟩
/-- a new list, once it will not change -/
theorem XN.xx {P : List Dt → Prop} (h : XN Y k e ds P) : XX Y k e ds (fun d ds' => ds' = ds ∧ ∃ l, d = .lst l ∧ P l) := fun M G0 G σ H0 H E Q q =>
  h M G0 G σ H0 H E Q fun p xs H0' H' l hP w hp h0 hx r => by
    have w3 := wld_frz w hp h0 hx
    exact q _ _ _ _ ds ⟨rfl, l, rfl, hP⟩ (E.step w3) w3.fz (.lst upd_same (r.mono (Ex.new h0)))
end
/-! ### statements -/
def SX (k : Kw) (t : TS) (ds : EV) (N : EV → Prop) (R : Ent → EV → Prop) : Prop := ∀ M G0 G σ H0 H (D : Ends), Env k M G0 G σ H0 H ds → (∀ σ' H0' H' ds', N ds' → Env k M G0 G σ' H0' H' ds' → Ex H0 H0' → D.nx σ' H') →
  (∀ v σ' H0' H' d ds' fp, R d ds' → Env k M G0 G σ' H0' H' ds' → EntAt k G v H0' H' d fp → (∀ a ∈ fp, H0' a = none ∧ H' a ≠ none) → D.rt v H') → t D σ H
def tB (X : Cx) (sts : List Stmt) : TS := fun D σ H => ∃ t, PSs X sts t ∧ t D σ H
theorem ps_tB {X : Cx} {sts : List Stmt} : PSs X sts (tB X sts) := ⟨fun pins s σ H D I ⟨t, h, q⟩ => h.run pins s σ H D I q⟩
def XB (X : Cx) (k : Kw) (sts : List Stmt) (ds : EV) (N : EV → Prop) (R : Ent → EV → Prop) : Prop := SX k (tB X sts) ds N R
abbrev yX (X : Cx) : Unit → Cx := fun _ => X
section
variable {X : Cx} {k : Kw} {lv : Nat} {ds ds' : EV} {e a b c : Expr} {pos : Pos} {rest : List Stmt} {N : EV → Prop} {R : Ent → EV → Prop}
theorem SX.mono {t : TS} {M : EV → Prop} (h : SX k t ds M R) (m : ∀ d, M d → N d) : SX k t ds N R := fun M G0 G σ H0 H D E n r => h M G0 G σ H0 H D E (fun σ' H0' H' ds' q => n σ' H0' H' ds' (m _ q)) r
theorem b_nil (h : N ds) : XB X k [] ds N R := fun M G0 G σ H0 H D E n r => ⟨_, pss_nil, n σ H0 H ds h E (Ex.refl _)⟩
theorem b_st {st : Stmt} {t : TS} (p : PS X st t) (h : SX k t ds (fun ds' => XB X k rest ds' N R) R) : XB X k (st :: rest) ds N R := fun M G0 G σ H0 H D E n r =>
  ⟨tSeq t (tB X rest), pss_cons p ps_tB, h M G0 G σ H0 H { D with nx := (tB X rest) D } E (fun σ' H0' H' ds' q E' ex => q M G0 G σ' H0' H' D E' (fun σ2 H2 H2' ds2 q2 E2 e2 => n σ2 H2 H2' ds2 q2 E2 (ex.trans e2)) r) r⟩
theorem sx_asg {te : TE} {n : Nat} {Po : Dt → EV → Prop} (h : EX k te ds Po) (m : ∀ d ds', Po d ds' → N (ds'.set n (some (.d d)))) : SX k (tAsg te (gName n)) ds N R := fun M G0 G σ H0 H D E nx r =>
  h M G0 G σ H0 H E _ fun v H0' H' d ds' p E' ex rr => nx (σ.set n (some v)) H0' H' _ (m d ds' p) (E'.setD rr) ex
theorem b_asgX (n : Nat) {x : PySem.Str} {p : Pos} {Po : Dt → EV → Prop} (h : XX (yX X) k e ds Po) (m : ∀ d ds', Po d ds' → XB X k rest (ds'.set n (some (.d d))) N R) (hd : X.N.Nodup := by exact Good.nd (Y := yX _) (by assumption) ()) (hN : X.N[n]? = some x := by rfl) (hl : Loc X.env.scope x := by first | exact .inl rfl | exact .inr rfl)
    (hs : swapsWith e (some (.Name x p)) pos.line X.env = pure false := by rfl) (hf : X.fn x = true ∨ X.env.scope.names.lookup x = some .local := by first | exact .inr rfl | exact .inl rfl) : XB X k (.Assign [.Name x p] e pos :: rest) ds N R :=
  b_st (ps_set hd hN hl (pe_tE (Y := yX X) ()) hs hf) (sx_asg h m)
theorem b_asg (n : Nat) {x : PySem.Str} {p : Pos} {d : Dt} (h : XD (yX X) k e ds d) (m : XB X k rest (ds.set n (some (.d d))) N R) (hd : X.N.Nodup := by exact Good.nd (Y := yX _) (by assumption) ()) (hN : X.N[n]? = some x := by rfl) (hl : Loc X.env.scope x := by first | exact .inl rfl | exact .inr rfl)
    (hs : swapsWith e (some (.Name x p)) pos.line X.env = pure false := by rfl) (hf : X.fn x = true ∨ X.env.scope.names.lookup x = some .local := by first | exact .inr rfl | exact .inl rfl) : XB X k (.Assign [.Name x p] e pos :: rest) ds N R :=
  b_asgX n h.xx (fun d' ds' ⟨h1, h2⟩ => by rw [h1, h2]; exact m) hd hN hl hs hf
theorem b_if {p : Bool} {s t : List Stmt} (hc : XT (yX X) k c ds p) (h1 : p = true → XB X k s ds (fun ds' => XB X k rest ds' N R) R) (h2 : p = false → XB X k t ds (fun ds' => XB X k rest ds' N R) R) : XB X k (.If c s t pos :: rest) ds N R := by
  obtain ⟨tc, pc, ec⟩ := hc
  refine b_st (ps_if (pc ()) (ps_tB (sts := s)) (ps_tB (sts := t))) fun M G0 G σ H0 H D E n r => ?_
  refine ec M G0 G σ H0 H E _ fun H1 H1' E1 e1 => ?_
  cases p with
  | true => exact h1 rfl M G0 G σ H1 H1' D E1 (fun σ' H0' H' ds' q E' ex => n σ' H0' H' ds' q E' (e1.fz.trans ex)) r
  | false => exact h2 rfl M G0 G σ H1 H1' D E1 (fun σ' H0' H' ds' q E' ex => n σ' H0' H' ds' q E' (e1.fz.trans ex)) r
theorem b_retX {Po : Dt → EV → Prop} (h : XX (yX X) k e ds Po) (m : ∀ d ds', Po d ds' → R (.d d) ds') : XB X k (.Return (some e) pos :: rest) ds N R :=
  b_st (ps_ret (pe_tE (Y := yX X) ())) fun M G0 G σ H0 H D E n r => h M G0 G σ H0 H E _ fun v H0' H' d ds' p E' ex rr => r v σ H0' H' (.d d) ds' [] (m d ds' p) E' rr (fun _ h => absurd h List.not_mem_nil)
theorem b_ret {d : Dt} (h : XD (yX X) k e ds d) (m : R (.d d) ds) : XB X k (.Return (some e) pos :: rest) ds N R := b_retX h.xx fun d' ds' ⟨h1, h2⟩ => by rw [h1, h2]; exact m
theorem own_new {M : List Addr × V} {G0 G H0 H H2 H' : Hp} {σ : L2.St} {n : Nat} (E : Env k M G0 G σ H0 H ds) {Dl : Addr} {acc : List V} {l : List Dt} (w0 : Wld [] H0 H H2 H') (hH : H Dl = none) (h0 : H2 Dl = none) (h3 : H' Dl = some (.lst acc)) (ha : RpA k H2 acc l) :
    Env k M G0 G (σ.set n (some (.ref Dl))) H2 H' (ds.set n (some (.m true (mL k l)))) := by
  have w3 : Wld [] H0 H H2 (fun a => if a = Dl then none else H' a) := ⟨w0.fz, fun a u e => by
      show (if a = Dl then none else H' a) = some u
      rw [if_neg (fun z => by rw [z, h0] at e; cases e)]; exact w0.in_ a u e, fun a u n e => by
      show (if a = Dl then none else H' a) = some u
      rw [if_neg (fun z => by rw [z, hH] at e; cases e)]; exact w0.kp a u n e, w0.nw, fun a e => by
      show (if a = Dl then none else H' a) ≠ none
      rw [if_neg (fun z => e (by rw [z]; exact hH))]; exact w0.tr a e⟩
  refine (E.step w3).setM (fp := [Dl]) (fun a ha => ?_) (fun a ha => ?_) ⟨Dl, acc, rfl, rfl, h3, ha⟩
  · exact (if_neg (fun z => ha (by rw [z]; exact List.mem_cons_self))).symm
  · rw [List.mem_singleton.mp ha]
    exact ⟨if_pos rfl, by rw [h3]; exact fun z => nomatch z⟩
theorem b_asgN (n : Nat) {x : PySem.Str} {p : Pos} {P : List Dt → Prop} (h : XN (yX X) k e ds P) (m : ∀ l, P l → XB X k rest (ds.set n (some (.m true (mL k l)))) N R) (hd : X.N.Nodup := by exact Good.nd (Y := yX _) (by assumption) ()) (hN : X.N[n]? = some x := by rfl) (hl : Loc X.env.scope x := by first | exact .inl rfl | exact .inr rfl)
    (hs : swapsWith e (some (.Name x p)) pos.line X.env = pure false := by rfl) (hf : X.fn x = true ∨ X.env.scope.names.lookup x = some .local := by first | exact .inr rfl | exact .inl rfl) : XB X k (.Assign [.Name x p] e pos :: rest) ds N R :=
  b_st (ps_set hd hN hl (pe_tE (Y := yX X) ()) hs hf) fun M G0 G σ H0 H D E nx r => h M G0 G σ H0 H E _ fun p xs H0' H' l hP w hp h0 hx rr => nx _ H0' H' _ (m l hP) (own_new E w hp h0 hx rr) w.fz
/-- a new list is returned -/
theorem b_retF {P : List Dt → Prop} (h : XN (yX X) k e ds P) (m : ∀ l, P l → R (.m true (mL k l)) ds) : XB X k (.Return (some e) pos :: rest) ds N R :=
  b_st (ps_ret (pe_tE (Y := yX X) ())) fun M G0 G σ H0 H D E nx r => h M G0 G σ H0 H E _ fun p xs H0' H' l hP w hp h0 hx rr => by
    have hG : G p = none := (E.fresh hp).1
    have E' : Env k M G0 G σ H0' H' ds := E.step w
    exact r _ σ H0' H' (.m true (mL k l)) ds [p] (m l hP) E' ⟨⟨p, xs, rfl, rfl, hx, rr⟩, fun _ a ha => by rw [List.mem_singleton.mp ha]; exact hG⟩ fun a ha => by rw [List.mem_singleton.mp ha]; exact ⟨h0, by rw [hx]; exact fun z => nomatch z⟩
/-- return x, x an own list -/
theorem b_retM (n : Nat) {x : PySem.Str} {p : Pos} {l : List Dt} (hx : ds[n]? = some (some (.m true (mL k l)))) (m : R (.m true (mL k l)) ds) (hN : X.N[n]? = some x := by rfl) (hv : Vis X.env.scope x := by first | exact .inl rfl | exact .inr (.inl rfl) | exact .inr (.inr rfl)) (h1 : (x == ("__debug__" : PySem.Str)) = false := by decide) (h2 : (x == ("__classdict__" : PySem.Str)) = false := by decide) :
    XB X k (.Return (some (.Name x p)) pos :: rest) ds N R :=
  b_st (ps_ret (pe_var hN hv h1 h2)) fun M G0 G σ H0 H D E nx r => by
    obtain ⟨F, f1, f2, f3⟩ := E.ent
    obtain ⟨v, g1, g2⟩ := f1 n _ hx
    exact ⟨v, g1, r v σ H0 H _ ds (F n) m E g2 fun a ha => ⟨(f3 n a ha).1, (f3 n a ha).2.2⟩⟩
/-- an own list that won't change from here on -/
theorem b_frz (n : Nat) {sts : List Stmt} {l : List Dt} (h : ds[n]? = some (some (.m true (mL k l)))) (m : XB X k sts (ds.set n (some (.d (.lst l)))) N R) : XB X k sts ds N R := fun M G0 G σ H0 H D E nx r => by
  obtain ⟨H0', ex, E'⟩ := E.frz h
  exact m M G0 G σ H0' H D E' (fun σ' H1 H' ds' q E1 e1 => nx σ' H1 H' ds' q E1 (ex.trans e1)) r
/-- x = [..], to be changed later -/
theorem b_new (n : Nat) {x : PySem.Str} {p p2 : Pos} {es : List Expr} {l : List Dt} (h : XA (yX X) k es ds l) (m : XB X k rest (ds.set n (some (.m true (mL k l)))) N R) (hz : l.length ≤ 100000 := by exact Nat.le_of_ble_eq_true rfl) (hd : X.N.Nodup := by exact Good.nd (Y := yX _) (by assumption) ()) (hN : X.N[n]? = some x := by rfl) (hl : Loc X.env.scope x := by first | exact .inl rfl | exact .inr rfl)
    (hs : swapsWith (.List es p2) (some (.Name x p)) pos.line X.env = pure false := by rfl) (hf : X.fn x = true ∨ X.env.scope.names.lookup x = some .local := by first | exact .inr rfl | exact .inl rfl) : XB X k (.Assign [.Name x p] (.List es p2) pos :: rest) ds N R := by
  obtain ⟨ta, pa, ea⟩ := h
  refine b_st (ps_set hd hN hl (pe_lst (pa ())) hs hf) fun M G0 G σ H0 H D E nx r => ?_
  refine ea M G0 G σ H0 H E _ fun vs H1 H1' E1 e1 r1 => ⟨sz_of (by rw [r1.length]; exact hz), fun q hq => ?_⟩
  refine nx _ H1 _ _ m (E1.setM (fp := [q]) (fun b hb => ?_) (fun b hb => ?_) ⟨q, vs, rfl, rfl, upd_same, r1⟩) e1.fz
  · exact upd_ne fun z => hb (by rw [z]; exact List.mem_cons_self)
  · rw [List.mem_singleton.mp hb]; exact ⟨hq, by rw [upd_same]; exact fun z => nomatch z⟩
theorem tE_slot {n : Nat} {x : PySem.Str} {p : Pos} (hN : X.N[n]? = some x) (hv : Vis X.env.scope x) (h1 : (x == ("__debug__" : PySem.Str)) = false) (h2 : (x == ("__classdict__" : PySem.Str)) = false) : PE X (.Name x p) (tVar n) := pe_var hN hv h1 h2
/-- x.append(e) -/
theorem b_appX (n : Nat) {x : PySem.Str} {p p2 p3 : Pos} {own : Bool} {l : List Dt} {Po : Dt → EV → Prop} (hx : ds[n]? = some (some (.m own (mL k l)))) (g : Good (yX X) k lv) (h : XX (yX X) k e ds Po) (m : ∀ d ds', Po d ds' → ds'[n]? = some (some (.m own (mL k l))) ∧ XB X k rest (ds'.set n (some (.m own (mL k (l ++ [d]))))) N R)
    (hz : l.length < 100000) (hN : X.N[n]? = some x := by rfl) (hv : Vis X.env.scope x := by first | exact .inl rfl | exact .inr (.inl rfl) | exact .inr (.inr rfl)) (h1 : (x == ("__debug__" : PySem.Str)) = false := by decide) (h2 : (x == ("__classdict__" : PySem.Str)) = false := by decide)
    (a1 : attributeBase (.Name x p) "append" X.env (eval (.Name x p) X.env) = eval (.Name x p) X.env := by rfl)
    (a2 : ((((backTo p3 (starEach [e] X.env)).all fun x => !x.1) && (backToKw p3 (keywordEach [] X.env)).all fun x => x.1.isSome) && decide (([e].length + ([] : List Keyword).length + if ([] : List Keyword).isEmpty then 0 else 1) < 30)) = true := by rfl)
    (a3 : (p2.endLine == p3.line) = true := by rfl) (a4 : starEach [e] X.env = (false, eval e X.env) :: starEach [] X.env := by rfl)
    (hs : swapsWith (.Call (.Attribute (.Name x p) "append" p2) [e] [] p3) none pos.line X.env = pure false := by rfl) : XB X k (.Expr (.Call (.Attribute (.Name x p) "append" p2) [e] [] p3) pos :: rest) ds N R :=
  b_st (ps_expr (pe_bm PySem.F.plainAttrs_list PySem.F.slot_list_append PySem.F.type_list_append mt_append (tE_slot hN hv h1 h2) (pa_cons (pe_tE (Y := yX X) ()) pa_nil a4) a1 a2 a3 a4) hs) fun M G0 G σ H0 H D E nx r => by
    obtain ⟨q, xs, s1, s2, s3⟩ := E.getM hx
    refine ⟨.ref q, s1, .inl ⟨rfl, _, sq_of s2⟩, h M G0 G σ H0 H E _ fun v H1 H1' d ds1 p1 E1 e1 r1 => ?_⟩
    obtain ⟨hx1, m1⟩ := m d ds1 p1
    obtain ⟨q', xs', t1, t2, t3⟩ := E1.getM hx1
    rw [s1] at t1
    cases t1
    exact ⟨q, xs', v, rfl, rfl, t2, sz_lt (by rw [t3.length]; exact hz), nx σ H1 _ _ m1 (E1.mutL hx1 s1 (t3.app (.cons r1 .nil))) e1⟩
theorem b_app (n : Nat) {x : PySem.Str} {p p2 p3 : Pos} {own : Bool} {l : List Dt} {d : Dt} (hx : ds[n]? = some (some (.m own (mL k l)))) (g : Good (yX X) k lv) (h : XD (yX X) k e ds d) (m : XB X k rest (ds.set n (some (.m own (mL k (l ++ [d]))))) N R)
    (hz : l.length < 100000) (hN : X.N[n]? = some x := by rfl) (hv : Vis X.env.scope x := by first | exact .inl rfl | exact .inr (.inl rfl) | exact .inr (.inr rfl)) (h1 : (x == ("__debug__" : PySem.Str)) = false := by decide) (h2 : (x == ("__classdict__" : PySem.Str)) = false := by decide)
    (a1 : attributeBase (.Name x p) "append" X.env (eval (.Name x p) X.env) = eval (.Name x p) X.env := by rfl)
    (a2 : ((((backTo p3 (starEach [e] X.env)).all fun x => !x.1) && (backToKw p3 (keywordEach [] X.env)).all fun x => x.1.isSome) && decide (([e].length + ([] : List Keyword).length + if ([] : List Keyword).isEmpty then 0 else 1) < 30)) = true := by rfl)
    (a3 : (p2.endLine == p3.line) = true := by rfl) (a4 : starEach [e] X.env = (false, eval e X.env) :: starEach [] X.env := by rfl)
    (hs : swapsWith (.Call (.Attribute (.Name x p) "append" p2) [e] [] p3) none pos.line X.env = pure false := by rfl) : XB X k (.Expr (.Call (.Attribute (.Name x p) "append" p2) [e] [] p3) pos :: rest) ds N R :=
  b_appX n hx g h.xx (fun d' ds' ⟨q1, q2⟩ => by rw [q1, q2]; exact ⟨hx, m⟩) hz hN hv h1 h2 a1 a2 a3 a4 hs
/-- x[i] = e -/
theorem b_setI (n : Nat) {x : PySem.Str} {p p2 : Pos} {own : Bool} {l : List Dt} {d : Dt} {i : Int} {j : Nat} (hx : ds[n]? = some (some (.m own (mL k l)))) (h : XD (yX X) k e ds d) (hi : XD (yX X) k a ds (.int i)) (hj : ixN l.length i = some j) (m : XB X k rest (ds.set n (some (.m own (mL k (l.set j d))))) N R)
    (hN : X.N[n]? = some x := by rfl) (hv : Vis X.env.scope x := by first | exact .inl rfl | exact .inr (.inl rfl) | exact .inr (.inr rfl)) (h1 : (x == ("__debug__" : PySem.Str)) = false := by decide) (h2 : (x == ("__classdict__" : PySem.Str)) = false := by decide)
    (a1 : ∀ v : Value, assign (.Subscript (.Name x p) a p2) X.env v = (do let ov ← holding [v] (eval (.Name x p) X.env); let iv ← holding [v, ov] (eval a X.env); standAt p2; holding [v, ov, iv] (setItem ov iv v); release [v, ov, iv] []) := by intro v; rfl)
    (a2 : swapsWithSole [.Subscript (.Name x p) a p2] e pos.line X.env = pure false := by rfl) (a3 : swappedStores [.Subscript (.Name x p) a p2] e X.env = pure none := by rfl) (a4 : (assignEach [.Subscript (.Name x p) a p2] X.env).map (fun x => x.2) = [assign (.Subscript (.Name x p) a p2) X.env] := by rfl) :
    XB X k (.Assign [.Subscript (.Name x p) a p2] e pos :: rest) ds N R := by
  obtain ⟨te, pe, ee⟩ := h
  obtain ⟨ta, pa, ea⟩ := hi
  refine b_st (ps_asg (pe ()) (pg_sub (tE_slot hN hv h1 h2) (pa ()) set_list a1) a2 a3 a4) fun M G0 G σ H0 H D E nx r => ?_
  refine ee M G0 G σ H0 H E _ fun v H1 H1' E1 e1 r1 => ?_
  obtain ⟨q, xs, s1, s2, s3⟩ := E1.getM hx
  refine ⟨.ref q, s1, ea M G0 G σ H1 H1' E1 _ fun y H2 H2' E2 e2 r2 => ?_⟩
  cases r2
  obtain ⟨q', xs', t1, t2, t3⟩ := E2.getM hx
  rw [s1] at t1
  cases t1
  exact ⟨q, xs', i, j, rfl, rfl, t2, by rw [t3.length]; exact hj, nx σ H2 _ _ m (E2.mutL hx s1 (t3.set (r1.mono e2.fz))) (e1.trans e2).fz⟩
/-! targets -/
def XG (X : Cx) (k : Kw) (tg : Expr) (ds : EV) (d : Dt) (ds' : EV) : Prop := ∃ g, PG X tg g ∧ ∀ M G0 G σ H0 H v, Env k M G0 G σ H0 H ds → Rp k H0 v d → ∀ Q : L2.St → Hp → Prop, (∀ σ', Env k M G0 G σ' H0 H ds' → Q σ' H) → g v σ H Q
def XGs (X : Cx) (k : Kw) (tgs : List Expr) (ds : EV) (l : List Dt) (ds' : EV) : Prop := ∃ g, PGs X tgs g ∧ ∀ M G0 G σ H0 H vs, Env k M G0 G σ H0 H ds → RpA k H0 vs l → ∀ Q : L2.St → Hp → Prop, (∀ σ', Env k M G0 G σ' H0 H ds' → Q σ' H) → g vs σ H Q
theorem xg_name (n : Nat) {x : PySem.Str} {d : Dt} (hd : X.N.Nodup := by exact Good.nd (Y := yX _) (by assumption) ()) (hN : X.N[n]? = some x := by rfl) (hl : Loc X.env.scope x := by first | exact .inl rfl | exact .inr rfl) (hf : X.fn x = true ∨ X.env.scope.names.lookup x = some .local := by first | exact .inr rfl | exact .inl rfl) :
    XG X k (.Name x pos) ds d (ds.set n (some (.d d))) := ⟨_, pg_name hd hN hl hf, fun M G0 G σ H0 H v E r Q q => q _ (E.setD r)⟩
theorem xgs_nil : XGs X k [] ds [] ds := ⟨_, pgs_nil, fun M G0 G σ H0 H vs E r Q q => by cases r; exact ⟨rfl, q _ E⟩⟩
theorem xgs_cons {es : List Expr} {d : Dt} {l : List Dt} {ds1 ds2 : EV} (h : XG X k e ds d ds1) (hr : XGs X k es ds1 l ds2) (hs : (assignEach (e :: es) X.env).map (fun x => x.2) = assign e X.env :: (assignEach es X.env).map (fun x => x.2) := by rfl) : XGs X k (e :: es) ds (d :: l) ds2 := by
  obtain ⟨g, p, h⟩ := h
  obtain ⟨gs, ps, hs'⟩ := hr
  refine ⟨_, pgs_cons p ps hs, fun M G0 G σ H0 H vs E r Q q => ?_⟩
  cases r with
  | cons r1 r2 => exact ⟨_, _, rfl, h M G0 G σ H0 H _ E r1 _ fun σ' E' => hs' M G0 G σ' H0 H _ E' r2 Q q⟩
theorem xg_tup (g : Good (yX X) k lv) {es : List Expr} {m : Nat} {l : List Dt} (h : XGs X k es ds l ds') (h1 : (assignEach es X.env).length = l.length := by rfl) (h2 : (assignEach es X.env).findIdx? (fun x => x.1) = none := by rfl) : XG X k (.Tuple es m pos) ds (.tup l) ds' := by
  obtain ⟨gs, p, h⟩ := h
  refine ⟨gTup k.K l.length gs, by have z := pg_tup (X := X) (pos := pos) (k := m) (g.ec ()) p h1 h2; rw [g.eK ()] at z; exact z, fun M G0 G σ H0 H v E r Q q => ?_⟩
  cases r
  rename_i a1 xs r1 r2
  exact ⟨_, xs, rfl, st_of (E.wld.in_ _ _ r1), r2.length, h M G0 G σ H0 H xs E r2 Q q⟩
theorem b_unp {tg : Expr} {Po : Dt → EV → Prop} (h : XX (yX X) k e ds Po) (hg : ∀ d ds1, Po d ds1 → ∃ ds2, XG X k tg ds1 d ds2 ∧ XB X k rest ds2 N R) (a2 : swapsWithSole [tg] e pos.line X.env = pure false := by rfl) (a3 : swappedStores [tg] e X.env = pure none := by rfl)
    (a4 : (assignEach [tg] X.env).map (fun x => x.2) = [assign tg X.env] := by rfl) : XB X k (.Assign [tg] e pos :: rest) ds N R := by
  refine b_st (ps_asg (pe_tE (Y := yX X) ()) (g := fun v σ H Q => ∃ g, PG X tg g ∧ g v σ H Q) ⟨fun pins s σ H v u Q I r ⟨g, p, q⟩ => p.run pins s σ H v u Q I r q⟩ a2 a3 a4) fun M G0 G σ H0 H D E nx r => ?_
  refine h M G0 G σ H0 H E _ fun v H1 H1' d ds1 p1 E1 e1 r1 => ?_
  obtain ⟨ds2, ⟨g, pg, hg⟩, m⟩ := hg d ds1 p1
  exact ⟨g, pg, hg M G0 G σ H1 H1' v E1 r1 _ fun σ' E' => nx σ' H1 H1' ds2 m E' e1⟩
/-! calls of defs that change their first argument -/
theorem Env.call {M : List Addr × V} {G0 G H0 H H0' H' : Hp} {σ : L2.St} (E : Env k M G0 G σ H0 H ds) {n : Nat} {own : Bool} {u : Mut} (hx : ds[n]? = some (some (.m own u))) : ∃ v fp, σ[n]? = some (some v) ∧ u.at_ v H0 H fp ∧ (∀ a ∈ fp, H0 a = none ∧ H a ≠ none) ∧
    ∀ H0' H' u' fp', Wld fp H0 H H0' H' → u'.at_ v H0' H' fp' → (∀ a ∈ fp', H0' a = none ∧ (a ∈ fp ∨ H a = none) ∧ H' a ≠ none) → Env k M G0 G σ H0' H' (ds.set n (some (.m own u'))) := by
  obtain ⟨F, f1, f2, f3⟩ := E.ent
  obtain ⟨v, h1, h2, h3⟩ := f1 n _ hx
  refine ⟨v, F n, h1, h2, fun a ha => ⟨(f3 n a ha).1, (f3 n a ha).2.2⟩, fun H0' H' u' fp' w hu hf => ?_⟩
  have sm : ∀ j a, j ≠ n → a ∈ F j → H' a = H a := fun j a hj ha => by
    cases q : H a with
    | none => exact absurd q (f3 j a ha).2.2
    | some o => exact w.kp a o (fun z => hj (f2 j n a ha z)) q
  have fr : ∀ a, H a = none → G a = none ∧ H0 a = none := fun a ha => E.fresh ha
  refine ⟨⟨E.wld.fz.trans w.fz, w.in_, fun a o nM e => ?_, fun a e => ?_, fun a e => w.tr a (E.wld.tr a e)⟩, by rw [List.length_set, E.len], pin_set0 E.pin (fun u z => by cases z; exact ⟨_, hx⟩), fun j => if j = n then fp' else F j, fun j e he => ?_, fun j l a ha hb => ?_, fun j a ha => ?_⟩
  · refine w.kp a o (fun z => ?_) (E.wld.kp a o nM e)
    rcases (f3 n a z).2.1 with y | y
    · exact nM y
    · rw [y] at e; cases e
  · rcases w.nw a e with y | y
    · exact E.wld.nw a y
    · exact .inr (fr a y).1
  · by_cases q : n = j
    · subst q
      rw [List.getElem?_set] at he
      split at he
      · split at he
        · cases he
          refine ⟨v, h1, ?_⟩
          simp only [if_true]
          refine ⟨hu, fun y a ha => ?_⟩
          rcases (hf a ha).2.1 with z | z
          · exact h3 y a z
          · exact (fr a z).1
        · cases he
      · exact absurd rfl ‹_›
    · rw [List.getElem?_set_ne q] at he
      obtain ⟨v', g1, g2⟩ := f1 j e he
      refine ⟨v', g1, ?_⟩
      dsimp only
      rw [if_neg (show ¬ j = n from fun z => q z.symm)]
      cases e with
      | d x => exact Rp.mono w.fz g2
      | m own u'' => exact ⟨u''.keep g2.1 w.fz fun a ha => sm j a (fun z => q z.symm) ha, g2.2⟩
  · dsimp only at ha hb
    have key : ∀ j, j ≠ n → a ∈ F j → a ∉ fp' := fun j hj hf' hp => by
      rcases (hf a hp).2.1 with y | y
      · exact hj (f2 j n a hf' y)
      · exact (f3 j a hf').2.2 y
    split at ha
    · split at hb
      · subst_vars; rfl
      · exact absurd ha (key _ ‹_› hb)
    · split at hb
      · exact absurd hb (key _ ‹_› ha)
      · exact f2 _ _ a ha hb
  · dsimp only at ha
    split at ha
    · refine ⟨(hf a ha).1, ?_, (hf a ha).2.2⟩
      rcases (hf a ha).2.1 with y | y
      · exact (f3 n a y).2.1
      · exact .inr (fr a y).1
    · refine ⟨?_, (f3 j a ha).2.1, by rw [sm j a ‹_› ha]; exact (f3 j a ha).2.2⟩
      refine Classical.byContradiction fun z => ?_
      rcases w.nw a z with y | y
      · exact y (f3 j a ha).1
      · exact (f3 j a ha).2.2 y
/-- f(x, ..) -/
theorem xx_callM {ι : Type} {Y : ι → Cx} (n : Nat) {f x : PySem.Str} {es : List Expr} {l : List Dt} {p p2 : Pos} {own : Bool} {u : Mut} {F : Mut → List Dt → (Dt → Mut → Prop) → Prop} {Rr : Dt → Mut → Prop} {j : Nat} (hx : ds[n]? = some (some (.m own u))) (g : Good Y k lv) (c : CalK k j f (spM k F)) (hj : j ≤ lv) (ha : XA Y k es ds l) (hF : F u l Rr)
    (hN : ∀ i, (Y i).N[n]? = some x := by intro _; rfl) (hv : ∀ i, Vis (Y i).env.scope x := by intro _; first | exact .inl rfl | exact .inr (.inl rfl) | exact .inr (.inr rfl)) (h1 : (x == ("__debug__" : PySem.Str)) = false := by decide) (h2 : (x == ("__classdict__" : PySem.Str)) = false := by decide)
    (hg : ∀ i, Gl (Y i) f := by intro _; rfl) (hdb : (f == ("__debug__" : PySem.Str)) = false := by decide) (he : ∀ i, starEach (.Name x p2 :: es) (Y i).env = (false, eval (.Name x p2) (Y i).env) :: starEach es (Y i).env := by intro _; rfl) (hpl : ∀ i, (backTo pos (starEach es (Y i).env)).any (fun x => x.1) = false := by intro _; rfl) :
    XX Y k (.Call (.Name f p) (.Name x p2 :: es) [] pos) ds (fun d ds' => ∃ u', Rr d u' ∧ ds' = ds.set n (some (.m own u'))) := by
  obtain ⟨ta, pa, ea⟩ := ha
  refine xx_of (te := tCall (spM k F) [] C8.E0 (tCons (tVar n) ta)) (fun i => ?_) fun M G0 G σ H0 H E Q q => ?_
  · have c' : C8.Cal (Y i).prog (Y i).w (Y i).K (Y i).mg (Y i).base j f (spM k F) [] := by rw [g.eP, g.ew, g.eK, g.em, g.eb]; exact c
    exact C8.pe_c c' (g.hr i) hj (hg i) (pa_cons (tE_slot (hN i) (hv i) h1 h2) (pa i) (he i)) hdb (he i) (hpl i)
  · obtain ⟨v0, fp0, g1, g2, g3, g4⟩ := E.call (H0' := H0) (H' := H) hx
    refine ⟨v0, g1, ea M G0 G σ H0 H E _ fun vs H1 H1' E1 e1 r1 => ?_⟩
    obtain ⟨v1, fp1, k1, k2, k3, k4⟩ := E1.call (H0' := H0) (H' := H) hx
    rw [g1] at k1
    cases k1
    exact ⟨H1, v0, vs, fp1, u, l, Rr, by rw [List.append_nil], E1.wld.in_, r1, k2, k3, hF, fun d u' hr r H2 H2' fp' w rr hu hf => q r H2 H2' d _ ⟨u', hr, rfl⟩ (k4 H2 H2' u' fp' w hu hf) (e1.fz.trans w.fz) rr⟩
theorem b_exprX {Po : Dt → EV → Prop} (h : XX (yX X) k e ds Po) (m : ∀ d ds', Po d ds' → XB X k rest ds' N R) (hs : swapsWith e none pos.line X.env = pure false := by rfl) : XB X k (.Expr e pos :: rest) ds N R :=
  b_st (ps_expr (pe_tE (Y := yX X) ()) hs) fun M G0 G σ H0 H D E nx r => h M G0 G σ H0 H E _ fun v H1 H1' d ds1 p1 E1 e1 r1 => nx σ H1 H1' ds1 (m d ds1 p1) E1 e1
/-! loops -/
theorem b_forW {tg it : Expr} {body : List Stmt} {l : List Dt} {d0 : Dt} (I : Nat → EV → Prop) (g : Good (yX X) k lv) (kind : d0 = .lst l ∨ d0 = .tup l) {Po : EV → Prop} (h : XX (yX X) k it ds (fun d ds' => d = d0 ∧ Po ds')) (h0 : ∀ ds', Po ds' → I 0 ds')
    (hs : ∀ (i : Nat) d ds1, l[i]? = some d → I i ds1 → ∃ ds2, XG X k tg ds1 d ds2 ∧ XB X k body ds2 (I (i + 1)) R) (hd : ∀ ds1, I l.length ds1 → XB X k rest ds1 N R)
    (a1 : ∀ x : Value, foldedSetIterable it X.env x = pure x := by intro _; rfl) (a2 : PassesOwn (model X.prog X.w) X.A X.env X.xe := by exact PassesOwn.never) : XB X k (.For tg it body [] pos :: rest) ds N R := by
  have pgt : PG X tg (fun v σ H Q => ∃ g, PG X tg g ∧ g v σ H Q) := ⟨fun pins s σ H v u Q I r ⟨g, p, q⟩ => p.run pins s σ H v u Q I r q⟩
  have turn : ∀ M G0 G (D : Ends) (Hs : Hp) (i : Nat) (x : V) (xs : List V) σ H, xs[i]? = some x → RpA k Hs xs l → (∀ σ' H0' H' ds', XB X k rest ds' N R → Env k M G0 G σ' H0' H' ds' → Ex Hs H0' → D.nx σ' H') → (∀ v σ' H0' H' d ds' fp, R d ds' → Env k M G0 G σ' H0' H' ds' → EntAt k G v H0' H' d fp → (∀ a ∈ fp, H0' a = none ∧ H' a ≠ none) → D.rt v H') →
      (∃ ds1 H0', I i ds1 ∧ Env k M G0 G σ H0' H ds1 ∧ Ex Hs H0') → (fun v σ H Q => ∃ g, PG X tg g ∧ g v σ H Q) x σ H fun σ2 H2 => tB X body { nx := fun σ' H' => ∃ ds1 H0', I (i + 1) ds1 ∧ Env k M G0 G σ' H0' H' ds1 ∧ Ex Hs H0', rt := D.rt, bk := D.nx, ct := fun σ' H' => ∃ ds1 H0', I (i + 1) ds1 ∧ Env k M G0 G σ' H0' H' ds1 ∧ Ex Hs H0' } σ2 H2 := by
    rintro M G0 G D Hs i x xs σ H hx hr nx rt ⟨ds1, H0', hI, E1, ex⟩
    obtain ⟨d, hd1, hd2⟩ := hr.getV hx
    obtain ⟨ds2, ⟨gt, pg, hg⟩, hb⟩ := hs i d ds1 hd1 hI
    refine ⟨gt, pg, hg M G0 G σ H0' H x E1 (hd2.mono ex) _ fun σ' E' => ?_⟩
    exact hb M G0 G σ' H0' H _ E' (fun σ2 H2 H2' ds3 q E3 e3 => ⟨ds3, H2, q, E3, ex.trans e3⟩) rt
  rcases kind with rfl | rfl
  · refine b_st (t := tFor (iList k.K (tE (yX X) it)) _ (tB X body)) (by have z := ps_for (X := X) (pos := pos) a2 (g.ec ()) (pi_list (tg := tg) (pe_tE (Y := yX X) ())) pgt (ps_tB (sts := body)) a1; rw [g.eK ()] at z; exact z) fun M G0 G σ H0 H D E nx r => ?_
    refine h M G0 G σ H0 H E _ fun v H1 H1' d ds1 ⟨p1, p2⟩ E1 e1 r1 => ?_
    subst p1
    cases r1
    rename_i a1 xs r1 r2
    refine ⟨_, rfl, ⟨xs, sq_of (E1.wld.in_ _ _ r1)⟩, for_list (K := k.K) (D := D) (tb := tB X body) (g := fun v σ H Q => ∃ g, PG X tg g ∧ g v σ H Q) (xs := xs) (fun i σ' H' => ∃ ds1 H0', I i ds1 ∧ Env k M G0 G σ' H0' H' ds1 ∧ Ex H1 H0') ⟨ds1, H1, h0 _ p2, E1, Ex.refl _⟩ ?_ ?_ ?_⟩
    · rintro i σ' H' _ ⟨ds2, H2, _, E2, e2⟩
      exact sq_of (E2.wld.in_ _ _ (e2 _ _ r1))
    · intro i x σ' H' hx hI
      exact turn M G0 G D H1 i x xs σ' H' hx r2 (fun σ' H0' H' ds' q E' ex => nx σ' H0' H' ds' q E' (e1.trans ex)) r hI
    · rintro σ' H' ⟨ds2, H2, hI, E2, e2⟩
      rw [r2.length] at hI
      exact nx σ' H2 H' ds2 (hd ds2 hI) E2 (e1.trans e2)
  · refine b_st (t := tFor (iTup k.K (tE (yX X) it)) _ (tB X body)) (by have z := ps_for (X := X) (pos := pos) a2 (g.ec ()) (pi_tup (tg := tg) (pe_tE (Y := yX X) ())) pgt (ps_tB (sts := body)) a1; rw [g.eK ()] at z; exact z) fun M G0 G σ H0 H D E nx r => ?_
    refine h M G0 G σ H0 H E _ fun v H1 H1' d ds1 ⟨p1, p2⟩ E1 e1 r1 => ?_
    subst p1
    cases r1
    rename_i a1 xs r1 r2
    refine ⟨_, rfl, ⟨xs, st_of (E1.wld.in_ _ _ r1)⟩, for_tup (K := k.K) (D := D) (tb := tB X body) (g := fun v σ H Q => ∃ g, PG X tg g ∧ g v σ H Q) (xs := xs) (fun i σ' H' => ∃ ds1 H0', I i ds1 ∧ Env k M G0 G σ' H0' H' ds1 ∧ Ex H1 H0') ⟨ds1, H1, h0 _ p2, E1, Ex.refl _⟩ ?_ ?_ ?_⟩
    · rintro i σ' H' _ ⟨ds2, H2, _, E2, e2⟩
      exact st_of (E2.wld.in_ _ _ (e2 _ _ r1))
    · intro i x σ' H' hx hI
      exact turn M G0 G D H1 i x xs σ' H' hx r2 (fun σ' H0' H' ds' q E' ex => nx σ' H0' H' ds' q E' (e1.trans ex)) r hI
    · rintro σ' H' ⟨ds2, H2, hI, E2, e2⟩
      rw [r2.length] at hI
      exact nx σ' H2 H' ds2 (hd ds2 hI) E2 (e1.trans e2)
end
end Uw
end
section
set_option Elab.async false
set_option linter.all false
set_option maxRecDepth 100000
set_option maxHeartbeats 4000000
namespace Uw
open PySem PySem.Spec PyProof.Rows L2 Evl
/-! defs as a whole -/
structure Hd (k : Kw) : Prop where
  says : He.SaysE fa fn k.K
  ns : ∃ h : Heap, k.K.In h ∧ h.Ns mainGlobals k.mg
section
variable {k : Kw}
theorem Hd.glo (hd : Hd k) (j : Nat) {x : PySem.Str} (h : fa[j]? = some (.glo x)) : k.mg x = some (.ref (He.ga k.K x)) := by
  obtain ⟨hp, X, G⟩ := hd.ns
  exact He.glo_ok X G (hd.says.fact j h)
theorem Hd.free (hd : Hd k) (j : Nat) {x : PySem.Str} (h : fa[j]? = some (.free x)) : k.mg x = none := by
  obtain ⟨hp, X, G⟩ := hd.ns
  exact He.free_ok X G (hd.says.fact j h)
theorem Hd.len (hd : Hd k) : k.mg "len" = none := hd.free 47 rfl
theorem Hd.range (hd : Hd k) : k.mg "range" = none := hd.free 48 rfl
theorem Hd.sorted (hd : Hd k) : k.mg "sorted" = none := hd.free 49 rfl
theorem Hd.set (hd : Hd k) : k.mg "set" = none := hd.free 50 rfl
theorem Hd.tuple (hd : Hd k) : k.mg "tuple" = none := hd.free 51 rfl
theorem Hd.list (hd : Hd k) : k.mg "list" = none := hd.free 53 rfl
theorem Hd.str (hd : Hd k) : k.mg "str" = none := hd.free 54 rfl
theorem Hd.int (hd : Hd k) : k.mg "int" = none := hd.free 55 rfl
theorem Hd.max (hd : Hd k) : k.mg "max" = none := hd.free 56 rfl
theorem Hd.min (hd : Hd k) : k.mg "min" = none := hd.free 57 rfl
theorem Hd.isinstance (hd : Hd k) : k.mg "isinstance" = none := hd.free 58 rfl
theorem Hd.fun_ (hd : Hd k) (i : Nat) {p : PySem.Str × Option PySem.Str} {x q : PySem.Str} {st : Stmt} (h : fn[i]? = some ⟨p, x, q, C8.fnArgs st, C8.fnBody st, C8.fnScope st⟩) : ∃ fd, C8.Fun k.K x q st (He.fAd k.K p) fd ∧ fd.defaults = .none := by
  obtain ⟨oc, od, osl, kV, doc, pm, an, cdv, ct, h1, h2⟩ := hd.says.def_ i h
  exact ⟨_, ⟨⟨oc, od, .none, kV, doc, pm, an, cdv, ct, osl, rfl, h1, h2⟩⟩, rfl⟩
theorem Hd.def_ (hd : Hd k) (i j l : Nat) {x : PySem.Str} {st : Stmt} (h : fn[i]? = some ⟨(x, none), x, x, C8.fnArgs st, C8.fnBody st, C8.fnScope st⟩) (hg : fa[j]? = some (.glo x)) (hk : fa[l]? = some (.keep x)) :
    ∃ fd, C8.Def k.K k.mg x st (He.ga k.K x) fd ∧ fd.defaults = .none := by
  obtain ⟨fd, F, e⟩ := hd.fun_ i h
  exact ⟨fd, ⟨F, hd.glo j hg, He.keep_ok (hd.says.fact l hk)⟩, e⟩
abbrev bX (k : Kw) (N : List PySem.Str) (q : PySem.Str) (st : Stmt) (f : Addr) (cdv : Value) (A : Around) (outer : List PySem.Env) (s : Shared) (H : Hp) (E : XK) : Cx := (cxOf C8.CX0 k.P k.w k.K k.mg k.base N q (C8.fnScope st) f cdv A outer s H E).nox
theorem bX_good {ps : List PySem.Str} {N : List PySem.Str} {q : PySem.Str} {st : Stmt} {f : Addr} {cdv : Value} {A : Around} {outer : List PySem.Env} {s : Shared} {H : Hp} {E : XK} {lv : Nat} (S : C8.scC N ps (C8.fnScope st) = true) (hr : Room lv (A.deeper (envOfC q (C8.fnScope st) s.heap.objs.size f cdv))) : Good (yX (bX k N q st f cdv A outer s H E)) k lv :=
  ⟨fun _ => rfl, fun _ => rfl, fun _ => rfl, fun _ => rfl, fun _ => rfl, fun _ => rfl, fun _ => hr, fun _ => (C8.fnScope_by S).nd⟩
abbrev sd (l : List Dt) : EV := l.map fun d => some (.d d)
def BindsN (st : Stmt) (x q : PySem.Str) (ps : List PySem.Str) : Prop := ∀ (kV doc pm : Value) (an : Option Addr) (cdv ct : Value) (us : List Value), us.length = ps.length → bindArgs (PySem.W.fnOf x q (C8.fnArgs st) (C8.fnBody st) (C8.fnScope st) .none kV doc pm an cdv ct) ⟨us, []⟩ = pure (ps.zip us)
theorem start_env {G0 G : Hp} {N : List PySem.Str} {vs : List V} {ds : List Dt} (hi : Ex G0 G) (r : RpA k G0 vs ds) : Env k ([], .non) G0 G (L2.start N vs) G0 G (sd ds ++ List.replicate (N.length - ds.length) none) := by
  refine ⟨Wld.refl hi, by simp [L2.start, r.length], fun n u h => ?_, fun _ => [], fun i e h => ?_, fun i j a h => absurd h List.not_mem_nil, fun i a h => absurd h List.not_mem_nil⟩
  · by_cases q : n < (sd ds).length
    · rw [List.getElem?_append_left q, List.getElem?_map] at h
      cases z : ds[n]? with
      | none => rw [z] at h; cases h
      | some d => rw [z] at h; cases h
    · rw [List.getElem?_append_right (by omega), List.getElem?_replicate] at h
      split at h <;> cases h
  · by_cases q : i < (sd ds).length
    · rw [List.getElem?_append_left q, List.getElem?_map] at h
      cases z : ds[i]? with
      | none => rw [z] at h; cases h
      | some d =>
        rw [z] at h
        cases h
        obtain ⟨v, h1, h2⟩ := r.get z
        refine ⟨v, ?_, h2⟩
        have q' : i < vs.length := (List.getElem?_eq_some_iff.mp h1).1
        rw [L2.start, List.getElem?_append_left (by rw [List.length_map]; exact q'), List.getElem?_map, h1]
        rfl
    · rw [List.getElem?_append_right (by omega), List.getElem?_replicate] at h
      split at h <;> cases h
def rD (R : Dt → Prop) : Ent → EV → Prop
  | .d d, _ => R d
  | _, _ => False
def rM (R : Dt → Mut → Prop) : Ent → EV → Prop
  | .d d, ds' => ∃ u', ds'[0]? = some (some (.m false u')) ∧ R d u'
  | _, _ => False
def rN (k : Kw) (R : List Dt → Prop) : Ent → EV → Prop
  | .m true u, _ => ∃ l, u = mL k l ∧ R l
  | _, _ => False
theorem rN_mk {R : List Dt → Prop} {l : List Dt} {ds : EV} (h : R l) : rN k R (.m true (mL k l)) ds := ⟨l, rfl, h⟩
/-- a def that changes nothing that stood before -/
theorem defP {x : PySem.Str} {st : Stmt} {N ps : List PySem.Str} {lv : Nat} {F : List Dt → (Dt → Prop) → Prop} (dd : ∃ fd, C8.Def k.K k.mg x st (He.ga k.K x) fd ∧ fd.defaults = .none) (b : BindsN st x x ps) (S : C8.scC N ps (C8.fnScope st) = true) (len : ∀ ds R, F ds R → ds.length = ps.length)
    (body : ∀ f cdv A outer s H E, Good (yX (bX k N x st f cdv A outer s H E)) k lv → ∀ ds R, F ds R → XB (bX k N x st f cdv A outer s H E) k (C8.fnBody st) (sd ds ++ List.replicate (N.length - ds.length) none) (fun _ => R .non) (rD R)) : CalK k (lv + 1) x (spP k F) := by
  obtain ⟨fd, D, e⟩ := dd
  refine C8.cal0 D (D.fn.binds e b) .nil (C8.fnScope_by S) (fun vs H Q E h => ?_) fun cdv A outer s H vs Q E hr h => ⟨_, ps_tB, ?_⟩
  · obtain ⟨G0, ds, R, h1, h2, h3, h4⟩ := h
    rw [h2.length]
    exact len ds R h3
  · obtain ⟨G0, ds, R, h1, h2, h3, h4⟩ := h
    refine body _ cdv A outer s H E (bX_good S hr) ds R h3 ([], .non) G0 H _ G0 H _ (start_env h1 h2) (fun σ' H0' H' ds' n E' _ => ?_) (fun v σ' H0' H' d ds' fp rr E' r hf => ?_)
    · exact h4 .non n .non H0' H' E'.wld .non
    · cases d with
      | d d => exact h4 d rr v H0' H' E'.wld r
      | m _ _ => exact rr.elim
/-- a def that gives a new list -/
theorem defN {x : PySem.Str} {st : Stmt} {N ps : List PySem.Str} {lv : Nat} {F : List Dt → (List Dt → Prop) → Prop} (dd : ∃ fd, C8.Def k.K k.mg x st (He.ga k.K x) fd ∧ fd.defaults = .none) (b : BindsN st x x ps) (S : C8.scC N ps (C8.fnScope st) = true) (len : ∀ ds R, F ds R → ds.length = ps.length)
    (body : ∀ f cdv A outer s H E, Good (yX (bX k N x st f cdv A outer s H E)) k lv → ∀ ds R, F ds R → XB (bX k N x st f cdv A outer s H E) k (C8.fnBody st) (sd ds ++ List.replicate (N.length - ds.length) none) (fun _ => False) (rN k R)) : CalK k (lv + 1) x (spN k F) := by
  obtain ⟨fd, D, e⟩ := dd
  refine C8.cal0 D (D.fn.binds e b) .nil (C8.fnScope_by S) (fun vs H Q E h => ?_) fun cdv A outer s H vs Q E hr h => ⟨_, ps_tB, ?_⟩
  · obtain ⟨G0, ds, R, h1, h2, h3, h4⟩ := h
    rw [h2.length]
    exact len ds R h3
  · obtain ⟨G0, ds, R, h1, h2, h3, h4⟩ := h
    refine body _ cdv A outer s H E (bX_good S hr) ds R h3 ([], .non) G0 H _ G0 H _ (start_env h1 h2) (fun σ' H0' H' ds' n E' _ => n.elim) (fun v σ' H0' H' d ds' fp rr E' r hf => ?_)
    cases d with
    | d d => exact rr.elim
    | m o u =>
      cases o with
      | false => exact rr.elim
      | true =>
        obtain ⟨l, rfl, hR⟩ := rr
        obtain ⟨⟨p, xs, rfl, rfl, hx, ha⟩, hG⟩ := r
        exact h4 l hR p xs H0' H' E'.wld (hG rfl p List.mem_cons_self) (hf p List.mem_cons_self).1 hx ha
theorem start_envM {G0 G : Hp} {N : List PySem.Str} {v : V} {vs : List V} {ds : List Dt} {u : Mut} {fp : List Addr} (hi : Ex G0 G) (r : RpA k G0 vs ds) (hu : u.at_ v G0 G fp) (hf : ∀ a ∈ fp, G0 a = none ∧ G a ≠ none) :
    Env k (fp, v) G0 G (L2.start N (v :: vs)) G0 G (some (.m false u) :: sd ds ++ List.replicate (N.length - (ds.length + 1)) none) := by
  refine ⟨Wld.refl hi, by simp [L2.start, r.length], fun n u' h => ?_, fun i => if i = 0 then fp else [], fun i e h => ?_, fun i j a h1 h2 => ?_, fun i a h => ?_⟩
  · cases n with
    | zero => rfl
    | succ n =>
      rw [List.cons_append, List.getElem?_cons_succ] at h
      by_cases q : n < (sd ds).length
      · rw [List.getElem?_append_left q, List.getElem?_map] at h
        cases z : ds[n]? with
        | none => rw [z] at h; cases h
        | some d => rw [z] at h; cases h
      · rw [List.getElem?_append_right (by omega), List.getElem?_replicate] at h
        split at h <;> cases h
  · cases i with
    | zero =>
      cases h
      exact ⟨v, rfl, hu, fun z => nomatch z⟩
    | succ n =>
      rw [List.cons_append, List.getElem?_cons_succ] at h
      by_cases q : n < (sd ds).length
      · rw [List.getElem?_append_left q, List.getElem?_map] at h
        cases z : ds[n]? with
        | none => rw [z] at h; cases h
        | some d =>
          rw [z] at h
          cases h
          obtain ⟨v', h1, h2⟩ := r.get z
          refine ⟨v', ?_, h2⟩
          have q' : n < vs.length := (List.getElem?_eq_some_iff.mp h1).1
          rw [L2.start, List.map_cons, List.cons_append, List.getElem?_cons_succ, List.getElem?_append_left (by rw [List.length_map]; exact q'), List.getElem?_map, h1]
          rfl
      · rw [List.getElem?_append_right (by omega), List.getElem?_replicate] at h
        split at h <;> cases h
  · dsimp only at h1 h2
    split at h1
    · split at h2
      · subst_vars; rfl
      · cases h2
    · cases h1
  · dsimp only at h
    split at h
    · exact ⟨(hf a h).1, .inl h, (hf a h).2⟩
    · cases h
theorem Env.back {M : List Addr × V} {G0 G H0 H : Hp} {σ : L2.St} {ds : EV} (E : Env k M G0 G σ H0 H ds) {n : Nat} {u : Mut} (h : ds[n]? = some (some (.m false u))) : ∃ fp', u.at_ M.2 H0 H fp' ∧ ∀ a ∈ fp', H0 a = none ∧ (a ∈ M.1 ∨ G a = none) ∧ H a ≠ none := by
  have p := E.pin n u h
  obtain ⟨F, f1, f2, f3⟩ := E.ent
  obtain ⟨v, h1, h2, _⟩ := f1 n _ h
  rw [p] at h1
  cases h1
  exact ⟨F n, h2, f3 n⟩
theorem defM {x : PySem.Str} {st : Stmt} {N ps : List PySem.Str} {lv : Nat} {F : Mut → List Dt → (Dt → Mut → Prop) → Prop} (dd : ∃ fd, C8.Def k.K k.mg x st (He.ga k.K x) fd ∧ fd.defaults = .none) (b : BindsN st x x ps) (S : C8.scC N ps (C8.fnScope st) = true) (len : ∀ u ds R, F u ds R → ds.length + 1 = ps.length)
    (body : ∀ f cdv A outer s H E, Good (yX (bX k N x st f cdv A outer s H E)) k lv → ∀ u ds R, F u ds R → XB (bX k N x st f cdv A outer s H E) k (C8.fnBody st) (some (.m false u) :: sd ds ++ List.replicate (N.length - (ds.length + 1)) none)
      (fun ds' => ∃ u', ds'[0]? = some (some (.m false u')) ∧ R .non u') (rM R)) : CalK k (lv + 1) x (spM k F) := by
  obtain ⟨fd, D, e⟩ := dd
  refine C8.cal0 D (D.fn.binds e b) .nil (C8.fnScope_by S) (fun vs H Q E h => ?_) fun cdv A outer s H vs Q E hr h => ⟨_, ps_tB, ?_⟩
  · obtain ⟨G0, v, vs', fp, u, ds, R, rfl, h1, h2, h3, h4, h5, h6⟩ := h
    rw [List.length_cons, h2.length]
    exact len u ds R h5
  · obtain ⟨G0, v, vs', fp, u, ds, R, rfl, h1, h2, h3, h4, h5, h6⟩ := h
    refine body _ cdv A outer s H E (bX_good S hr) u ds R h5 (fp, v) G0 H _ G0 H _ (start_envM h1 h2 h3 h4) (fun σ' H0' H' ds' n E' _ => ?_) (fun v σ' H0' H' d ds' fp2 rr E' r hf => ?_)
    · obtain ⟨u', hu, hR⟩ := n
      obtain ⟨fp', b1, b2⟩ := E'.back hu
      exact h6 .non u' hR .non H0' H' fp' E'.wld .non b1 b2
    · cases d with
      | d d =>
        obtain ⟨u', hu, hR⟩ := rr
        obtain ⟨fp', b1, b2⟩ := E'.back hu
        exact h6 d u' hR v H0' H' fp' E'.wld r b1 b2
      | m _ _ => exact rr.elim
end
end Uw
end
section
set_option Elab.async false
set_option linter.all false
set_option maxRecDepth 100000
set_option maxHeartbeats 4000000
namespace Uw
open PySem PySem.Spec PyProof.Rows L2 Evl
/-! more of the calculus: methods, comprehensions, ranges, while -/
section
variable {ι : Type} {Y : ι → Cx} {k : Kw} {lv : Nat} {ds : EV} {e a b c : Expr} {pos : Pos}
/-- where a text stands first -/
def ixOf (w : PySem.Str) : List PySem.Str → Nat
  | [] => 0
  | x :: r => if x = w then 0 else ixOf w r + 1
theorem ixOf_at {w : PySem.Str} : ∀ {l : List PySem.Str}, w ∈ l → l[ixOf w l]? = some w ∧ ∀ m, m < ixOf w l → ∀ z, l[m]? = some z → z ≠ w
  | [], h => by cases h
  | x :: r, h => by
    unfold ixOf
    by_cases q : x = w
    · rw [if_pos q, q]
      exact ⟨rfl, fun m hm => absurd hm (Nat.not_lt_zero _)⟩
    · rw [if_neg q]
      have h' : w ∈ r := by
        rcases List.mem_cons.mp h with z | z
        · exact absurd z.symm q
        · exact z
      obtain ⟨h1, h2⟩ := ixOf_at h'
      refine ⟨h1, fun m hm z hz => ?_⟩
      cases m with
      | zero => cases hz; exact q
      | succ m => exact h2 m (by omega) z hz
theorem x_m_index (g : Good Y k lv) {w : PySem.Str} {l : List PySem.Str} {p p2 : Pos} (ha : XD Y k a ds (.lst (l.map .str))) (hb : XD Y k b ds (.str w)) (hw : w ∈ l)
    (a1 : ∀ i, attributeBase a "index" (Y i).env (eval a (Y i).env) = eval a (Y i).env := by intro _; rfl)
    (a2 : ∀ i, ((((backTo p2 (starEach [b] (Y i).env)).all fun x => !x.1) && (backToKw p2 (keywordEach [] (Y i).env)).all fun x => x.1.isSome) && decide (([b].length + ([] : List Keyword).length + if ([] : List Keyword).isEmpty then 0 else 1) < 30)) = true := by intro _; rfl)
    (a3 : (p.endLine == p2.line) = true := by rfl) (a4 : ∀ i, starEach [b] (Y i).env = (false, eval b (Y i).env) :: starEach [] (Y i).env := by intro _; rfl) : XD Y k (.Call (.Attribute a "index" p) [b] [] p2) ds (.int (ixOf w l)) := by
  obtain ⟨ta, pa, ea⟩ := ha
  obtain ⟨tb, pb, eb⟩ := hb
  refine ⟨tBM k.K "list" (rIndex k.K) ta (tCons tb tNil), fun i => by have z := pe_bm (X := Y i) PySem.F.plainAttrs_list PySem.F.slot_list_index PySem.F.type_list_index mt_index (pa i) (pa_cons (pb i) pa_nil (a4 i)) (a1 i) (a2 i) a3 (a4 i); rw [g.eK i] at z; exact z, fun M G0 G σ H0 H E Q q => ?_⟩
  refine ea M G0 G σ H0 H E _ fun x H1 H1' E1 e1 r1 => ?_
  cases r1
  rename_i aa xs h1 h2
  have h3 := h2.strs
  subst h3
  refine ⟨.inl ⟨rfl, _, sq_of (E1.wld.in_ _ _ h1)⟩, eb M G0 G σ H1 H1' E1 _ fun y H2 H2' E2 e2 r2 => ?_⟩
  cases r2
  obtain ⟨i1, i2⟩ := ixOf_at hw
  refine ⟨_, _, _, ixOf w l, .str w, rfl, rfl, sq_of (E2.wld.in_ _ _ (e2.fz _ _ h1)), rfl, flat_strs l, by rw [List.getElem?_map, i1]; rfl, by simp [eqV], fun m z' hm hz => ?_, q _ _ _ E2 (e1.trans e2) (.int _)⟩
  rw [List.getElem?_map] at hz
  cases t : l[m]? with
  | none => rw [t] at hz; cases hz
  | some s =>
    rw [t] at hz
    cases hz
    have := i2 m hm s t
    simp [eqV, this]
theorem x_m_join (g : Good Y k lv) {s : PySem.Str} {l : List PySem.Str} {p p2 : Pos} {db : Dt} (ha : XD Y k a ds (.str s)) (hb : XD Y k b ds db) (hs : seqD (l.map Dt.str) db) (hz : (l.map fun x => x.length).sum + l.length * s.length ≤ 16777216)
    (a4 : ∀ i, starEach [b] (Y i).env = [(false, eval b (Y i).env)] := by intro _; rfl) (a1 : ∀ i, attributeBase a "join" (Y i).env (eval a (Y i).env) = eval a (Y i).env := by intro _; rfl) (a3 : (p.endLine == p2.line) = true := by rfl) :
    XD Y k (.Call (.Attribute a "join" p) [b] [] p2) ds (.str (Txt.join s l)) := by
  obtain ⟨ta, pa, ea⟩ := ha
  obtain ⟨tb, pb, eb⟩ := hb
  refine ⟨tM1 (fun x xs H Q => ∃ a p ys, x = V.str a ∧ xs = [V.ref p] ∧ (SqL k.K H p (List.map V.str ys) ∨ SqT k.K H p (List.map V.str ys)) ∧ (List.map (fun x => x.length) ys).sum + ys.length * a.length ≤ 16777216 ∧ Q (V.str (Txt.join a ys)) H) ta tb, fun i => by
    have z := pe_join (X := Y i) (pa i) (pb i) (a4 i) (a1 i) a3
    rw [g.eK i] at z
    exact z, fun M G0 G σ H0 H E Q q => ?_⟩
  refine ea M G0 G σ H0 H E _ fun x H1 H1' E1 e1 r1 => ⟨?_, ?_⟩
  · cases r1; exact ⟨_, rfl⟩
  · cases r1
    refine eb M G0 G σ H1 H1' E1 _ fun y H2 H2' E2 e2 r2 => ?_
    obtain ⟨p, xs, rfl, h1, h2⟩ := seq_ok r2 hs
    have h3 := h2.strs
    subst h3
    exact ⟨s, p, l, rfl, rfl, sq_mono E2.wld.in_ (h1 _), hz, q _ _ _ E2 (e1.trans e2) (.str _)⟩
theorem x_m_split {s t : PySem.Str} {p p2 : Pos} (ha : XD Y k a ds (.str s)) (hb : XD Y k b ds (.str t)) (ht : (t.length == 0) = false) (hz : s.length ≤ 90000)
    (a4 : ∀ i, starEach [b] (Y i).env = [(false, eval b (Y i).env)] := by intro _; rfl) (a1 : ∀ i, attributeBase a "split" (Y i).env (eval a (Y i).env) = eval a (Y i).env := by intro _; rfl) (a3 : (p.endLine == p2.line) = true := by rfl) :
    XD Y k (.Call (.Attribute a "split" p) [b] [] p2) ds (.lst ((Txt.split s t).map .str)) := by
  obtain ⟨ta, pa, ea⟩ := ha
  obtain ⟨tb, pb, eb⟩ := hb
  refine ⟨_, fun i => pe_split (pa i) (pb i) (a4 i) (a1 i) a3, fun M G0 G σ H0 H E Q q => ?_⟩
  refine ea M G0 G σ H0 H E _ fun x H1 H1' E1 e1 r1 => ⟨?_, ?_⟩
  · cases r1; exact ⟨_, rfl⟩
  · cases r1
    refine eb M G0 G σ H1 H1' E1 _ fun y H2 H2' E2 e2 r2 => ?_
    cases r2
    refine ⟨s, t, rfl, rfl, ht, sz_of (by omega), fun p hp => ?_⟩
    have w := wld_new (o := .lst ((Txt.split s t).map V.str)) E2.wld.in_ hp
    exact q _ _ _ (E2.step w) ((e1.trans e2).trans w) (.lst upd_same RpA.ofStrs)
theorem x_lenM (g : Good Y k lv) (n : Nat) {x : PySem.Str} {p p2 : Pos} {own : Bool} {l : List Dt} (hx : ds[n]? = some (some (.m own (mL k l)))) (hm : k.mg "len" = none) (hN : ∀ i, (Y i).N[n]? = some x := by intro _; rfl) (hv : ∀ i, Vis (Y i).env.scope x := by intro _; first | exact .inl rfl | exact .inr (.inl rfl) | exact .inr (.inr rfl))
    (h1 : (x == ("__debug__" : PySem.Str)) = false := by decide) (h2 : (x == ("__classdict__" : PySem.Str)) = false := by decide) (hg : ∀ i, Gl (Y i) "len" := by intro _; rfl)
    (he : ∀ i, starEach [.Name x p2] (Y i).env = (false, eval (.Name x p2) (Y i).env) :: starEach [] (Y i).env := by intro _; rfl) (hpl : ∀ i, ((backTo pos (starEach [] (Y i).env)).any fun x => x.1) = false := by intro _; rfl) : XD Y k (.Call (.Name "len" p) [.Name x p2] [] pos) ds (.int l.length) := by
  refine ⟨tCB (fun xs H Q => ∃ p ys, xs = [V.ref p] ∧ (SqL k.K H p ys ∨ SqT k.K H p ys) ∧ Q (V.int ↑ys.length) H) (tCons (tVar n) tNil), fun i => ?_, fun M G0 G σ H0 H E Q q => ?_⟩
  · have z := call_len_seq (X := Y i)
    rw [g.eK i] at z
    exact pe_callB z (hg i) (by rw [g.em i]; exact hm) PySem.boot_len (pa_cons (tE_slot (hN i) (hv i) h1 h2) pa_nil (he i)) (by decide) (by decide) (he i) (hpl i)
  · obtain ⟨p, xs, s1, s2, s3⟩ := E.getM hx
    refine ⟨_, s1, p, xs, rfl, .inl (sq_of s2), ?_⟩
    rw [s3.length]
    exact q _ _ _ E (Wld.refl E.wld.in_) (.int _)
/-! comprehensions -/
abbrev BI := Shared × Hp × Addr × List (PySem.Str × Addr) × List Addr
abbrev bk {ι : Type} (Y : ι → Cx) (scope : Scope) : ι × BI → Cx := fun q => (Y q.1).blk q.2.1 q.2.2.1 scope (compEnvC scope q.2.2.2.2.1 q.2.2.2.1 (Y q.1).env) q.2.2.2.2.2
theorem bk_good {scope : Scope} (g : Good Y k lv) : Good (bk Y scope) k lv := ⟨fun q => g.eK q.1, fun q => g.eP q.1, fun q => g.ew q.1, fun q => g.em q.1, fun q => g.eb q.1, fun q => g.ec q.1, fun q => g.hr q.1, fun q => g.nd q.1⟩
/-- the turns of what is walked -/
def keepD : List (Option Dt) → List Dt
  | [] => []
  | none :: r => keepD r
  | some d :: r => d :: keepD r
theorem keepD_take {l : List (Option Dt)} {i : Nat} : (l[i]? = some none → keepD (l.take (i + 1)) = keepD (l.take i)) ∧ ∀ d, l[i]? = some (some d) → keepD (l.take (i + 1)) = keepD (l.take i) ++ [d] := by
  induction l generalizing i with
  | nil => exact ⟨fun h => by simp at h, fun d h => by simp at h⟩
  | cons x r ih =>
    cases i with
    | zero => exact ⟨fun h => by cases h; rfl, fun d h => by cases h; rfl⟩
    | succ i =>
      obtain ⟨h1, h2⟩ := ih (i := i)
      cases x with
      | none => exact ⟨fun h => h1 h, fun d h => h2 d h⟩
      | some y => exact ⟨fun h => congrArg (y :: ·) (h1 h), fun d h => congrArg (y :: ·) (h2 d h)⟩
theorem keepD_len {l : List (Option Dt)} : (keepD l).length ≤ l.length := by
  induction l with
  | nil => exact Nat.le_refl _
  | cons x r ih => cases x <;> simp [keepD] <;> omega
theorem keepD_map {l : List Dt} : keepD (l.map some) = l := by
  induction l with
  | nil => rfl
  | cons x r ih => simp [keepD, ih]
def isT {ι : Type} (Y : ι → Cx) (ifs : List Expr) : Prop := True
theorem isT_nil {ι : Type} {Y : ι → Cx} : isT Y [] := trivial
theorem isT_one {ι : Type} {Y : ι → Cx} {c : Expr} : isT Y [c] := trivial
/-- one turn of a comprehension: kept (some d) or left out (none) -/
def LcT (Y : ι → Cx) (k : Kw) (scope : Scope) (elt : Expr) (ifs : List Expr) (ds' : EV) (o : Option Dt) : Prop :=
  (ifs = [] ∧ ∃ d, o = some d ∧ XD (bk Y scope) k elt ds' d) ∨ ∃ c p, ifs = [c] ∧ XT (bk Y scope) k c ds' p ∧ (p = true → ∃ d, o = some d ∧ XD (bk Y scope) k elt ds' d) ∧ (p = false → o = none)
theorem wipe_set {σ : L2.St} {j : Nat} {z : Option V} : wipe (List.set (wipe σ [j]) j z) [j] = wipe σ [j] := by
  show (List.set (List.set (List.set σ j none) j z) j none) = _
  rw [List.set_set, List.set_set]
  rfl
/-- tests of a comprehension -/
def tIfs (Y : ι → Cx) (ifs : List Expr) : TT := fun σ H Q => ∃ t, (∀ i, PTs (Y i) ifs t) ∧ t σ H Q
theorem pts_tIfs {ifs : List Expr} (i : ι) : PTs (Y i) ifs (tIfs Y ifs) := ⟨fun pins s σ H Q I ⟨te, h, q⟩ => (h i).run pins s σ H Q I q⟩
def LcP (k : Kw) (os : List (Option Dt)) (A A' : Hp) (Dl : Addr) (i : Nat) (H : Hp) : Prop := ∃ H0 acc, Wld [] A A' H0 H ∧ H0 Dl = none ∧ H Dl = some (.lst acc) ∧ RpA k H0 acc (keepD (os.take i))
theorem lc_turn {scope : Scope} {elt : Expr} {ifs : List Expr} {j : Nat} {M : List Addr × V} {G0 G : Hp} {σ : L2.St} {A A' H : Hp} {x : V} {d : Dt} {o : Option Dt} {Dl : Addr} {os : List (Option Dt)} {i : Nat}
    (hs : isT (bk Y scope) ifs)
    (hl : os.length ≤ 50000) (ht : LcT Y k scope elt ifs ((ds.set j none).set j (some (.d d))) o) (E : Env k M G0 G (wipe σ [j]) A A' (ds.set j none)) (r : Rp k A x d) (hA : A' Dl = none) (ho : os[i]? = some o) (hp : LcP k os A A' Dl i H) :
    gName j x (wipe σ [j]) H fun σ2 H2 => wipe σ2 [j] = wipe σ [j] ∧ tIfs (bk Y scope) ifs σ2 H2 fun b H3 => if b = true then tE (bk Y scope) elt σ2 H3 fun y H4 => ∃ acc, H4 Dl = some (.lst acc) ∧ acc.length < sizeLine ∧ LcP k os A A' Dl (i + 1) (upd H4 Dl (.lst (acc ++ [y]))) else LcP k os A A' Dl (i + 1) H3 := by
  obtain ⟨H0, acc, w, h0, hD, ha⟩ := hp
  refine ⟨wipe_set, ?_⟩
  have E1 : Env k M G0 G (List.set (wipe σ [j]) j (some x)) H0 H ((ds.set j none).set j (some (.d d))) := (E.step w).setD (r.mono w.fz)
  have hz : acc.length ≤ 50000 := by
    rw [ha.length]
    have h1 := keepD_len (l := os.take i)
    rw [List.length_take] at h1
    omega
  have made : ∀ d', o = some d' → XD (bk Y scope) k elt ((ds.set j none).set j (some (.d d))) d' → ∀ H0' H', Wld [] H0 H H0' H' → tE (bk Y scope) elt (List.set (wipe σ [j]) j (some x)) H' fun y H4 => ∃ acc, H4 Dl = some (.lst acc) ∧ acc.length < sizeLine ∧ LcP k os A A' Dl (i + 1) (upd H4 Dl (.lst (acc ++ [y]))) := by
    intro d' e hx H0' H' w'
    refine hx.top M G0 G _ H0' H' (E1.step w') _ fun y H2 H2' E2 w2 r2 => ?_
    obtain ⟨s1, s2⟩ := wld_stay (w'.trans w2) h0 hD
    refine ⟨acc, s2, sz_lt (by omega), H2, acc ++ [y], wld_mut ((w.trans w').trans w2) hA s1, s1, upd_same, ?_⟩
    rw [keepD_take.2 d' (e ▸ ho)]
    exact (ha.mono (w'.trans w2).fz).app (.cons r2 .nil)
  rcases ht with ⟨rfl, d', e, hx⟩ | ⟨c, p, rfl, hc, h1, h2⟩
  · exact ⟨tYes, fun _ => pts_nil, made d' e hx H0 H (Wld.refl w.in_)⟩
  · obtain ⟨tc, pc, ec⟩ := hc
    refine ⟨tc, fun q => pts_one (pc q), ?_⟩
    refine ec M G0 G _ H0 H E1 _ fun H2 H2' E2 w2 => ?_
    cases p with
    | true =>
      obtain ⟨d', e, hx⟩ := h1 rfl
      exact made d' e hx H2 H2' w2
    | false =>
      obtain ⟨s1, s2⟩ := wld_stay w2 h0 hD
      refine ⟨H2, acc, w.trans w2, s1, s2, ?_⟩
      rw [keepD_take.1 (h2 rfl ▸ ho)]
      exact ha.mono w2.fz
section
variable {x : PySem.Str} {j : Nat} {elt it : Expr} {ifs : List Expr} {scope : Scope} {px : Pos} {l : List Dt} {os : List (Option Dt)}
theorem xx_lc (x : PySem.Str) (j : Nat) (g : Good Y k lv) {d0 : Dt} (kind : d0 = .lst l ∨ d0 = .tup l) (h : XD Y k it ds d0) (hl : l.length ≤ 50000) (ho : l.length = os.length) (ht : ∀ (i : Nat) d, l[i]? = some d → ∃ o, os[i]? = some o ∧ LcT Y k scope elt ifs ((ds.set j none).set j (some (.d d))) o)
    (hN : ∀ i, (Y i).N.Nodup) (ok : ∀ i, BlkOk (Y i).N (Y i).env.scope scope [(x, j)]) (tg : ∀ q : ι × BI, PG (bk Y scope q) (.Name x px) (gName j))
    (hs : isT (bk Y scope) ifs) (hf : ∀ i, ∀ v : Value, foldedSetIterable it (Y i).env v = pure v) :
    ∃ te, (∀ i, PI (Y i) (.Name x px) it te) ∧ (∀ M G0 G σ H0 H, Env k M G0 G σ H0 H ds → ∀ Q : VK, (∀ Dl H1 H1' H', Wld [] H0 H H1 H1' → H1' Dl = none → LcP k os H1 H1' Dl os.length H' → Q (.ref Dl) H') → tLc te (gName j) (tIfs (bk Y scope) ifs) (tE (bk Y scope) elt) [j] σ H Q) := by
  obtain ⟨ti, pi, ei⟩ := h
  rcases kind with rfl | rfl
  · refine ⟨iList k.K ti, fun i => by have z := pi_list (tg := .Name x px) (pi i); rw [g.eK i] at z; exact z, fun M G0 G σ H0 H E Q q => ?_⟩
    refine ei M G0 G σ H0 H E _ fun v H1 H1' E1 w1 r1 => ?_
    cases r1
    rename_i aa xs r1 r2
    refine ⟨_, rfl, ⟨xs, sq_of (E1.wld.in_ _ _ r1)⟩, fun Dl hD => ?_⟩
    have d0 : H1 Dl = none := fresh_back E1.wld.in_ hD
    have En : Env k M G0 G (wipe σ [j]) H1 H1' (ds.set j none) := E1.setN
    refine lc_list (K := k.K) (xs := xs) (LcP k os H1 H1' Dl) ⟨H1, [], wld_mut (Wld.refl E1.wld.in_) hD d0, d0, upd_same, .nil⟩ ?_ ?_ ?_
    · rintro i H' _ ⟨H2, acc, w2, _⟩
      exact sq_of (w2.kp _ _ (by simp) (E1.wld.in_ _ _ r1))
    · intro i y H' hy hp
      obtain ⟨d, hd1, hd2⟩ := r2.getV hy
      obtain ⟨o, ho1, ho2⟩ := ht i d hd1
      exact lc_turn hs (by omega) ho2 En hd2 hD ho1 hp
    · intro H' hp
      rw [r2.length, ho] at hp
      exact q Dl H1 H1' H' w1 hD hp
  · refine ⟨iTup k.K ti, fun i => by have z := pi_tup (tg := .Name x px) (pi i); rw [g.eK i] at z; exact z, fun M G0 G σ H0 H E Q q => ?_⟩
    refine ei M G0 G σ H0 H E _ fun v H1 H1' E1 w1 r1 => ?_
    cases r1
    rename_i aa xs r1 r2
    refine ⟨_, rfl, ⟨xs, st_of (E1.wld.in_ _ _ r1)⟩, fun Dl hD => ?_⟩
    have d0 : H1 Dl = none := fresh_back E1.wld.in_ hD
    have En : Env k M G0 G (wipe σ [j]) H1 H1' (ds.set j none) := E1.setN
    refine lc_tup (K := k.K) (xs := xs) (LcP k os H1 H1' Dl) ⟨H1, [], wld_mut (Wld.refl E1.wld.in_) hD d0, d0, upd_same, .nil⟩ ?_ ?_ ?_
    · rintro i H' _ ⟨H2, acc, w2, _⟩
      exact st_of (w2.kp _ _ (by simp) (E1.wld.in_ _ _ r1))
    · intro i y H' hy hp
      obtain ⟨d, hd1, hd2⟩ := r2.getV hy
      obtain ⟨o, ho1, ho2⟩ := ht i d hd1
      exact lc_turn hs (by omega) ho2 En hd2 hD ho1 hp
    · intro H' hp
      rw [r2.length, ho] at hp
      exact q Dl H1 H1' H' w1 hD hp
/-- over range(n) -/
theorem xx_lcR (x : PySem.Str) (j : Nat) (g : Good Y k lv) {a : Expr} {p p2 : Pos} {n : Nat} (hm : k.mg "range" = none) (h : XD Y k a ds (.int (n : Int))) (hl : n ≤ 50000) (ho : n = os.length) (ht : ∀ i : Nat, i < n → ∃ o, os[i]? = some o ∧ LcT Y k scope elt ifs ((ds.set j none).set j (some (.d (.int (i : Int))))) o)
    (hN : ∀ i, (Y i).N.Nodup) (ok : ∀ i, BlkOk (Y i).N (Y i).env.scope scope [(x, j)]) (tg : ∀ q : ι × BI, PG (bk Y scope q) (.Name x px) (gName j))
    (hs : isT (bk Y scope) ifs)
    (hg : ∀ i, Gl (Y i) "range" := by intro _; rfl) (he : ∀ i, starEach [a] (Y i).env = [(false, eval a (Y i).env)] := by intro _; rfl) (he2 : ∀ i, starEach [a] (Y i).env = (false, eval a (Y i).env) :: starEach [] (Y i).env := by intro _; rfl) :
    ∃ te, (∀ i, PI (Y i) (.Name x px) (.Call (.Name "range" p) [a] [] p2) te) ∧ (∀ M G0 G σ H0 H, Env k M G0 G σ H0 H ds → ∀ Q : VK, (∀ Dl H1 H1' H', Wld [] H0 H H1 H1' → H1' Dl = none → LcP k os H1 H1' Dl os.length H' → Q (.ref Dl) H') → tLc te (gName j) (tIfs (bk Y scope) ifs) (tE (bk Y scope) elt) [j] σ H Q) := by
  obtain ⟨ti, pi, ei⟩ := h
  refine ⟨iRng1 (tCons ti tNil), fun i => pi_range1 (hg i) (by rw [g.em i]; exact hm) (pa_cons (pi i) pa_nil (he2 i)) (he i), fun M G0 G σ H0 H E Q q => ?_⟩
  refine ei M G0 G σ H0 H E _ fun v H1 H1' E1 w1 r1 => ?_
  cases r1
  refine ⟨(n : Int), rfl, by omega, by omega, fun Dl hD => ?_⟩
  have d0 : H1 Dl = none := fresh_back E1.wld.in_ hD
  have En : Env k M G0 G (wipe σ [j]) H1 H1' (ds.set j none) := E1.setN
  refine lc_range (lo := 0) (n := (n : Int).toNat) (LcP k os H1 H1' Dl) ⟨H1, [], wld_mut (Wld.refl E1.wld.in_) hD d0, d0, upd_same, .nil⟩ ?_ ?_
  · intro i H' hi hp
    obtain ⟨o, ho1, ho2⟩ := ht i (by omega)
    have e0 : (0 : Int) + (i : Int) = (i : Int) := Int.zero_add _
    rw [e0]
    exact lc_turn hs (by omega) ho2 En (.int _) hD ho1 hp
  · intro H' hp
    rw [show (n : Int).toNat = os.length by omega] at hp
    exact q Dl H1 H1' H' w1 hD hp
theorem lc_fin {M : List Addr × V} {G0 G H0 H : Hp} {σ : L2.St} {Q : VK} (E : Env k M G0 G σ H0 H ds) (q : ∀ v H0' H', Env k M G0 G σ H0' H' ds → Wld [] H0 H H0' H' → Rp k H0' v (.lst (keepD os)) → Q v H') :
    ∀ Dl H1 H1' H', Wld [] H0 H H1 H1' → H1' Dl = none → LcP k os H1 H1' Dl os.length H' → Q (.ref Dl) H' := by
  rintro Dl H1 H1' H' w hD ⟨H2, acc, w2, h0, h3, ha⟩
  rw [List.take_length] at ha
  have w3 := wld_frz w2 hD h0 h3
  exact q _ _ _ (E.step (w.trans w3)) (w.trans w3) (.lst upd_same (ha.mono (Ex.new h0)))
theorem lc_own {M : List Addr × V} {G0 G H0 H : Hp} {σ : L2.St} {n : Nat} (E : Env k M G0 G σ H0 H ds) {Dl : Addr} {H1 H1' H' : Hp} (w : Wld [] H0 H H1 H1') (hD : H1' Dl = none) (hp : LcP k os H1 H1' Dl os.length H') :
    ∃ H2, Ex H0 H2 ∧ Env k M G0 G (σ.set n (some (.ref Dl))) H2 H' (ds.set n (some (.m true (mL k (keepD os))))) := by
  obtain ⟨H2, acc, w2, h0, h3, ha⟩ := hp
  rw [List.take_length] at ha
  exact ⟨H2, (w.trans w2).fz, own_new E (w.trans w2) (Classical.byContradiction fun z => (w.tr Dl z) hD) h0 h3 ha⟩
theorem x_lc (x : PySem.Str) (j : Nat) (N0 : List PySem.Str) (sc0 : Scope) (g : Good Y k lv) {d0 : Dt} (os : List (Option Dt)) (h : XD Y k it ds d0) (kind : d0 = .lst l ∨ d0 = .tup l) (hl : l.length ≤ 50000) (ho : l.length = os.length) (ht : ∀ (i : Nat) d, l[i]? = some d → ∃ o, os[i]? = some o ∧ LcT Y k scope elt ifs ((ds.set j none).set j (some (.d d))) o)
    (hs : isT (bk Y scope) ifs) (nd : N0.Nodup := by decide +kernel) (ok : blkC N0 sc0 scope [(x, j)] = true := by decide +kernel) (eN : ∀ i, (Y i).N = N0 := by intro _; rfl) (es : ∀ i, (Y i).env.scope = sc0 := by intro _; rfl) (hx : N0[j]? = some x := by rfl)
    (hloc : ∀ q, Loc (bk Y scope q).env.scope x := by intro _; first | exact .inl rfl | exact .inr rfl) (hfn : ∀ q, (bk Y scope q).fn x = true ∨ (bk Y scope q).env.scope.names.lookup x = some .local := by intro _; first | exact .inr rfl | exact .inl rfl)
    (hf : ∀ i, ∀ v : Value, foldedSetIterable it (Y i).env v = pure v := by intro _ _; rfl) : XD Y k (.ListComp elt [⟨.Name x px, it, ifs, 0⟩] scope pos) ds (.lst (keepD os)) := by
  have tg : ∀ q : ι × BI, PG (bk Y scope q) (.Name x px) (gName j) := fun q => pg_name (by show (Y q.1).N.Nodup; rw [eN]; exact nd) (by show (Y q.1).N[j]? = _; rw [eN]; exact hx) (hloc q) (hfn q)
  have ok' : ∀ i, BlkOk (Y i).N (Y i).env.scope scope [(x, j)] := fun i => by rw [eN, es]; exact blkOk_by ok
  obtain ⟨te, p, q⟩ := xx_lc x j g kind h hl ho ht (fun i => by rw [eN]; exact nd) ok' tg hs hf
  exact ⟨tLc te (gName j) (tIfs (bk Y scope) ifs) (tE (bk Y scope) elt) [j], fun i => pe_lc (own := [(x, j)]) (g.ec i) (by rw [eN]; exact nd) (p i) (ok' i) (fun s H C cl fp => tg (i, s, H, C, cl, fp)) (fun s H C cl fp => pts_tIfs (Y := bk Y scope) (i, s, H, C, cl, fp)) (fun s H C cl fp => pe_tE (Y := bk Y scope) (i, s, H, C, cl, fp)) (hf i), fun M G0 G σ H0 H E Q k => q M G0 G σ H0 H E Q (lc_fin E k)⟩
theorem x_lcR (x : PySem.Str) (j : Nat) (N0 : List PySem.Str) (sc0 : Scope) (g : Good Y k lv) {a : Expr} {p p2 : Pos} {n : Nat} (os : List (Option Dt)) (hm : k.mg "range" = none) (h : XD Y k a ds (.int (n : Int))) (hl : n ≤ 50000) (ho : n = os.length) (ht : ∀ i : Nat, i < n → ∃ o, os[i]? = some o ∧ LcT Y k scope elt ifs ((ds.set j none).set j (some (.d (.int (i : Int))))) o)
    (hs : isT (bk Y scope) ifs) (nd : N0.Nodup := by decide +kernel) (ok : blkC N0 sc0 scope [(x, j)] = true := by decide +kernel) (eN : ∀ i, (Y i).N = N0 := by intro _; rfl) (es : ∀ i, (Y i).env.scope = sc0 := by intro _; rfl) (hx : N0[j]? = some x := by rfl)
    (hloc : ∀ q, Loc (bk Y scope q).env.scope x := by intro _; first | exact .inl rfl | exact .inr rfl) (hfn : ∀ q, (bk Y scope q).fn x = true ∨ (bk Y scope q).env.scope.names.lookup x = some .local := by intro _; first | exact .inr rfl | exact .inl rfl)
    (hg : ∀ i, Gl (Y i) "range" := by intro _; rfl) (he : ∀ i, starEach [a] (Y i).env = [(false, eval a (Y i).env)] := by intro _; rfl) (he2 : ∀ i, starEach [a] (Y i).env = (false, eval a (Y i).env) :: starEach [] (Y i).env := by intro _; rfl)
    (hf : ∀ i, ∀ v : Value, foldedSetIterable (.Call (.Name "range" p) [a] [] p2) (Y i).env v = pure v := by intro _ _; rfl) : XD Y k (.ListComp elt [⟨.Name x px, .Call (.Name "range" p) [a] [] p2, ifs, 0⟩] scope pos) ds (.lst (keepD os)) := by
  have tg : ∀ q : ι × BI, PG (bk Y scope q) (.Name x px) (gName j) := fun q => pg_name (by show (Y q.1).N.Nodup; rw [eN]; exact nd) (by show (Y q.1).N[j]? = _; rw [eN]; exact hx) (hloc q) (hfn q)
  have ok' : ∀ i, BlkOk (Y i).N (Y i).env.scope scope [(x, j)] := fun i => by rw [eN, es]; exact blkOk_by ok
  obtain ⟨te, p, q⟩ := xx_lcR x j g hm h hl ho ht (fun i => by rw [eN]; exact nd) ok' tg hs hg he he2
  exact ⟨tLc te (gName j) (tIfs (bk Y scope) ifs) (tE (bk Y scope) elt) [j], fun i => pe_lc (own := [(x, j)]) (g.ec i) (by rw [eN]; exact nd) (p i) (ok' i) (fun s H C cl fp => tg (i, s, H, C, cl, fp)) (fun s H C cl fp => pts_tIfs (Y := bk Y scope) (i, s, H, C, cl, fp)) (fun s H C cl fp => pe_tE (Y := bk Y scope) (i, s, H, C, cl, fp)) (hf i), fun M G0 G σ H0 H E Q k => q M G0 G σ H0 H E Q (lc_fin E k)⟩
/-- the same as a plain map -/
theorem lcF {ds' : Nat → EV} {f : Dt → Dt} (h : ∀ (i : Nat) d, l[i]? = some d → XD (bk Y scope) k elt ((ds.set j none).set j (some (.d d))) (f d)) : ∀ (i : Nat) d, l[i]? = some d → ∃ o, ((l.map f).map some)[i]? = some o ∧ LcT Y k scope elt [] ((ds.set j none).set j (some (.d d))) o := fun i d hd =>
  ⟨some (f d), by rw [List.getElem?_map, List.getElem?_map, hd]; rfl, .inl ⟨rfl, f d, rfl, h i d hd⟩⟩
end
end
section
variable {X : Cx} {k : Kw} {lv : Nat} {ds ds' : EV} {e a b c : Expr} {pos spos : Pos} {rest : List Stmt} {N : EV → Prop} {R : Ent → EV → Prop}
variable {px py : Pos} {j : Nat} {elt it : Expr} {ifs : List Expr} {scope : Scope} {l : List Dt} {os : List (Option Dt)}
/-- y = [e for x in it if ..]; to be changed later -/
theorem b_setLc (n : Nat) {y : PySem.Str} (x : PySem.Str) (j : Nat) (N0 : List PySem.Str) (sc0 : Scope) (g : Good (yX X) k lv) {d0 : Dt} (os : List (Option Dt)) (h : XD (yX X) k it ds d0) (kind : d0 = .lst l ∨ d0 = .tup l) (hl : l.length ≤ 50000) (ho : l.length = os.length) (ht : ∀ (i : Nat) d, l[i]? = some d → ∃ o, os[i]? = some o ∧ LcT (yX X) k scope elt ifs ((ds.set j none).set j (some (.d d))) o)
    (hs : isT (bk (yX X) scope) ifs) (m : XB X k rest (ds.set n (some (.m true (mL k (keepD os))))) N R) (nd : N0.Nodup := by decide +kernel) (ok : blkC N0 sc0 scope [(x, j)] = true := by decide +kernel) (eN : X.N = N0 := by rfl) (es : X.env.scope = sc0 := by rfl) (hx : N0[j]? = some x := by rfl)
    (hloc : ∀ q, Loc (bk (yX X) scope q).env.scope x := by intro _; first | exact .inl rfl | exact .inr rfl) (hfn : ∀ q, (bk (yX X) scope q).fn x = true ∨ (bk (yX X) scope q).env.scope.names.lookup x = some .local := by intro _; first | exact .inr rfl | exact .inl rfl)
    (hf : ∀ v : Value, foldedSetIterable it X.env v = pure v := by intro _; rfl) (hy : N0[n]? = some y := by rfl) (hyl : sc0.names.lookup y = some .local := by rfl)
    (hsw : swapsWith (.ListComp elt [⟨.Name x px, it, ifs, 0⟩] scope pos) (some (.Name y py)) spos.line X.env = pure true := by exact sw_true rfl rfl rfl (by decide +kernel)) : XB X k (.Assign [.Name y py] (.ListComp elt [⟨.Name x px, it, ifs, 0⟩] scope pos) spos :: rest) ds N R := by
  have tg : ∀ q : Unit × BI, PG (bk (yX X) scope q) (.Name x px) (gName j) := fun q => pg_name (by show X.N.Nodup; rw [eN]; exact nd) (by show X.N[j]? = _; rw [eN]; exact hx) (hloc q) (hfn q)
  have ok' : ∀ i, BlkOk (yX X i).N (yX X i).env.scope scope [(x, j)] := fun i => by show BlkOk X.N X.env.scope _ _; rw [eN, es]; exact blkOk_by ok
  obtain ⟨te, p, q⟩ := xx_lc x j g kind h hl ho ht (fun i => by show X.N.Nodup; rw [eN]; exact nd) ok' tg hs (fun _ => hf)
  refine b_st (ps_setLc (i := n) (own := [(x, j)]) (g.ec ()) (by rw [eN]; exact nd) (by rw [eN]; exact hy) (by rw [es]; exact hyl) hsw (p ()) (ok' ()) (fun s H C cl fp => tg ((), s, H, C, cl, fp)) (fun s H C cl fp => pts_tIfs (Y := bk (yX X) scope) ((), s, H, C, cl, fp)) (fun s H C cl fp => pe_tE (Y := bk (yX X) scope) ((), s, H, C, cl, fp)) hf) fun M G0 G σ H0 H D E nx r => ?_
  refine q M G0 G σ H0 H E _ fun Dl H1 H1' H' w hD hp => ?_
  obtain ⟨H2, e2, E2⟩ := lc_own (n := n) E w hD hp
  exact nx _ H2 H' _ m E2 e2
theorem b_setLcR (n : Nat) {y : PySem.Str} (x : PySem.Str) (j : Nat) (N0 : List PySem.Str) (sc0 : Scope) (g : Good (yX X) k lv) {p p2 : Pos} {n0 : Nat} (os : List (Option Dt)) (hm : k.mg "range" = none) (h : XD (yX X) k a ds (.int (n0 : Int))) (hl : n0 ≤ 50000) (ho : n0 = os.length) (ht : ∀ i : Nat, i < n0 → ∃ o, os[i]? = some o ∧ LcT (yX X) k scope elt ifs ((ds.set j none).set j (some (.d (.int (i : Int))))) o)
    (hs : isT (bk (yX X) scope) ifs) (m : XB X k rest (ds.set n (some (.m true (mL k (keepD os))))) N R) (nd : N0.Nodup := by decide +kernel) (ok : blkC N0 sc0 scope [(x, j)] = true := by decide +kernel) (eN : X.N = N0 := by rfl) (es : X.env.scope = sc0 := by rfl) (hx : N0[j]? = some x := by rfl)
    (hloc : ∀ q, Loc (bk (yX X) scope q).env.scope x := by intro _; first | exact .inl rfl | exact .inr rfl) (hfn : ∀ q, (bk (yX X) scope q).fn x = true ∨ (bk (yX X) scope q).env.scope.names.lookup x = some .local := by intro _; first | exact .inr rfl | exact .inl rfl)
    (hg : Gl X "range" := by rfl) (he : starEach [a] X.env = [(false, eval a X.env)] := by rfl) (he2 : starEach [a] X.env = (false, eval a X.env) :: starEach [] X.env := by rfl)
    (hf : ∀ v : Value, foldedSetIterable (.Call (.Name "range" p) [a] [] p2) X.env v = pure v := by intro _; rfl) (hy : N0[n]? = some y := by rfl) (hyl : sc0.names.lookup y = some .local := by rfl)
    (hsw : swapsWith (.ListComp elt [⟨.Name x px, .Call (.Name "range" p) [a] [] p2, ifs, 0⟩] scope pos) (some (.Name y py)) spos.line X.env = pure true := by exact sw_true rfl rfl rfl (by decide +kernel)) : XB X k (.Assign [.Name y py] (.ListComp elt [⟨.Name x px, .Call (.Name "range" p) [a] [] p2, ifs, 0⟩] scope pos) spos :: rest) ds N R := by
  have tg : ∀ q : Unit × BI, PG (bk (yX X) scope q) (.Name x px) (gName j) := fun q => pg_name (by show X.N.Nodup; rw [eN]; exact nd) (by show X.N[j]? = _; rw [eN]; exact hx) (hloc q) (hfn q)
  have ok' : ∀ i, BlkOk (yX X i).N (yX X i).env.scope scope [(x, j)] := fun i => by show BlkOk X.N X.env.scope _ _; rw [eN, es]; exact blkOk_by ok
  obtain ⟨te, p, q⟩ := xx_lcR x j g hm h hl ho ht (fun i => by show X.N.Nodup; rw [eN]; exact nd) ok' tg hs (fun _ => hg) (fun _ => he) (fun _ => he2)
  refine b_st (ps_setLc (i := n) (own := [(x, j)]) (g.ec ()) (by rw [eN]; exact nd) (by rw [eN]; exact hy) (by rw [es]; exact hyl) hsw (p ()) (ok' ()) (fun s H C cl fp => tg ((), s, H, C, cl, fp)) (fun s H C cl fp => pts_tIfs (Y := bk (yX X) scope) ((), s, H, C, cl, fp)) (fun s H C cl fp => pe_tE (Y := bk (yX X) scope) ((), s, H, C, cl, fp)) hf) fun M G0 G σ H0 H D E nx r => ?_
  refine q M G0 G σ H0 H E _ fun Dl H1 H1' H' w hD hp => ?_
  obtain ⟨H2, e2, E2⟩ := lc_own (n := n) E w hD hp
  exact nx _ H2 H' _ m E2 e2
/-! for over range, while -/
theorem b_forR (I : Nat → EV → Prop) (g : Good (yX X) k lv) {body : List Stmt} (j : Nat) {x : PySem.Str} {p p2 : Pos} {n : Nat} (hm : k.mg "range" = none) (h : XD (yX X) k a ds (.int (n : Int))) (hn : n ≤ 100000) (h0 : I 0 ds)
    (hs : ∀ (i : Nat) ds1, i < n → I i ds1 → XB X k body (ds1.set j (some (.d (.int (i : Int))))) (I (i + 1)) R) (hd : ∀ ds1, I n ds1 → XB X k rest ds1 N R)
    (nd : X.N.Nodup := by exact Good.nd (Y := yX _) (by assumption) ()) (hN : X.N[j]? = some x := by rfl) (hl : Loc X.env.scope x := by first | exact .inl rfl | exact .inr rfl) (hf : X.fn x = true ∨ X.env.scope.names.lookup x = some .local := by first | exact .inr rfl | exact .inl rfl)
    (hg : Gl X "range" := by rfl) (he : starEach [a] X.env = [(false, eval a X.env)] := by rfl) (he2 : starEach [a] X.env = (false, eval a X.env) :: starEach [] X.env := by rfl)
    (a1 : ∀ x : Value, foldedSetIterable (.Call (.Name "range" p) [a] [] p2) X.env x = pure x := by intro _; rfl) (a2 : PassesOwn (model X.prog X.w) X.A X.env X.xe := by exact PassesOwn.never) : XB X k (.For (.Name x px) (.Call (.Name "range" p) [a] [] p2) body [] pos :: rest) ds N R := by
  obtain ⟨ti, pi, ei⟩ := h
  refine b_st (ps_for a2 (g.ec ()) (pi_range1 hg (by rw [g.em ()]; exact hm) (pa_cons (pi ()) pa_nil he2) he) (pg_name nd hN hl hf) (ps_tB (sts := body)) a1) fun M G0 G σ H0 H D E nx r => ?_
  refine ei M G0 G σ H0 H E _ fun v H1 H1' E1 w1 r1 => ?_
  cases r1
  refine ⟨(n : Int), rfl, by omega, by omega, for_range (lo := 0) (n := (n : Int).toNat) (D := D) (tb := Uw.tB X body) (g := gName j) (fun i σ' H' => ∃ ds1 H0', I i ds1 ∧ Env k M G0 G σ' H0' H' ds1 ∧ Ex H1 H0') ⟨ds, H1, h0, E1, Ex.refl _⟩ ?_ ?_⟩
  · rintro i σ' H' hi ⟨ds1, H2, hI, E2, e2⟩
    have e0 : (0 : Int) + (i : Int) = (i : Int) := Int.zero_add _
    rw [e0]
    exact hs i ds1 (by omega) hI M G0 G _ H2 H' _ (E2.setD (.int _)) (fun σ2 H3 H3' ds3 q E3 e3 => ⟨ds3, H3, q, E3, e2.trans e3⟩) r
  · rintro σ' H' ⟨ds2, H2, hI, E2, e2⟩
    rw [show (n : Int).toNat = n by omega] at hI
    exact nx σ' H2 H' ds2 (hd ds2 hI) E2 (w1.fz.trans e2)
theorem b_forR2 (I : Nat → EV → Prop) (g : Good (yX X) k lv) {body : List Stmt} (j : Nat) {x : PySem.Str} {p p2 : Pos} {m n : Nat} (hm : k.mg "range" = none) (h : XA (yX X) k [a, b] ds [.int (m : Int), .int (n : Int)]) (hn : m ≤ 100000 ∧ n ≤ 100000) (h0 : I 0 ds)
    (hs : ∀ (i : Nat) ds1, m + i < n → I i ds1 → XB X k body (ds1.set j (some (.d (.int ((m + i : Nat) : Int))))) (I (i + 1)) R) (hd : ∀ ds1, I (n - m) ds1 → XB X k rest ds1 N R)
    (nd : X.N.Nodup := by exact Good.nd (Y := yX _) (by assumption) ()) (hN : X.N[j]? = some x := by rfl) (hl : Loc X.env.scope x := by first | exact .inl rfl | exact .inr rfl) (hf : X.fn x = true ∨ X.env.scope.names.lookup x = some .local := by first | exact .inr rfl | exact .inl rfl)
    (hg : Gl X "range" := by rfl) (he : starEach [a, b] X.env = [(false, eval a X.env), (false, eval b X.env)] := by rfl) (he2 : starEach [b] X.env = [(false, eval b X.env)] := by rfl)
    (a1 : ∀ x : Value, foldedSetIterable (.Call (.Name "range" p) [a, b] [] p2) X.env x = pure x := by intro _; rfl) (a2 : PassesOwn (model X.prog X.w) X.A X.env X.xe := by exact PassesOwn.never) : XB X k (.For (.Name x px) (.Call (.Name "range" p) [a, b] [] p2) body [] pos :: rest) ds N R := by
  obtain ⟨ti, pi, ei⟩ := h
  refine b_st (ps_for a2 (g.ec ()) (pi_range2 hg (by rw [g.em ()]; exact hm) (pi ()) he he2) (pg_name nd hN hl hf) (ps_tB (sts := body)) a1) fun M G0 G σ H0 H D E nx r => ?_
  refine ei M G0 G σ H0 H E _ fun v H1 H1' E1 w1 r1 => ?_
  obtain ⟨v, w, rfl, r1, r2⟩ := r1.two
  cases r1; cases r2
  refine ⟨(m : Int), (n : Int), rfl, ⟨by omega, by omega, by omega, by omega⟩, for_range (lo := (m : Int)) (n := ((n : Int) - (m : Int)).toNat) (D := D) (tb := Uw.tB X body) (g := gName j) (fun i σ' H' => ∃ ds1 H0', I i ds1 ∧ Env k M G0 G σ' H0' H' ds1 ∧ Ex H1 H0') ⟨ds, H1, h0, E1, Ex.refl _⟩ ?_ ?_⟩
  · rintro i σ' H' hi ⟨ds1, H2, hI, E2, e2⟩
    have e0 : (m : Int) + (i : Int) = ((m + i : Nat) : Int) := by omega
    rw [e0]
    exact hs i ds1 (by omega) hI M G0 G _ H2 H' _ (E2.setD (.int _)) (fun σ2 H3 H3' ds3 q E3 e3 => ⟨ds3, H3, q, E3, e2.trans e3⟩) r
  · rintro σ' H' ⟨ds2, H2, hI, E2, e2⟩
    rw [show ((n : Int) - (m : Int)).toNat = n - m by omega] at hI
    exact nx σ' H2 H' ds2 (hd ds2 hI) E2 (w1.fz.trans e2)
theorem b_while (I : Nat → EV → Prop) (m0 : Nat) {body : List Stmt} (h0 : I m0 ds)
    (hs : ∀ m ds1, I m ds1 → ∃ p, XX (yX X) k c ds1 (fun d ds' => d = .bl p ∧ ds' = ds1) ∧ (p = true → XB X k body ds1 (fun ds2 => ∃ m', m' < m ∧ I m' ds2) R) ∧ (p = false → XB X k rest ds1 N R))
    (ht : ∀ (whole : Sem Value), PySem.isTrue c X.env whole = (do let v ← whole; standAt c.pos; holding [v] (truthy v)) := by intro whole; rfl) (a2 : PassesOwn (model X.prog X.w) X.A X.env X.xe := by exact PassesOwn.never) : XB X k (.While c body [] pos :: rest) ds N R := by
  refine b_st (ps_while a2 (pt_val (pe_tE (Y := yX X) ()) ht) (ps_tB (sts := body))) fun M G0 G σ H0 H D E nx r => ?_
  refine ⟨fun m σ' H' => ∃ ds1 H0', I m ds1 ∧ Env k M G0 G σ' H0' H' ds1 ∧ Ex H0 H0', ⟨m0, ds, H0, h0, E, Ex.refl _⟩, ?_⟩
  rintro m σ' H' ⟨ds1, H1, hI, E1, e1⟩
  obtain ⟨p, hc, h1, h2⟩ := hs m ds1 hI
  refine hc M G0 G σ' H1 H' E1 _ fun v H2 H2' d ds2 ⟨q1, q2⟩ E2 e2 r2 => ?_
  subst q1 q2
  cases r2
  refine ⟨p, rfl, ?_⟩
  cases p with
  | true =>
    refine ⟨fun σ2 H3 => ∃ m', m' < m ∧ ∃ ds3 H3', I m' ds3 ∧ Env k M G0 G σ2 H3' H3 ds3 ∧ Ex H0 H3', fun σ2 H3 ⟨m', hm, x⟩ => ⟨m', hm, x⟩, ?_⟩
    exact h1 rfl M G0 G σ' H2 H2' _ E2 (fun σ3 H3 H3' ds3 ⟨m', hm, hI'⟩ E3 e3 => ⟨m', hm, ds3, H3, hI', E3, (e1.trans e2).trans e3⟩) r
  | false =>
    exact nx σ' H2 H2' _ (h2 rfl) E2 (e1.trans e2)
theorem b_retN (m : R (.d .non) ds) : XB X k (.Return none pos :: rest) ds N R :=
  b_st ps_retN fun M G0 G σ H0 H D E nx r => r .non σ H0 H (.d .non) ds [] m E .non (fun _ h => absurd h List.not_mem_nil)
end
end Uw
end
section
set_option Elab.async false
set_option linter.all false
set_option maxRecDepth 100000
set_option maxHeartbeats 4000000
namespace Uw
open PySem PySem.Spec PyProof.Rows L2 Evl
/-! sorted, set, dicts of tokens, the steps of a slice -/
def eTu (t : List Int) : Dt := .tup (t.map .int)
section
variable {k : Kw} {H : Hp}
theorem RpA.tups : ∀ {vs : List V} {l : List (List Int)}, RpA k H vs (l.map eTu) → ∃ ks : List AT, vs = ks.map (fun p => V.ref p.1) ∧ ks.map (·.2) = l ∧ ∀ p ∈ ks, H p.1 = some (.tup (p.2.map V.int))
  | _, [], r => by cases r; exact ⟨[], rfl, rfl, fun _ h => nomatch h⟩
  | _, t :: l, r => by
    cases r with
    | cons h r =>
      obtain ⟨ks, h1, h2, h3⟩ := r.tups
      cases h
      rename_i a xs g1 g2
      have g3 := g2.ints
      subst g3
      refine ⟨(a, t) :: ks, by rw [h1]; rfl, by rw [← h2]; rfl, fun p hp => ?_⟩
      rcases List.mem_cons.mp hp with z | z
      · rw [z]; exact g1
      · exact h3 p z
theorem RpA.ofTups : ∀ {ks : List AT}, (∀ p ∈ ks, H p.1 = some (.tup (p.2.map V.int))) → RpA k H (ks.map fun p => V.ref p.1) ((ks.map (·.2)).map eTu)
  | [], _ => .nil
  | p :: ks, h => .cons (.tup (h p List.mem_cons_self) RpA.ofInts) (RpA.ofTups fun q hq => h q (List.mem_cons_of_mem _ hq))
end
section
variable {ι : Type} {Y : ι → Cx} {k : Kw} {lv : Nat} {ds : EV} {e a b c : Expr} {pos : Pos}
theorem hc64 (g : Good Y k lv) (i : ι) : (Y i).A.units + 64 < cLine := by
  have := (g.hr i).un
  omega
/-- sorted(set(e)), e a list of tuples of ints -/
theorem xn_sortSetTu (g : Good Y k lv) {l : List (List Int)} {p p2 p3 : Pos} (h1 : k.mg "sorted" = none) (h2 : k.mg "set" = none) (h : XD Y k a ds (.lst (l.map eTu))) (hl : l.length < 64) (hne : ∀ t ∈ l, t ≠ [])
    (hg1 : ∀ i, Gl (Y i) "sorted" := by intro _; rfl) (hg2 : ∀ i, Gl (Y i) "set" := by intro _; rfl)
    (he : ∀ i, starEach [a] (Y i).env = (false, eval a (Y i).env) :: starEach [] (Y i).env := by intro _; rfl) (hpl : ∀ i, ((backTo p2 (starEach [] (Y i).env)).any fun x => x.1) = false := by intro _; rfl)
    (he2 : ∀ i, starEach [.Call (.Name "set" p) [a] [] p2] (Y i).env = (false, eval (.Call (.Name "set" p) [a] [] p2) (Y i).env) :: starEach [] (Y i).env := by intro _; rfl) (hpl2 : ∀ i, ((backTo pos (starEach [] (Y i).env)).any fun x => x.1) = false := by intro _; rfl) :
    XN Y k (.Call (.Name "sorted" p3) [.Call (.Name "set" p) [a] [] p2] [] pos) ds (fun d => ∃ l' : List (List Int), d = l'.map eTu ∧ (∀ t, t ∈ l' ↔ t ∈ l) ∧ l'.length < 64) := by
  obtain ⟨ta, pa, ea⟩ := h
  refine xn_of (te := tCB (rSortSetTu k.K k.P k.w) (tCons (tCB (rSetOfT k.K k.P k.w) (tCons ta tNil)) tNil)) (fun i => ?_) fun M G0 G σ H0 H E Q q => ?_
  · have z1 := cr_setOfT (g.ec i) (hc64 g i)
    have z2 := cr_sortSetTu (g.ec i) (hc64 g i)
    rw [g.eK i, g.eP i, g.ew i] at z1 z2
    exact pe_callB z2 (hg1 i) (by rw [g.em i]; exact h1) (by decide +kernel) (pa_cons (pe_callTy z1 (hg2 i) (by rw [g.em i]; exact h2) (by decide +kernel) (pa_cons (pa i) pa_nil (he i)) (by decide) (by decide) (he i) (hpl i)) pa_nil (he2 i)) (by decide) (by decide) (he2 i) (hpl2 i)
  · refine ea M G0 G σ H0 H E _ fun v H1 H1' E1 w1 r1 => ?_
    cases r1
    rename_i aa xs r1 r2
    obtain ⟨ks, rfl, hk2, hk3⟩ := r2.tups
    have hin := E1.wld.in_
    refine ⟨aa, ks, rfl, sq_of (hin _ _ r1), fun p hp => st_of (hin _ _ (hk3 p hp)), by rw [← List.length_map (f := (·.2)), hk2]; exact hl, fun s L hs hL1 hL2 => ?_⟩
    have kp : ∀ p ∈ ks, upd H1' s (SetTO k.P k.w s L) p.1 = some (.tup (p.2.map V.int)) := fun p hp => by
      have z := hin _ _ (hk3 p hp)
      rw [upd_ne (ne_of_none z hs)]; exact z
    refine ⟨s, L, rfl, upd_same, fun p hp => ⟨hne _ (by rw [← hk2]; exact List.mem_map_of_mem (hL1 p hp)), st_of (kp p (hL1 p hp))⟩, fun L' o hL' hlen ho => ?_⟩
    have hs0 : H1 s = none := fresh_back hin hs
    have wS := wld_mut (o := SetTO k.P k.w s L) (Wld.refl hin) hs hs0
    have ho1 : H1' o = none := Classical.byContradiction fun z => wS.tr o z ho
    have wO := wld_mut (o := .lst (L'.map fun q => V.ref q.1)) wS ho1 (fresh_back hin ho1)
    have mem : ∀ p ∈ L', p ∈ ks := fun p hp => hL1 p (hL'.mem_iff.mp hp)
    refine q o _ _ _ ((L'.map (·.2)).map eTu) ⟨L'.map (·.2), rfl, fun t => ?_, by rw [List.length_map]; exact hlen⟩ (w1.trans wO) (Classical.byContradiction fun z => w1.tr o z ho1) (fresh_back hin ho1) upd_same (RpA.ofTups fun p hp => wO.fz _ _ (hk3 p (mem p hp)))
    constructor
    · intro ht
      obtain ⟨p, hp, rfl⟩ := List.mem_map.mp ht
      rw [← hk2]
      exact List.mem_map_of_mem (mem p hp)
    · intro ht
      rw [← hk2] at ht
      obtain ⟨p, hp, rfl⟩ := List.mem_map.mp ht
      obtain ⟨p', hp', e⟩ := List.mem_map.mp (hL2 p hp)
      rw [← e]
      exact List.mem_map_of_mem (hL'.mem_iff.mpr hp')
/-- sorted(set(e)), e a list of ints or of texts -/
theorem xx_sortSetK (g : Good Y k lv) {κ : Type} {mk : κ → Key} {enc : κ → PyData} {eD : κ → Dt} (S : KSort κ mk enc) (heq : ∀ (x : κ) (H : Hp), Rp k H (kV (mk x)) (eD x)) (hback : ∀ (xs : List V) (l : List κ) (H : Hp), RpA k H xs (l.map eD) → xs = l.map fun x => kV (mk x))
    {l : List κ} {p p2 p3 : Pos} (h1 : k.mg "sorted" = none) (h2 : k.mg "set" = none) (h : XD Y k a ds (.lst (l.map eD))) (hl : l.length ≤ 1000)
    (hg1 : ∀ i, Gl (Y i) "sorted" := by intro _; rfl) (hg2 : ∀ i, Gl (Y i) "set" := by intro _; rfl)
    (he : ∀ i, starEach [a] (Y i).env = (false, eval a (Y i).env) :: starEach [] (Y i).env := by intro _; rfl) (hpl : ∀ i, ((backTo p2 (starEach [] (Y i).env)).any fun x => x.1) = false := by intro _; rfl)
    (he2 : ∀ i, starEach [.Call (.Name "set" p) [a] [] p2] (Y i).env = (false, eval (.Call (.Name "set" p) [a] [] p2) (Y i).env) :: starEach [] (Y i).env := by intro _; rfl) (hpl2 : ∀ i, ((backTo pos (starEach [] (Y i).env)).any fun x => x.1) = false := by intro _; rfl) :
    XX Y k (.Call (.Name "sorted" p3) [.Call (.Name "set" p) [a] [] p2] [] pos) ds (fun d ds' => ds' = ds ∧ ∃ l' : List κ, d = .lst (l'.map eD) ∧ (∀ t, t ∈ l' ↔ t ∈ l) ∧ l'.length ≤ l.length) := by
  obtain ⟨ta, pa, ea⟩ := h
  refine xx_of (te := tCB (rSortK k.P k.w mk) (tCons (tCB (rSetK k.K k.P k.w) (tCons ta tNil)) tNil)) (fun i => ?_) fun M G0 G σ H0 H E Q q => ?_
  · have z1 := cr_setK (g.ec i)
    have z2 := cr_sortK S (g.ec i) (hc64 g i)
    rw [g.eK i, g.eP i, g.ew i] at z1
    rw [g.eP i, g.ew i] at z2
    exact pe_callB z2 (hg1 i) (by rw [g.em i]; exact h1) (by decide +kernel) (pa_cons (pe_callTy z1 (hg2 i) (by rw [g.em i]; exact h2) (by decide +kernel) (pa_cons (pa i) pa_nil (he i)) (by decide) (by decide) (he i) (hpl i)) pa_nil (he2 i)) (by decide) (by decide) (he2 i) (hpl2 i)
  · refine ea M G0 G σ H0 H E _ fun v H1 H1' E1 w1 r1 => ?_
    cases r1
    rename_i aa xs r1 r2
    have hk := hback _ _ _ r2
    subst hk
    have hin := E1.wld.in_
    refine ⟨aa, l.map mk, rfl, by rw [List.map_map]; exact sq_of (hin _ _ r1), by rw [List.length_map]; exact hl, fun s hs => ⟨s, l, rfl, upd_same, fun out o hm hlen ho => ?_⟩⟩
    have hs0 : H1 s = none := fresh_back hin hs
    have wS := wld_mut (o := SetMO k.P k.w s (l.map mk)) (Wld.refl hin) hs hs0
    have wO := wS.trans (wld_new (o := .lst (out.map fun x => kV (mk x))) wS.in_ ho)
    refine q _ _ _ (.lst (out.map eD)) ds ⟨rfl, out, rfl, hm, hlen⟩ (E1.step wO) (w1.fz.trans wO.fz) (.lst upd_same ?_)
    have mk' : ∀ (o : List κ) (H : Hp), RpA k H (o.map fun x => kV (mk x)) (o.map eD) := fun o H => by
      induction o with
      | nil => exact .nil
      | cons x r ih => exact .cons (heq x H) ih
    exact mk' out _
/-- sorted(e), e a list of tuples of ints -/
theorem xx_sortTu (g : Good Y k lv) {l : List (List Int)} {p3 : Pos} (h1 : k.mg "sorted" = none) (h : XX Y k a ds (fun d ds' => ds' = ds ∧ d = .lst (l.map eTu))) (hne : ∀ t ∈ l, t ≠ [])
    (hg1 : ∀ i, Gl (Y i) "sorted" := by intro _; rfl)
    (he : ∀ i, starEach [a] (Y i).env = (false, eval a (Y i).env) :: starEach [] (Y i).env := by intro _; rfl) (hpl : ∀ i, ((backTo pos (starEach [] (Y i).env)).any fun x => x.1) = false := by intro _; rfl) :
    XX Y k (.Call (.Name "sorted" p3) [a] [] pos) ds (fun d ds' => ds' = ds ∧ ∃ l' : List (List Int), d = .lst (l'.map eTu) ∧ l'.Perm l) := by
  refine xx_of (te := tCB (rSortTu k.K) (tCons (tE Y a) tNil)) (fun i => ?_) fun M G0 G σ H0 H E Q q => ?_
  · have z2 := cr_sortTu (X := Y i) (hc64 g i)
    rw [g.eK i] at z2
    exact pe_callB z2 (hg1 i) (by rw [g.em i]; exact h1) (by decide +kernel) (pa_cons (pe_tE i) pa_nil (he i)) (by decide) (by decide) (he i) (hpl i)
  · refine h M G0 G σ H0 H E _ fun v H1 H1' d ds1 ⟨q1, q2⟩ E1 w1 r1 => ?_
    subst q1 q2
    cases r1
    rename_i aa xs r1 r2
    obtain ⟨ks, rfl, hk2, hk3⟩ := r2.tups
    have hin := E1.wld.in_
    refine ⟨aa, ks, rfl, sq_of (hin _ _ r1), fun p hp => ⟨hne _ (by rw [← hk2]; exact List.mem_map_of_mem hp), st_of (hin _ _ (hk3 p hp))⟩, fun L' o hL' ho => ?_⟩
    have wO := wld_new (o := .lst (L'.map fun q => V.ref q.1)) hin ho
    refine q _ _ _ (.lst ((L'.map (·.2)).map eTu)) _ ⟨rfl, L'.map (·.2), rfl, by rw [← hk2]; exact hL'.map _⟩ (E1.step wO) (w1.trans wO.fz) (.lst upd_same (RpA.ofTups fun p hp => wO.fz _ _ (hk3 p (hL'.mem_iff.mp hp))))
end
end Uw
end
section
set_option Elab.async false
set_option linter.all false
set_option maxRecDepth 100000
set_option maxHeartbeats 4000000
namespace Uw
open PySem PySem.Spec PyProof.Rows L2 Evl
/-! rows, tokens, rules: plain mathematics -/
theorem noT {p : Bool} {P : Prop} (q : p = true) (r : p = false := by rfl) : P := absurd (q.symm.trans r) Bool.noConfusion
theorem noF {p : Bool} {P : Prop} (q : p = false) (r : p = true := by rfl) : P := absurd (r.symm.trans q) Bool.noConfusion
section
variable {X : Cx} {k : Kw} {ds : EV} {c : Expr} {pos : Pos} {rest s t : List Stmt} {N : EV → Prop} {R : Ent → EV → Prop} {p : Bool}
theorem b_ifT (hc : XT (yX X) k c ds p) (h1 : XB X k s ds (fun ds' => XB X k rest ds' N R) R) (hp : p = true := by rfl) : XB X k (.If c s t pos :: rest) ds N R := b_if hc (fun _ => h1) (fun q => noF q hp)
theorem b_ifF (hc : XT (yX X) k c ds p) (h1 : XB X k t ds (fun ds' => XB X k rest ds' N R) R) (hp : p = false := by rfl) : XB X k (.If c s t pos :: rest) ds N R := b_if hc (fun q => noT q hp) (fun _ => h1)
theorem b_ifF0 (hc : XT (yX X) k c ds p) (h1 : XB X k rest ds N R) (hp : p = false := by rfl) : XB X k (.If c s [] pos :: rest) ds N R := b_if hc (fun q => noT q hp) (fun _ => b_nil h1)
theorem b_forD (I : Nat → EV → Prop) (j : Nat) {x : PySem.Str} {px : Pos} {it : Expr} {body : List Stmt} {lv : Nat} {l : List Dt} {d0 : Dt} (g : Good (yX X) k lv) (h : XD (yX X) k it ds d0) (kind : d0 = .lst l ∨ d0 = .tup l) (h0 : I 0 ds)
    (hs : ∀ (i : Nat) d ds1, l[i]? = some d → I i ds1 → XB X k body (ds1.set j (some (.d d))) (I (i + 1)) R) (hd : ∀ ds1, I l.length ds1 → XB X k rest ds1 N R)
    (nd : X.N.Nodup := by exact Good.nd (Y := yX _) (by assumption) ()) (hN : X.N[j]? = some x := by rfl) (hl : Loc X.env.scope x := by first | exact .inl rfl | exact .inr rfl) (hf : X.fn x = true ∨ X.env.scope.names.lookup x = some .local := by first | exact .inr rfl | exact .inl rfl)
    (a1 : ∀ x : Value, foldedSetIterable it X.env x = pure x := by intro _; rfl) (a2 : PassesOwn (model X.prog X.w) X.A X.env X.xe := by exact PassesOwn.never) : XB X k (.For (.Name x px) it body [] pos :: rest) ds N R :=
  b_forW I g kind (Po := fun ds' => ds' = ds) h.xx (fun ds' e => by rw [e]; exact h0) (fun i d ds1 hd1 hI => ⟨_, xg_name j nd hN hl hf, hs i d ds1 hd1 hI⟩) hd a1 a2
end
abbrev dI (n : Nat) : Dt := .int (n : Int)
inductive Row where
  | opn (l : Int) (s : Nat) | act (l : Int) (s : Nat) (w : PySem.Str) | cpy (l : Int) (s t : Nat) | drp (l : Int) (s : Nat) | tie (l : Int) (s t : Nat) | tst (l b : Int) (t : Nat) | jmp (l : Int) (t : Nat) | fin (l : Int)
def Row.l : Row → List Dt
  | .opn l s => [.str "open", .int l, dI s]
  | .act l s w => [.str "do", .int l, dI s, .str w]
  | .cpy l s t => [.str "copy", .int l, dI s, dI t]
  | .drp l s => [.str "drop", .int l, dI s]
  | .tie l s t => [.str "tie", .int l, dI s, dI t]
  | .tst l b t => [.str "test", .int l, .int b, dI t]
  | .jmp l t => [.str "jump", .int l, dI t]
  | .fin l => [.str "end", .int l]
def Row.e (r : Row) : Dt := .tup r.l
def Row.tag : Row → PySem.Str
  | .opn _ _ => "open"
  | .act _ _ _ => "do"
  | .cpy _ _ _ => "copy"
  | .drp _ _ => "drop"
  | .tie _ _ _ => "tie"
  | .tst _ _ _ => "test"
  | .jmp _ _ => "jump"
  | .fin _ => "end"
theorem row_tag (r : Row) : atI r.l 0 = some (.str r.tag) := by cases r <;> rfl
/-- slots below three, words short -/
def Row.ok : Row → Prop
  | .opn _ s | .drp _ s => s < 3
  | .act _ s w => s < 3 ∧ w.length ≤ 100 ∧ PyData.strOk w = true
  | .cpy _ s t | .tie _ s t => s < 3 ∧ t < 3
  | _ => True
inductive Tok where
  | a (h : Nat) | b (h g o : Nat) | c (h g o r : Nat)
deriving DecidableEq
def Tok.l : Tok → List Int
  | .a h => [(h : Int)]
  | .b h g o => [(h : Int), (g : Int), (o : Int)]
  | .c h g o r => [(h : Int), (g : Int), (o : Int), (r : Int)]
def Tok.e (t : Tok) : Dt := eTu t.l
theorem Tok.l_inj {s t : Tok} (h : s.l = t.l) : s = t := by
  cases s <;> cases t <;> simp [Tok.l] at h ⊢ <;> omega
theorem Tok.ne (t : Tok) : t.l ≠ [] := by cases t <;> simp [Tok.l]
def Tok.ok (m : Nat) : Tok → Prop
  | .a h => h < 8
  | .b h g o => h < 8 ∧ g < 8 ∧ (o = 1 ∨ o = 2)
  | .c h g o r => h < 8 ∧ g < 8 ∧ (o = 1 ∨ o = 2) ∧ r < m
structure Rule where
  texts : List PySem.Str
  rooms : List (List (Option Nat))
def oD : Option Nat → Dt
  | none => .non
  | some r => dI r
def Rule.e (rl : Rule) : Dt := .tup [.int 2, .lst (rl.texts.map .str), .lst (rl.rooms.map fun r => .lst (r.map oD))]
structure Rule.ok (rl : Rule) : Prop where
  pos : 0 < rl.rooms.length
  few : rl.rooms.length ≤ 3
  len : ∀ r ∈ rl.rooms, r.length = rl.texts.length
  rng : ∀ r ∈ rl.rooms, ∀ n, some n ∈ r → n < rl.rooms.length
def nextR (rl : Rule) (room : Nat) (w : PySem.Str) : Option Nat := if w ∈ rl.texts then (rl.rooms.getD room []).getD (ixOf w rl.texts) none else some room
theorem nextR_lt {rl : Rule} (ok : rl.ok) {room r : Nat} {w : PySem.Str} (hr : room < rl.rooms.length) (h : nextR rl room w = some r) : r < rl.rooms.length := by
  unfold nextR at h
  split at h
  · have e : rl.rooms.getD room [] = rl.rooms[room] := by rw [List.getD_eq_getElem?_getD, List.getElem?_eq_getElem hr]; rfl
    rw [e, List.getD_eq_getElem?_getD] at h
    cases q : (rl.rooms[room])[ixOf w rl.texts]? with
    | none => rw [q] at h; cases h
    | some z =>
      rw [q] at h
      have h' : z = some r := h
      subst h'
      exact ok.rng _ (List.getElem_mem hr) r (List.mem_of_getElem? q)
  · cases h; exact hr
def withS (h s : Nat) : Nat := h ||| 2 ^ s
def withoutS (h s : Nat) : Nat := (h ||| 2 ^ s) ^^^ 2 ^ s
def copyS (h s t : Nat) : Nat := if h.testBit t then withS h s else withoutS h s
theorem hasS_ok {h s : Nat} (hh : h < 8) (hs : s < 3) : decide (Builtin.bitAnd ((h : Int) / 2 ^ ((s : Int)).toNat) 1 = 1) = h.testBit s := by
  have : ∀ h < 8, ∀ s < 3, decide (Builtin.bitAnd (((h : Nat) : Int) / 2 ^ (((s : Nat) : Int)).toNat) 1 = 1) = Nat.testBit h s := by decide +kernel
  exact this h hh s hs
theorem withS_ok {h s : Nat} (hh : h < 8) (hs : s < 3) : Builtin.bitOr (h : Int) (1 * 2 ^ ((s : Int)).toNat) = (withS h s : Nat) := by
  have : ∀ h < 8, ∀ s < 3, Builtin.bitOr ((h : Nat) : Int) (1 * 2 ^ (((s : Nat) : Int)).toNat) = (withS h s : Nat) := by decide +kernel
  exact this h hh s hs
theorem withoutS_ok {h s : Nat} (hh : h < 8) (hs : s < 3) : Builtin.bitXor ((withS h s : Nat) : Int) (1 * 2 ^ ((s : Int)).toNat) = (withoutS h s : Nat) := by
  have : ∀ h < 8, ∀ s < 3, Builtin.bitXor ((withS h s : Nat) : Int) (1 * 2 ^ (((s : Nat) : Int)).toNat) = (withoutS h s : Nat) := by decide +kernel
  exact this h hh s hs
theorem withS_lt {h s : Nat} (hh : h < 8) (hs : s < 3) : withS h s < 8 := by
  have : ∀ h < 8, ∀ s < 3, withS h s < 8 := by decide
  exact this h hh s hs
theorem withoutS_lt {h s : Nat} (hh : h < 8) (hs : s < 3) : withoutS h s < 8 := by
  have : ∀ h < 8, ∀ s < 3, withoutS h s < 8 := by decide
  exact this h hh s hs
theorem copyS_lt {h s t : Nat} (hh : h < 8) (hs : s < 3) : copyS h s t < 8 := by
  unfold copyS
  split
  · exact withS_lt hh hs
  · exact withoutS_lt hh hs
def behS (r : Row) (h : Nat) : Nat := match r with
  | .cpy _ s t => copyS h s t
  | .opn _ s | .drp _ s => withoutS h s
  | _ => h
theorem behS_lt {r : Row} {h : Nat} (ok : r.ok) (hh : h < 8) : behS r h < 8 := by
  cases r <;> simp only [behS, Row.ok] at * <;> first | exact hh | exact withoutS_lt hh ok | exact copyS_lt hh ok.1
def textsR (r : Row) (h g : Nat) : List PySem.Str := match r with
  | .act _ s w => if h.testBit s then [("1." : PySem.Str) ++ w] else if g.testBit s then [("2." : PySem.Str) ++ w] else []
  | _ => []
def roomR (rl : Rule) (r : Row) (h g room : Nat) : Option Nat := match textsR r h g with
  | [] => some room
  | t :: _ => nextR rl room t
def behT (rl : Rule) (r : Row) (t : Tok) : Option Tok := match r, t with
  | .fin _, _ => none
  | r, .a h => some (.a (behS r h))
  | r, .b h g o => some (.b (behS r h) (behS r g) o)
  | r, .c h g o m => (roomR rl r h g m).map fun m' => .c (behS r h) (behS r g) o m'
theorem behT_ok {rl : Rule} (ok : rl.ok) {r : Row} (hr : r.ok) {t t' : Tok} (ht : t.ok rl.rooms.length) (h : behT rl r t = some t') : t'.ok rl.rooms.length := by
  have key : ∀ r : Row, r.ok → (match t with | .a h => some (Tok.a (behS r h)) | .b h g o => some (.b (behS r h) (behS r g) o) | .c h g o m => (roomR rl r h g m).map fun m' => .c (behS r h) (behS r g) o m') = some t' → t'.ok rl.rooms.length := by
    intro r hr h
    cases t with
    | a h0 => cases h; exact behS_lt hr ht
    | b h0 g o => cases h; exact ⟨behS_lt hr ht.1, behS_lt hr ht.2.1, ht.2.2⟩
    | c h0 g o m =>
      have h' : (roomR rl r h0 g m).map (fun m' => Tok.c (behS r h0) (behS r g) o m') = some t' := h
      cases q : roomR rl r h0 g m with
      | none => rw [q] at h'; cases h'
      | some m' =>
        rw [q] at h'
        cases h'
        refine ⟨behS_lt hr ht.1, behS_lt hr ht.2.1, ht.2.2.1, ?_⟩
        unfold roomR at q
        split at q
        · cases q; exact ht.2.2.2
        · exact nextR_lt ok ht.2.2.2 q
  cases r with
  | fin l => simp [behT] at h
  | _ => exact key _ hr (by cases t <;> exact h)
/-- the tokens that a row begins, from this one (or from none) -/
def begO (s : Nat) (t : Option Tok) : List Tok := .a (withS 0 s) :: match t with
  | some (.a h) => [.b (withoutS h s) (withS 0 s) 1, .b (withS 0 s) (withoutS h s) 2]
  | _ => []
def begT (r : Row) (t : Option Tok) : List Tok := match r with
  | .opn _ s => begO s t
  | .tie _ s u => match t with
    | some (.b h g o) => if h.testBit s ∧ g.testBit u then [.c h g o 0] else []
    | _ => []
  | _ => []
theorem begT_ok {m : Nat} (hm : 0 < m) {r : Row} (hr : r.ok) {t : Option Tok} (ht : ∀ x, t = some x → x.ok m) : ∀ y ∈ begT r t, y.ok m := by
  intro y hy
  cases r with
  | opn l s =>
    have hs : s < 3 := hr
    have w0 : withS 0 s < 8 := withS_lt (by decide) hs
    simp only [begT, begO, List.mem_cons] at hy
    rcases hy with rfl | hy
    · exact w0
    · cases t with
      | none => cases hy
      | some x =>
        cases x with
        | a h =>
          have hh : h < 8 := ht _ rfl
          simp only [List.mem_cons, List.not_mem_nil, or_false] at hy
          rcases hy with rfl | rfl
          · exact ⟨withoutS_lt hh hs, w0, .inl rfl⟩
          · exact ⟨w0, withoutS_lt hh hs, .inr rfl⟩
        | b _ _ _ => cases hy
        | c _ _ _ _ => cases hy
  | tie l s u =>
    cases t with
    | none => cases hy
    | some x =>
      cases x with
      | a _ => cases hy
      | c _ _ _ _ => cases hy
      | b h g o =>
        simp only [begT] at hy
        split at hy
        · rw [List.mem_singleton.mp hy]
          have := ht _ rfl
          exact ⟨this.1, this.2.1, this.2.2, hm⟩
        · cases hy
  | _ => cases hy
/-- all that stands behind a row -/
def allB (rl : Rule) (r : Row) (t : Option Tok) : List (Option Tok) := match t with
  | none => none :: (begT r none).map some
  | some x => (begT r (some x)).map some ++ (match behT rl r x with | none => [] | some y => [some y])
def succs (r : Row) (at_ : Nat) : List Nat := match r with
  | .fin _ => []
  | .jmp _ t => [t]
  | .tst _ _ t => [at_ + 1, t]
  | _ => [at_ + 1]
theorem textsR_shape (r : Row) (h g : Nat) : textsR r h g = [] ∨ ∃ t, textsR r h g = [t] := by
  unfold textsR
  split
  · split
    · exact .inr ⟨_, rfl⟩
    · split
      · exact .inr ⟨_, rfl⟩
      · exact .inl rfl
  · exact .inl rfl
def Row.isFin : Row → Bool
  | .fin _ => true
  | _ => false
theorem tag_fin (r : Row) : eqD (.str r.tag) (.str "end") = r.isFin := by cases r <;> rfl
def tD : Option Tok → Dt
  | none => .non
  | some t => t.e
/-- lists of the numbers of tokens -/
theorem toks_back {ts : List Tok} : ∀ {l : List (List Int)}, (∀ x ∈ l, x ∈ ts.map Tok.l) → ∃ l' : List Tok, l = l'.map Tok.l ∧ ∀ y ∈ l', y ∈ ts
  | [], _ => ⟨[], rfl, fun _ h => nomatch h⟩
  | x :: l, h => by
    obtain ⟨l', e, m⟩ := toks_back (l := l) fun y hy => h y (List.mem_cons_of_mem _ hy)
    obtain ⟨t, ht, rfl⟩ := List.mem_map.mp (h x List.mem_cons_self)
    refine ⟨t :: l', by rw [e]; rfl, fun y hy => ?_⟩
    rcases List.mem_cons.mp hy with z | z
    · rw [z]; exact ht
    · exact m y z
theorem toks_same {ts : List Tok} {l : List (List Int)} (h : ∀ x, x ∈ l ↔ x ∈ ts.map Tok.l) : ∃ l' : List Tok, l = l'.map Tok.l ∧ ∀ y, y ∈ l' ↔ y ∈ ts := by
  obtain ⟨l', e, m⟩ := toks_back fun x hx => (h x).mp hx
  refine ⟨l', e, fun y => ⟨m y, fun hy => ?_⟩⟩
  have := (h y.l).mpr (List.mem_map_of_mem hy)
  rw [e] at this
  obtain ⟨z, hz, q⟩ := List.mem_map.mp this
  rw [← Tok.l_inj q]; exact hz
theorem eTu_map (ts : List Tok) : (ts.map Tok.l).map eTu = ts.map Tok.e := by rw [List.map_map]; rfl
end Uw
end
section
set_option Elab.async false
set_option linter.all false
set_option maxRecDepth 100000
set_option maxHeartbeats 4000000
namespace Uw
open PySem PySem.Spec PyProof.Rows L2 Evl
/-! data at any depth compared -/
def toPy : Nat → Dt → PyData
  | _, .non => .none
  | _, .bl b => .bool b
  | _, .int i => .int i
  | _, .str s => .str s
  | n + 1, .lst l => .list (l.map (toPy n))
  | n + 1, .tup l => .tuple (l.map (toPy n))
  | _, _ => .none
def okD : Nat → Dt → Bool
  | _, .non => true
  | _, .bl _ => true
  | _, .int _ => true
  | _, .str s => PyData.strOk s
  | n + 1, .lst l => l.all (okD n)
  | n + 1, .tup l => l.all (okD n)
  | _, _ => false
theorem canAll {l : List PyData} (h : ∀ d ∈ l, d.canLay0 = true) : PyData.canLayAll0 l = true := by
  induction l with
  | nil => rfl
  | cons x r ih => simp [PyData.canLayAll0, h x List.mem_cons_self, ih fun d hd => h d (List.mem_cons_of_mem _ hd)]
theorem depAll {l : List PyData} {n : Nat} (h : ∀ d ∈ l, d.depth ≤ n) : PyData.depthAll l ≤ n := by
  induction l with
  | nil => simp [PyData.depthAll]
  | cons x r ih =>
    simp only [PyData.depthAll]
    have h1 := h x List.mem_cons_self
    have h2 := ih fun d hd => h d (List.mem_cons_of_mem _ hd)
    omega
theorem okD_lay : ∀ (n : Nat) (d : Dt), okD n d = true → (toPy n d).canLay0 = true ∧ (toPy n d).depth ≤ n
  | n, .non, _ => by cases n <;> simp [toPy, PyData.canLay0, PyData.depth]
  | n, .bl b, _ => by cases n <;> simp [toPy, PyData.canLay0, PyData.depth]
  | n, .int i, _ => by cases n <;> simp [toPy, PyData.canLay0, PyData.depth]
  | n, .str s, h => by cases n <;> simp [toPy, PyData.canLay0, PyData.depth, okD] at h ⊢ <;> exact h
  | 0, .lst l, h => by simp [okD] at h
  | 0, .tup l, h => by simp [okD] at h
  | 0, .dct l, h => by simp [okD] at h
  | 0, .scr l, h => by simp [okD] at h
  | n + 1, .dct l, h => by simp [okD] at h
  | n + 1, .scr l, h => by simp [okD] at h
  | n + 1, .lst l, h => by
    have h' : ∀ d ∈ l, okD n d = true := by simpa [okD] using h
    refine ⟨?_, ?_⟩
    · show PyData.canLayAll0 (l.map (toPy n)) = true
      refine canAll fun d hd => ?_
      obtain ⟨e, he, rfl⟩ := List.mem_map.mp hd
      exact (okD_lay n e (h' e he)).1
    · have := depAll (l := l.map (toPy n)) (n := n) fun d hd => by
        obtain ⟨e, he, rfl⟩ := List.mem_map.mp hd
        exact (okD_lay n e (h' e he)).2
      simp only [toPy, PyData.depth]
      omega
  | n + 1, .tup l, h => by
    have h' : ∀ d ∈ l, okD n d = true := by simpa [okD] using h
    refine ⟨?_, ?_⟩
    · show PyData.canLayAll0 (l.map (toPy n)) = true
      refine canAll fun d hd => ?_
      obtain ⟨e, he, rfl⟩ := List.mem_map.mp hd
      exact (okD_lay n e (h' e he)).1
    · have := depAll (l := l.map (toPy n)) (n := n) fun d hd => by
        obtain ⟨e, he, rfl⟩ := List.mem_map.mp hd
        exact (okD_lay n e (h' e he)).2
      simp only [toPy, PyData.depth]
      omega
theorem okD_dp {k : Kw} {H : Hp} : ∀ (n : Nat), (∀ (v : V) (d : Dt), Rp k H v d → okD n d = true → Dp k.K H v (toPy n d)) ∧ ∀ (vs : List V) (l : List Dt), RpA k H vs l → l.all (okD n) = true → DpAll k.K H vs (l.map (toPy n))
  | 0 => by
    have one : ∀ (v : V) (d : Dt), Rp k H v d → okD 0 d = true → Dp k.K H v (toPy 0 d) := fun v d r h => by
      cases r <;> first | exact .non | exact .bl _ | exact .int _ | exact .str _ | (simp [okD] at h; done)
    refine ⟨one, fun vs l r h => ?_⟩
    induction vs generalizing l with
    | nil => cases r; exact .nil
    | cons v vs ih =>
      cases r with
      | cons r1 r2 =>
        rw [List.all_cons, Bool.and_eq_true] at h
        exact .cons (one _ _ r1 h.1) (ih _ r2 h.2)
  | n + 1 => by
    obtain ⟨h1, h2⟩ := okD_dp (k := k) (H := H) n
    have one : ∀ (v : V) (d : Dt), Rp k H v d → okD (n + 1) d = true → Dp k.K H v (toPy (n + 1) d) := fun v d r h => by
      cases r with
      | non => exact .non
      | bl b => exact .bl _
      | int i => exact .int _
      | str s => exact .str _
      | lst r1 r2 => exact .lst (sq_of r1) (h2 _ _ r2 h)
      | tup r1 r2 => exact .tup (st_of r1) (h2 _ _ r2 h)
      | dct _ _ => simp [okD] at h
      | scr _ => simp [okD] at h
    refine ⟨one, fun vs l r h => ?_⟩
    induction vs generalizing l with
    | nil => cases r; exact .nil
    | cons v vs ih =>
      cases r with
      | cons r1 r2 =>
        rw [List.all_cons, Bool.and_eq_true] at h
        exact .cons (one _ _ r1 h.1) (ih _ r2 h.2)
theorem shaped_ok {n : Nat} {d : Dt} (h : okD n d = true) (hn : n ≤ 64) : SeqAt.shaped (toPy n d) = true := by
  obtain ⟨h1, h2⟩ := okD_lay n d h
  unfold SeqAt.shaped
  rw [h1]
  simp
  omega
section
variable {ι : Type} {Y : ι → Cx} {k : Kw} {lv : Nat} {ds : EV} {e a b c : Expr} {pos : Pos}
theorem q_neD (g : Good Y k lv) (n : Nat) {da db : Dt} (ha : XD Y k a ds da) (hb : XD Y k b ds db) (h1 : okD n da = true) (h2 : okD n db = true) (hn : n ≤ 64) (hm : behindInMarks .NotEq b = false := by exact nomark _) : XC Y k a .NotEq b ds (!(toPy n da).eqv (toPy n db)) :=
  q_op2 (r := rNeD k.K) ha hb (fun i => by have z := op_neD (hc64 g i); rw [g.eK i] at z; exact z) hm fun H x y r1 r2 =>
    ⟨.bl _, .bl _, fun H' ex Q q => ⟨_, _, (okD_dp n).1 _ _ (r1.mono ex) h1, (okD_dp n).1 _ _ (r2.mono ex) h2, shaped_ok h1 hn, shaped_ok h2 hn, q⟩⟩
theorem ne_self {n : Nat} {d : Dt} (h : okD n d = true) : (!(toPy n d).eqv (toPy n d)) = false := by
  rw [SeqAt.eqv_refl _ (okD_lay n d h).1]; rfl
/-- xs != [], xs a list that changes -/
theorem xx_neNil {X : Cx} {rest : List Stmt} (g : Good (yX X) k lv) (n m : Nat) {x : PySem.Str} {p p2 : Pos} {own : Bool} {l : List Dt} (hx : ds[n]? = some (some (.m own (mL k l)))) (ho : l.all (okD m) = true) (hn : m ≤ 63) (hN : X.N[n]? = some x := by rfl) (hv : Vis X.env.scope x := by first | exact .inl rfl | exact .inr (.inl rfl) | exact .inr (.inr rfl))
    (h1 : (x == ("__debug__" : PySem.Str)) = false := by decide) (h2 : (x == ("__classdict__" : PySem.Str)) = false := by decide) :
    XT (yX X) k (.Compare (.Name x p) [.NotEq] [.List [] p2] pos) ds (!l.isEmpty) := by
  refine ⟨tTest (tOp (rNeD k.K) (tVar n) (tLst tNil)), fun _ => pt_cmpR (by have z := op_neD (X := X) (hc64 g ()); rw [show X.K = k.K from g.eK ()] at z; exact z) (tE_slot hN hv h1 h2) (pe_lst pa_nil) (nomark _), fun M G0 G σ H0 H E Q q => ?_⟩
  obtain ⟨a0, xs, s1, s2, s3⟩ := E.getM hx
  refine ⟨_, s1, Nat.zero_le _, fun p hp => ?_⟩
  have w := wld_new (o := .lst []) E.wld.in_ hp
  have hd : Dp k.K (upd H p (.lst [])) (.ref a0) (.list (l.map (toPy m))) := .lst (sq_of (by rw [upd_ne (ne_of_none s2 hp)]; exact s2)) ((okD_dp m).2 _ _ (s3.mono (E.wld.in_.trans (Ex.new hp))) ho)
  refine ⟨_, _, hd, .lst (sq_of upd_same) .nil, shaped_ok (n := m + 1) (d := .lst l) ho (by omega), rfl, _, rfl, ?_⟩
  have e : (!(PyData.list (l.map (toPy m))).eqv (.list [])) = !l.isEmpty := by
    cases l with
    | nil => simp [PyData.eqv, PyData.eqvAll]
    | cons x r => simp [PyData.eqv, PyData.eqvAll]
  rw [e]
  exact q _ _ (E.step w) w
end
end Uw
end
section
set_option Elab.async false
set_option linter.all false
set_option maxRecDepth 100000
set_option maxHeartbeats 4000000
namespace Uw
open PySem PySem.Spec PyProof.Rows L2 Evl
def tT {ι : Type} (Y : ι → Cx) (e : Expr) : TT := fun σ H Q => ∃ tt, (∀ i, PT (Y i) e tt) ∧ tt σ H Q
theorem pt_tT {ι : Type} {Y : ι → Cx} {e : Expr} (i : ι) : PT (Y i) e (tT Y e) := ⟨fun pins s σ H Q I ⟨te, h, q⟩ => (h i).run pins s σ H Q I q⟩
theorem XT.top {ι : Type} {Y : ι → Cx} {k : Kw} {e : Expr} {ds : EV} {b : Bool} (h : XT Y k e ds b) : EPT k (tT Y e) ds b := by
  obtain ⟨te, p, ee⟩ := h
  exact fun M G0 G σ H0 H E Q q => ⟨te, p, ee M G0 G σ H0 H E Q q⟩
/-! a list of dicts of tokens, that change -/
def mKn (k : Kw) (K : List (List TK)) : Mut where
  at_ v H0 H fp := ∃ (p : Addr) (as : List (Addr × List KA)), v = .ref p ∧ fp = p :: as.map (·.1) ∧ (p :: as.map (·.1)).Nodup ∧ H p = some (.lst (as.map fun x => .ref x.1)) ∧ as.map (fun x => x.2.map (·.1)) = K ∧
    ∀ x ∈ as, H x.1 = some (DNO k.P k.w x.1 x.2) ∧ (x.1 == sysModules) = false ∧ (x.2.map (·.1)).Nodup ∧ ∀ y ∈ x.2, KeyH H0 y
  keep := by
    rintro v H0 H H0' H' fp ⟨p, as, rfl, rfl, h1, h2, h3, h4⟩ e kp
    refine ⟨p, as, rfl, rfl, h1, by rw [kp p List.mem_cons_self]; exact h2, h3, fun x hx => ?_⟩
    obtain ⟨g1, g2, g3, g4⟩ := h4 x hx
    exact ⟨by rw [kp x.1 (List.mem_cons_of_mem _ (List.mem_map_of_mem hx))]; exact g1, g2, g3, fun y hy => (g4 y hy).mono e⟩
def keyD : Option (List Int) → Dt
  | none => .non
  | some ns => eTu ns
theorem key_v {k : Kw} {H : Hp} {v : V} {t : TK} (r : Rp k H v (keyD t)) : KeyV k.K H t v ∧ KeyH H (t, adK t v) := by
  cases t with
  | none => cases r; exact ⟨rfl, fun ns h => nomatch h⟩
  | some ns =>
    cases r
    rename_i a xs r1 r2
    have := r2.ints
    subst this
    exact ⟨⟨a, rfl, st_of r1⟩, fun ns' h => by cases h; exact r1⟩
theorem keyV_mono {k : Kw} {H H' : Hp} {v : V} {t : TK} (e : Ex H H') (r : KeyV k.K H t v) : KeyV k.K H' t v := by
  cases t with
  | none => exact r
  | some ns => obtain ⟨b, h1, h2⟩ := r; exact ⟨b, h1, ex_t e h2⟩
section
variable {k : Kw} {M : List Addr × V} {G0 G H0 H H0' H' : Hp} {σ : L2.St} {ds : EV}
theorem Env.getKn (E : Env k M G0 G σ H0 H ds) {n : Nat} {own : Bool} {K : List (List TK)} (hx : ds[n]? = some (some (.m own (mKn k K)))) {i : Nat} {ks : List TK} (hi : K[i]? = some ks) :
    ∃ (p : Addr) (as : List (Addr × List KA)) (x : Addr × List KA), σ[n]? = some (some (.ref p)) ∧ H p = some (.lst (as.map fun x => .ref x.1)) ∧ as[i]? = some x ∧ x.2.map (·.1) = ks ∧ as.length = K.length ∧ DicN k.P k.w k.K H x.1 x.2 := by
  obtain ⟨F, f, _⟩ := E.ent
  obtain ⟨v, h1, ⟨p, as, rfl, _, _, h2, h3, h4⟩, _⟩ := f n _ hx
  have h5 := hi
  rw [← h3, List.getElem?_map] at h5
  cases q : as[i]? with
  | none => rw [q] at h5; cases h5
  | some x =>
    rw [q] at h5
    cases h5
    obtain ⟨g1, g2, g3, g4⟩ := h4 x (List.mem_of_getElem? q)
    exact ⟨p, as, x, h1, h2, q, rfl, by rw [← h3, List.length_map], ⟨g1, g2, g3, fun y hy => ((g4 y hy).mono E.wld.in_).at_⟩⟩
theorem nodup_ne {α : Type} {f : α → Addr} : ∀ {as : List α}, (as.map f).Nodup → ∀ {i j : Nat} {x y : α}, as[i]? = some x → as[j]? = some y → i ≠ j → f x ≠ f y
  | [], _, i, _, _, _, h, _, _ => by simp at h
  | a :: as, h, i, j, x, y, hi, hj, hn => by
    rw [List.map_cons, List.nodup_cons] at h
    cases i with
    | zero =>
      cases j with
      | zero => exact absurd rfl hn
      | succ j => cases hi; intro e; exact h.1 (by rw [e]; exact List.mem_map_of_mem (List.mem_of_getElem? hj))
    | succ i =>
      cases j with
      | zero => cases hj; intro e; exact h.1 (by rw [← e]; exact List.mem_map_of_mem (List.mem_of_getElem? hi))
      | succ j => exact nodup_ne h.2 hi hj fun e => hn (by rw [e])
theorem Env.mutKn (E : Env k M G0 G σ H0 H ds) {n : Nat} {own : Bool} {K : List (List TK)} (hx : ds[n]? = some (some (.m own (mKn k K)))) {i : Nat} {ks : List TK} (hi : K[i]? = some ks) {t : TK} {v : V} (r : Rp k H0 v (keyD t)) (hn : t ∉ ks) {p a : Addr} {refs : List V}
    (hp : σ[n]? = some (some (.ref p))) (ha : H p = some (.lst refs)) (hxi : refs[i]? = some (.ref a)) :
    ∃ xs, DicN k.P k.w k.K H a xs ∧ xs.map (·.1) = ks ∧ Env k M G0 G σ H0 (upd H a (DNO k.P k.w a (xs ++ [(t, adK t v)]))) (ds.set n (some (.m own (mKn k (K.set i (ks ++ [t])))))) := by
  obtain ⟨v', fp, h1, ⟨p', as, rfl, rfl, hnd, h2, h3, h4⟩, hf, hk⟩ := E.call (H0' := H0) (H' := H) hx
  rw [hp] at h1
  cases h1
  rw [ha] at h2
  have e3 : refs = as.map fun x => V.ref x.1 := by
    have z := Option.some.inj h2
    injection z
  subst e3
  rw [List.getElem?_map] at hxi
  cases q : as[i]? with
  | none => rw [q] at hxi; cases hxi
  | some x =>
    rw [q] at hxi
    cases hxi
    have hm : x ∈ as := List.mem_of_getElem? q
    obtain ⟨g1, g2, g3, g4⟩ := h4 x hm
    have e6 : x.2.map (·.1) = ks := by
      have z := hi
      rw [← h3, List.getElem?_map, q] at z
      exact Option.some.inj z
    have hin : x.1 ∈ p :: as.map (·.1) := List.mem_cons_of_mem _ (List.mem_map_of_mem hm)
    have h0 : H0 x.1 = none := (hf x.1 hin).1
    refine ⟨x.2, ⟨g1, g2, g3, fun y hy => ((g4 y hy).mono E.wld.in_).at_⟩, e6, ?_⟩
    have hpx : p ≠ x.1 := by
      rw [List.nodup_cons] at hnd
      exact fun e => hnd.1 (by rw [e]; exact List.mem_map_of_mem hm)
    have hw : Wld (p :: as.map (·.1)) H0 H H0 (upd H x.1 (DNO k.P k.w x.1 (x.2 ++ [(t, adK t v)]))) := ⟨Ex.refl _, fun b o e => by rw [upd_ne (ne_of_none e h0)]; exact E.wld.in_ b o e,
      fun b o nb e => by rw [upd_ne (fun z => nb (by rw [z]; exact hin))]; exact e, fun b hb => .inl hb, fun b hb => by
        by_cases z : b = x.1
        · rw [z, upd_same]; exact fun z => nomatch z
        · rw [upd_ne z]; exact hb⟩
    have sm : ∀ y, y ∈ as.set i (x.1, x.2 ++ [(t, adK t v)]) → (y = (x.1, x.2 ++ [(t, adK t v)])) ∨ (y ∈ as ∧ y.1 ≠ x.1) := fun y hy => by
      obtain ⟨j, hj⟩ := List.mem_iff_getElem?.mp hy
      by_cases z : i = j
      · subst z
        rw [List.getElem?_set] at hj
        split at hj
        · split at hj
          · cases hj; exact .inl rfl
          · cases hj
        · exact absurd rfl ‹_›
      · rw [List.getElem?_set_ne z] at hj
        rw [List.nodup_cons] at hnd
        exact .inr ⟨List.mem_of_getElem? hj, nodup_ne hnd.2 hj q fun e => z e.symm⟩
    have e1 : (as.set i (x.1, x.2 ++ [(t, adK t v)])).map (·.1) = as.map (·.1) := by
      apply List.ext_getElem?
      intro j
      rw [List.getElem?_map, List.getElem?_map]
      by_cases z : i = j
      · subst z
        rw [List.getElem?_set, q]
        simp [(List.getElem?_eq_some_iff.mp q).1]
      · rw [List.getElem?_set_ne z]
    refine hk H0 _ (mKn k (K.set i (ks ++ [t]))) (p :: as.map (·.1)) hw ⟨p, as.set i (x.1, x.2 ++ [(t, adK t v)]), rfl, by rw [e1], by rw [e1]; exact hnd, ?_, ?_, fun y hy => ?_⟩ fun b hb => ⟨(hf b hb).1, .inl hb, hw.tr b (hf b hb).2⟩
    · rw [upd_ne hpx, ha]
      have e2 : (as.set i (x.1, x.2 ++ [(t, adK t v)])).map (fun x => V.ref x.1) = as.map fun x => V.ref x.1 := by
        have z := congrArg (List.map V.ref) e1
        rw [List.map_map, List.map_map] at z
        exact z
      rw [e2]
    · rw [← h3]
      rw [List.map_set, List.map_append]
      show List.set _ i (x.2.map (·.1) ++ [t]) = _
      rw [e6]
    · rcases sm y hy with rfl | ⟨hy1, hy2⟩
      · refine ⟨upd_same, g2, ?_, fun z hz => ?_⟩
        · show ((x.2 ++ [(t, adK t v)]).map (·.1)).Nodup
          rw [List.map_append, e6, List.nodup_append]
          exact ⟨by rw [← e6]; exact g3, by simp, fun y hy z hz e => hn (by
            have hz' : z = t := by simpa using hz
            rw [← hz', ← e]; exact hy)⟩
        · rcases List.mem_append.mp hz with w | w
          · exact g4 z w
          · rw [List.mem_singleton.mp w]; exact (key_v r).2
      · obtain ⟨k1, k2, k3, k4⟩ := h4 y hy1
        exact ⟨by rw [upd_ne hy2]; exact k1, k2, k3, k4⟩
end
section
variable {X : Cx} {k : Kw} {lv : Nat} {ds : EV} {e a b c ie ke : Expr} {pos : Pos} {rest : List Stmt} {N : EV → Prop} {R : Ent → EV → Prop}
/-- known[i][t] = True -/
theorem b_setKn (g : Good (yX X) k lv) (n : Nat) {x : PySem.Str} {p p2 p3 p4 : Pos} {j0 : Nat} {own : Bool} {K : List (List TK)} {i : Nat} {ks : List TK} {t : TK} (hx : ds[n]? = some (some (.m own (mKn k K)))) (hi : K[i]? = some ks) (hie : XD (yX X) k ie ds (.int (i : Int))) (hke : XD (yX X) k ke ds (keyD t)) (hn : t ∉ ks) (hz : ks.length < 100000)
    (m : XB X k rest (ds.set n (some (.m own (mKn k (K.set i (ks ++ [t])))))) N R) (hN : X.N[n]? = some x := by rfl) (hv : Vis X.env.scope x := by first | exact .inl rfl | exact .inr (.inl rfl) | exact .inr (.inr rfl)) (h1 : (x == ("__debug__" : PySem.Str)) = false := by decide) (h2 : (x == ("__classdict__" : PySem.Str)) = false := by decide)
    (hp : PlainIx ie := by exact fun _ _ => rfl)
    (a1 : ∀ v : Value, assign (.Subscript (.Subscript (.Name x p) ie p3) ke p2) X.env v = (do let ov ← holding [v] (eval (.Subscript (.Name x p) ie p3) X.env); let iv ← holding [v, ov] (eval ke X.env); standAt p2; holding [v, ov, iv] (setItem ov iv v); release [v, ov, iv] []) := by intro v; rfl)
    (a2 : swapsWithSole [.Subscript (.Subscript (.Name x p) ie p3) ke p2] (.Constant (.bool true) j0 p4) pos.line X.env = pure false := by rfl) (a3 : swappedStores [.Subscript (.Subscript (.Name x p) ie p3) ke p2] (.Constant (.bool true) j0 p4) X.env = pure none := by rfl)
    (a4 : (assignEach [.Subscript (.Subscript (.Name x p) ie p3) ke p2] X.env).map (fun x => x.2) = [assign (.Subscript (.Subscript (.Name x p) ie p3) ke p2) X.env] := by rfl) :
    XB X k (.Assign [.Subscript (.Subscript (.Name x p) ie p3) ke p2] (.Constant (.bool true) j0 p4) pos :: rest) ds N R := by
  obtain ⟨ti, pi, ei⟩ := hie
  obtain ⟨tk, pk, ek⟩ := hke
  have hset : PSet X (rSetN k.P k.w k.K) := by
    have z := set_dN (X := X) (by have := hc64 g (); show X.A.units + 1 < cLine; have z : X.A.units + 64 < cLine := this; omega)
    rw [show X.K = k.K from g.eK (), show X.prog = k.P from g.eP (), show X.w = k.w from g.ew ()] at z
    exact z
  refine b_st (t := tAsg (tC (.bl true)) (gSub (tOp (rIxL k.K) (tVar n) ti) tk (rSetN k.P k.w k.K))) (ps_asg pe_bl (pg_sub (by have z := pe_ix (X := X) (pos := p3) ix_list (tE_slot (p := p) hN hv h1 h2) (pi ()) hp; rw [show X.K = k.K from g.eK ()] at z; exact z) (pk ()) hset a1) a2 a3 a4) fun M G0 G σ H0 H D E nx r => ?_
  obtain ⟨q, as0, x0, s1, s2, s3, s4, s5, s6⟩ := E.getKn hx hi
  refine ⟨_, s1, ei M G0 G σ H0 H E _ fun y H1 H1' E1 w1 r1 => ?_⟩
  cases r1
  have hq1 : H1' q = some (.lst (as0.map fun x => V.ref x.1)) := w1.kp _ _ (by simp) s2
  have hr : (as0.map fun x => V.ref x.1)[i]? = some (.ref x0.1) := by rw [List.getElem?_map, s3]; rfl
  refine ⟨q, _, i, _, rfl, rfl, sq_of hq1, atI_nat hr, ?_⟩
  refine ek M G0 G σ H1 H1' E1 _ fun y2 H2 H2' E2 w2 r2 => ?_
  have hq2 : H2' q = some (.lst (as0.map fun x => V.ref x.1)) := w2.kp _ _ (by simp) hq1
  obtain ⟨xs, d1, d2, d3⟩ := E2.mutKn hx hi r2 hn s1 hq2 hr
  refine ⟨x0.1, xs, t, rfl, rfl, d1, keyV_mono E2.wld.in_ (key_v r2).1, by rw [d2]; exact hn, sz_lt (by rw [← List.length_map (f := (·.1)), d2]; exact hz), fun b eb _ => ?_⟩
  subst eb
  exact nx σ H2 _ _ m d3 (w1.trans w2).fz
/-- t not in known[i] -/
theorem q_niKn (g : Good (yX X) k lv) (n : Nat) {x : PySem.Str} {p p3 : Pos} {own : Bool} {K : List (List TK)} {i : Nat} {ks : List TK} {t : TK} (hx : ds[n]? = some (some (.m own (mKn k K)))) (hi : K[i]? = some ks) (hie : XD (yX X) k ie ds (.int (i : Int))) (hke : XD (yX X) k ke ds (keyD t))
    (hN : X.N[n]? = some x := by rfl) (hv : Vis X.env.scope x := by first | exact .inl rfl | exact .inr (.inl rfl) | exact .inr (.inr rfl)) (h1 : (x == ("__debug__" : PySem.Str)) = false := by decide) (h2 : (x == ("__classdict__" : PySem.Str)) = false := by decide)
    (hp : PlainIx ie := by exact fun _ _ => rfl) (hm : behindInMarks .NotIn (.Subscript (.Name x p) ie p3) = false := by rfl) : XC (yX X) k ke .NotIn (.Subscript (.Name x p) ie p3) ds (!decide (t ∈ ks)) := by
  obtain ⟨ti, pi, ei⟩ := hie
  obtain ⟨tk, pk, ek⟩ := hke
  have hO : OpR X (compareOp .NotIn) (rInN k.P k.w k.K true) := by
    have z := op_notInN (X := X) (by have z : X.A.units + 64 < cLine := hc64 g (); omega)
    rw [show X.K = k.K from g.eK (), show X.prog = k.P from g.eP (), show X.w = k.w from g.ew ()] at z
    exact z
  refine ⟨rInN k.P k.w k.K true, tk, tOp (rIxL k.K) (tVar n) ti, fun _ => ⟨hO, pk (), by have z := pe_ix (X := X) (pos := p3) ix_list (tE_slot (p := p) hN hv h1 h2) (pi ()) hp; rw [show X.K = k.K from g.eK ()] at z; exact z⟩, hm, fun M G0 G σ H0 H E Q q => ?_⟩
  refine ek M G0 G σ H0 H E _ fun y1 H1 H1' E1 w1 r1 => ?_
  obtain ⟨pp, as0, x0, s1, s2, s3, s4, s5, s6⟩ := E1.getKn hx hi
  refine ⟨_, s1, ei M G0 G σ H1 H1' E1 _ fun y H2 H2' E2 w2 r2 => ?_⟩
  cases r2
  have hq1 : H2' pp = some (.lst (as0.map fun x => V.ref x.1)) := w2.kp _ _ (by simp) s2
  have hr : (as0.map fun x => V.ref x.1)[i]? = some (.ref x0.1) := by rw [List.getElem?_map, s3]; rfl
  refine ⟨pp, _, i, _, rfl, rfl, sq_of hq1, atI_nat hr, ?_⟩
  have ex : Ex H1' H2' := fun a o h => w2.kp a o (by simp) h
  refine ⟨x0.1, x0.2, t, rfl, dicN_mono ex s6, keyV_mono (E2.wld.in_) (keyV_mono w2.fz (key_v r1).1), ?_⟩
  rw [if_pos rfl, s4]
  exact q _ _ _ E2 (w1.trans w2) (.bl _)
/-- x.pop(), x a list that changes -/
theorem xx_pop (g : Good (yX X) k lv) (n : Nat) {x : PySem.Str} {p p2 p3 : Pos} {own : Bool} {l : List Dt} {d : Dt} (hx : ds[n]? = some (some (.m own (mL k (l ++ [d]))))) (hN : X.N[n]? = some x := by rfl) (hv : Vis X.env.scope x := by first | exact .inl rfl | exact .inr (.inl rfl) | exact .inr (.inr rfl))
    (h1 : (x == ("__debug__" : PySem.Str)) = false := by decide) (h2 : (x == ("__classdict__" : PySem.Str)) = false := by decide)
    (a1 : attributeBase (.Name x p) "pop" X.env (eval (.Name x p) X.env) = eval (.Name x p) X.env := by rfl) (a3 : (p2.endLine == p3.line) = true := by rfl) :
    XX (yX X) k (.Call (.Attribute (.Name x p) "pop" p2) [] [] p3) ds (fun d' ds' => d' = d ∧ ds' = ds.set n (some (.m own (mL k l)))) := by
  refine xx_of (te := tBM0 k.K "list" rPop (tVar n)) (fun _ => by have z := pe_bm0 (X := X) PySem.F.plainAttrs_list PySem.F.slot_list_pop PySem.F.type_list_pop mt_pop (tE_slot (p := p) hN hv h1 h2) a1 a3; rw [show X.K = k.K from g.eK ()] at z; exact z) fun M G0 G σ H0 H E Q q => ?_
  obtain ⟨a0, xs, s1, s2, s3⟩ := E.getM hx
  have hl : xs.length = l.length + 1 := by rw [s3.length]; simp
  obtain ⟨y, y1, y2⟩ := s3.get (i := l.length) (d := d) (by simp)
  refine ⟨_, s1, .inl ⟨rfl, _, sq_of s2⟩, a0, xs, y, rfl, rfl, s2, by rw [hl]; exact y1, ?_⟩
  have hd : RpA k H0 xs.dropLast l := by
    have z := s3.take l.length
    rw [List.take_left] at z
    rw [List.dropLast_eq_take, hl]
    exact z
  exact q y H0 _ d _ ⟨rfl, rfl⟩ (E.mutL hx s1 hd) (Ex.refl _) y2
/-- while, its test of any form -/
theorem b_whileT (I : Nat → EV → Prop) (m0 : Nat) {body : List Stmt} (h0 : I m0 ds)
    (hs : ∀ m ds1, I m ds1 → ∃ p, XT (yX X) k c ds1 p ∧ (p = true → XB X k body ds1 (fun ds2 => ∃ m', m' < m ∧ I m' ds2) R) ∧ (p = false → XB X k rest ds1 N R))
    (a2 : PassesOwn (model X.prog X.w) X.A X.env X.xe := by exact PassesOwn.never) : XB X k (.While c body [] pos :: rest) ds N R := by
  refine b_st (ps_while a2 (pt_tT (Y := yX X) ()) (ps_tB (sts := body))) fun M G0 G σ H0 H D E nx r => ?_
  refine ⟨fun m σ' H' => ∃ ds1 H0', I m ds1 ∧ Env k M G0 G σ' H0' H' ds1 ∧ Ex H0 H0', ⟨m0, ds, H0, h0, E, Ex.refl _⟩, ?_⟩
  rintro m σ' H' ⟨ds1, H1, hI, E1, e1⟩
  obtain ⟨p, hc, h1, h2⟩ := hs m ds1 hI
  refine hc.top M G0 G σ' H1 H' E1 _ fun H2 H2' E2 e2 => ?_
  cases p with
  | true =>
    refine ⟨fun σ2 H3 => ∃ m', m' < m ∧ ∃ ds3 H3', I m' ds3 ∧ Env k M G0 G σ2 H3' H3 ds3 ∧ Ex H0 H3', fun σ2 H3 ⟨m', hm, x⟩ => ⟨m', hm, x⟩, ?_⟩
    exact h1 rfl M G0 G σ' H2 H2' _ E2 (fun σ3 H3 H3' ds3 ⟨m', hm, hI'⟩ E3 e3 => ⟨m', hm, ds3, H3, hI', E3, (e1.trans e2.fz).trans e3⟩) r
  | false => exact nx σ' H2 H2' _ (h2 rfl) E2 (e1.trans e2.fz)
end
end Uw
end
section
set_option Elab.async false
set_option linter.all false
set_option maxRecDepth 100000
set_option maxHeartbeats 4000000
namespace Uw
open PySem PySem.Spec PyProof.Rows L2 Evl
section
variable {X : Cx} {k : Kw} {lv : Nat} {ds : EV} {e a b c ie ke : Expr} {pos spos : Pos} {rest : List Stmt} {N : EV → Prop} {R : Ent → EV → Prop}
variable {px py : Pos} {it : Expr} {scope : Scope} {l : List Dt}
def KnP (k : Kw) (A' : Hp) (Dl : Addr) (i : Nat) (H : Hp) : Prop := ∃ as : List Addr, as.length = i ∧ (Dl :: as).Nodup ∧ H Dl = some (.lst (as.map .ref)) ∧ (∀ x ∈ as, H x = some (DNO k.P k.w x []) ∧ (x == sysModules) = false ∧ A' x = none) ∧ ∀ b, b ≠ Dl → b ∉ as → H b = A' b
/-- y = [{} for x in xs] -/
theorem b_newKn (n : Nat) {y : PySem.Str} (x : PySem.Str) (j : Nat) (N0 : List PySem.Str) (sc0 : Scope) {pd : Pos} (g : Good (yX X) k lv) (h : XD (yX X) k it ds (.lst l)) (hl : l.length ≤ 50000) (m : XB X k rest (ds.set n (some (.m true (mKn k (List.replicate l.length []))))) N R)
    (nd : N0.Nodup := by decide +kernel) (ok : blkC N0 sc0 scope [(x, j)] = true := by decide +kernel) (eN : X.N = N0 := by rfl) (es : X.env.scope = sc0 := by rfl) (hx : N0[j]? = some x := by rfl)
    (hloc : ∀ q, Loc (bk (yX X) scope q).env.scope x := by intro _; first | exact .inl rfl | exact .inr rfl) (hfn : ∀ q, (bk (yX X) scope q).fn x = true ∨ (bk (yX X) scope q).env.scope.names.lookup x = some .local := by intro _; first | exact .inr rfl | exact .inl rfl)
    (hf : ∀ v : Value, foldedSetIterable it X.env v = pure v := by intro _; rfl) (hy : N0[n]? = some y := by rfl) (hyl : sc0.names.lookup y = some .local := by rfl)
    (hsw : swapsWith (.ListComp (.Dict [] [] pd) [⟨.Name x px, it, [], 0⟩] scope pos) (some (.Name y py)) spos.line X.env = pure true := by exact sw_true rfl rfl rfl (by decide +kernel)) : XB X k (.Assign [.Name y py] (.ListComp (.Dict [] [] pd) [⟨.Name x px, it, [], 0⟩] scope pos) spos :: rest) ds N R := by
  have tg : ∀ q : Unit × BI, PG (bk (yX X) scope q) (.Name x px) (gName j) := fun q => pg_name (by show X.N.Nodup; rw [eN]; exact nd) (by show X.N[j]? = _; rw [eN]; exact hx) (hloc q) (hfn q)
  have ok' : BlkOk X.N X.env.scope scope [(x, j)] := by rw [eN, es]; exact blkOk_by ok
  obtain ⟨ti, pi, ei⟩ := h
  have hpi : PI X (.Name x px) it (iList k.K ti) := by have z := pi_list (tg := .Name x px) (pi ()); rw [show (yX X ()).K = k.K from g.eK ()] at z; exact z
  refine b_st (ps_setLc (i := n) (own := [(x, j)]) (te := tDNewN k.P k.w) (tt := tYes) (g.ec ()) (by rw [eN]; exact nd) (by rw [eN]; exact hy) (by rw [es]; exact hyl) hsw hpi ok' (fun s H C cl fp => tg ((), s, H, C, cl, fp)) (fun s H C cl fp => pts_nil) (fun s H C cl fp => ?_) hf) fun M G0 G σ H0 H D E nx r => ?_
  · have z := pe_dnewN (X := bk (yX X) scope ((), s, H, C, cl, fp)) (pos := pd)
    rw [show (bk (yX X) scope ((), s, H, C, cl, fp)).prog = k.P from g.eP (), show (bk (yX X) scope ((), s, H, C, cl, fp)).w = k.w from g.ew ()] at z
    exact z
  refine ei M G0 G σ H0 H E _ fun v A A' EA w1 r1 => ?_
  cases r1
  rename_i aa xs r1 r2
  have hA := EA.wld.in_ _ _ r1
  refine ⟨aa, rfl, ⟨xs, sq_of hA⟩, fun Dl hD => ?_⟩
  refine lc_list (K := k.K) (xs := xs) (KnP k A' Dl) ⟨[], rfl, by simp, upd_same, fun x h => absurd h List.not_mem_nil, fun b hb _ => upd_ne hb⟩ ?_ ?_ ?_
  · rintro i H' _ ⟨as, _, _, _, h4, h5⟩
    refine sq_of ?_
    rw [h5 aa (ne_of_none hA hD) fun z => by rw [(h4 aa z).2.2] at hA; cases hA]
    exact hA
  · rintro i y H' hy ⟨as, h1, h2, h3, h4, h5⟩
    refine ⟨wipe_set, ?_⟩
    show (if true = true then tDNewN k.P k.w (List.set (wipe σ [j]) j (some y)) H' (fun y H4 => ∃ acc, H4 Dl = some (.lst acc) ∧ acc.length < sizeLine ∧ KnP k A' Dl (i + 1) (upd H4 Dl (.lst (acc ++ [y])))) else KnP k A' Dl (i + 1) H')
    rw [if_pos rfl]
    intro p hp hs
    have hpD : p ≠ Dl := fun z => by rw [z, h3] at hp; cases hp
    have hpa : p ∉ as := fun z => by rw [(h4 p z).1] at hp; cases hp
    refine ⟨as.map .ref, by rw [upd_ne (fun z => hpD z.symm)]; exact h3, sz_lt (by rw [List.length_map, h1]; have := (List.getElem?_eq_some_iff.mp hy).1; rw [r2.length] at this; omega), as ++ [p], by simp [h1], ?_, ?_, fun x hx => ?_, fun b hb hb2 => ?_⟩
    · rw [List.nodup_cons] at h2 ⊢
      refine ⟨fun z => ?_, ?_⟩
      · rcases List.mem_append.mp z with z | z
        · exact h2.1 z
        · exact hpD (List.mem_singleton.mp z).symm
      · rw [List.nodup_append]
        exact ⟨h2.2, by simp, fun y hy z hz e => hpa (by
          have hz' : z = p := by simpa using hz
          rw [← hz', ← e]; exact hy)⟩
    · rw [upd_same, List.map_append]; rfl
    · rw [List.nodup_cons] at h2
      rcases List.mem_append.mp hx with z | z
      · obtain ⟨k1, k2, k3⟩ := h4 x z
        refine ⟨?_, k2, k3⟩
        rw [upd_ne (fun e => h2.1 (by rw [← e]; exact z)), upd_ne (fun e => hpa (by rw [← e]; exact z))]
        exact k1
      · have e : x = p := by simpa using z
        subst e
        refine ⟨?_, hs, ?_⟩
        · rw [upd_ne hpD, upd_same]
        · rw [← h5 x hpD hpa]; exact hp
    · have hbp : b ≠ p := fun e => hb2 (by rw [e]; simp)
      rw [upd_ne hb, upd_ne hbp]
      exact h5 b hb fun z => hb2 (List.mem_append_left _ z)
  · rintro H' ⟨as, h1, h2, h3, h4, h5⟩
    have hDA : A' Dl = none := hD
    refine nx _ A H' _ m (EA.setM (fp := Dl :: as) (fun b hb => ?_) (fun b hb => ?_) ⟨Dl, as.map fun x => (x, []), rfl, by rw [List.map_map]; show _ = Dl :: as.map id; rw [List.map_id], by rw [List.map_map]; show (Dl :: as.map id).Nodup; rw [List.map_id]; exact h2, by rw [h3, List.map_map]; rfl, ?_, fun x hx => ?_⟩) w1.fz
    · simp only [List.mem_cons, not_or] at hb
      exact h5 b hb.1 hb.2
    · rcases List.mem_cons.mp hb with z | z
      · subst z; exact ⟨hDA, by rw [h3]; exact fun z => nomatch z⟩
      · obtain ⟨k1, k2, k3⟩ := h4 b z
        exact ⟨k3, by rw [k1]; exact fun z => nomatch z⟩
    · rw [List.map_map, ← r2.length, ← h1]
      exact List.ext_getElem? fun i => by
        rw [List.getElem?_map, List.getElem?_replicate]
        by_cases q : i < as.length
        · rw [if_pos q, List.getElem?_eq_getElem q]; rfl
        · rw [if_neg q, List.getElem?_eq_none (by omega)]; rfl
    · obtain ⟨z, hz, rfl⟩ := List.mem_map.mp hx
      obtain ⟨k1, k2, k3⟩ := h4 z hz
      exact ⟨k1, k2, List.nodup_nil, fun _ h => nomatch h⟩
/-- a list of dicts that won't change from here on -/
theorem b_frzKn (n : Nat) {sts : List Stmt} {K : List (List TK)} (h : ds[n]? = some (some (.m true (mKn k K)))) (m : XB X k sts (ds.set n (some (.d (.lst (K.map .dct))))) N R) : XB X k sts ds N R := fun M G0 G σ H0 H D E nx r => by
  obtain ⟨F, f1, f2, f3⟩ := E.ent
  obtain ⟨v, h1, ⟨p, as, rfl, hF, hnd, h2, h3, h4⟩, ho⟩ := f1 n _ h
  have hin : ∀ b, b ∈ F n → H0 b = none ∧ G b = none ∧ H b ≠ none := fun b hb => ⟨(f3 n b hb).1, ho rfl b hb, (f3 n b hb).2.2⟩
  have ne : ∀ j b, j ≠ n → b ∈ F j → b ∉ F n := fun j b hj hb e => hj (f2 j n b hb e)
  let H0' : Hp := fun b => if b ∈ F n then H b else H0 b
  have ex : Ex H0 H0' := fun b o e => by
    show (if b ∈ F n then H b else H0 b) = some o
    rw [if_neg (fun z => by rw [(hin b z).1] at e; cases e)]; exact e
  have ex2 : Ex H0' H := fun b o e => by
    have e' : (if b ∈ F n then H b else H0 b) = some o := e
    by_cases z : b ∈ F n
    · rw [if_pos z] at e'; exact e'
    · rw [if_neg z] at e'; exact E.wld.in_ b o e'
  have at_ : ∀ b, b ∈ F n → H0' b = H b := fun b hb => if_pos hb
  have E' : Env k M G0 G σ H0' H (ds.set n (some (.d (.lst (K.map .dct))))) := by
    refine ⟨⟨E.wld.fz.trans ex, ex2, E.wld.kp, fun b e => ?_, E.wld.tr⟩, by rw [List.length_set, E.len], pin_set0 E.pin (fun u z => nomatch z), fun j => if j = n then [] else F j, fun j e he => ?_, fun j l b ha hb => ?_, fun j b ha => ?_⟩
    · by_cases z : b ∈ F n
      · exact .inr (hin b z).2.1
      · have e' : (if b ∈ F n then H b else H0 b) ≠ none := e
        rw [if_neg z] at e'
        exact E.wld.nw b e'
    · by_cases q : n = j
      · subst q
        rw [List.getElem?_set] at he
        split at he
        · split at he
          · cases he
            refine ⟨_, h1, ?_⟩
            have hp : p ∈ F n := by rw [hF]; exact List.mem_cons_self
            refine .lst (by rw [at_ p hp]; exact h2) ?_
            rw [← h3]
            have key : ∀ (as' : List (Addr × List KA)), (∀ x ∈ as', x ∈ as) → RpA k H0' (as'.map fun x => V.ref x.1) ((as'.map fun x => x.2.map (·.1)).map Dt.dct) := by
              intro as'
              induction as' with
              | nil => intro _; exact .nil
              | cons x r ih =>
                intro hs
                refine .cons ?_ (ih fun y hy => hs y (List.mem_cons_of_mem _ hy))
                have hx := hs x List.mem_cons_self
                obtain ⟨g1, g2, g3, g4⟩ := h4 x hx
                have hx2 : x.1 ∈ F n := by rw [hF]; exact List.mem_cons_of_mem _ (List.mem_map_of_mem hx)
                exact .dct ⟨by rw [at_ _ hx2]; exact g1, g2, g3, fun y hy => ((g4 y hy).mono ex).at_⟩ fun y hy => (g4 y hy).mono ex
            exact key as fun _ h => h
          · cases he
        · exact absurd rfl ‹_›
      · rw [List.getElem?_set_ne q] at he
        obtain ⟨v', g1, g2⟩ := f1 j e he
        refine ⟨v', g1, ?_⟩
        dsimp only
        rw [if_neg (show ¬ j = n from fun z => q z.symm)]
        cases e with
        | d x => exact Rp.mono ex g2
        | m own u' => exact ⟨u'.keep g2.1 ex fun b _ => rfl, g2.2⟩
    · dsimp only at ha hb
      split at ha
      · cases ha
      · split at hb
        · cases hb
        · exact f2 _ _ b ha hb
    · dsimp only at ha
      split at ha
      · cases ha
      · have z := ne j b ‹_› ha
        exact ⟨by show (if b ∈ F n then H b else H0 b) = none; rw [if_neg z]; exact (f3 j b ha).1, (f3 j b ha).2⟩
  exact m M G0 G σ H0' H D E' (fun σ' H1 H' ds' q E1 e1 => nx σ' H1 H' ds' q E1 (ex.trans e1)) r
end
/-! outcomes of several kinds, nothing changed -/
def EPR (k : Kw) (te : TE) (ds : EV) (P : Dt → Prop) : Prop := ∀ M G0 G σ H0 H, Env k M G0 G σ H0 H ds → ∀ Q : VK, (∀ v H0' H' d, P d → Env k M G0 G σ H0' H' ds → Wld [] H0 H H0' H' → Rp k H0' v d → Q v H') → te σ H Q
section
variable {ι : Type} {Y : ι → Cx} {k : Kw} {lv : Nat} {ds : EV} {e a b c : Expr} {pos : Pos}
def XR {ι : Type} (Y : ι → Cx) (k : Kw) (e : Expr) (ds : EV) (P : Dt → Prop) : Prop := EPR k (tE Y e) ds P
theorem XR.xx {P : Dt → Prop} (h : XR Y k e ds P) : XX Y k e ds (fun d ds' => P d ∧ ds' = ds) := fun M G0 G σ H0 H E Q q => h M G0 G σ H0 H E Q fun v H0' H' d p E' w r => q v H0' H' d ds ⟨p, rfl⟩ E' w.fz r
theorem xr_of {te : TE} {P : Dt → Prop} (p : ∀ i, PE (Y i) e te) (h : EPR k te ds P) : XR Y k e ds P := fun M G0 G σ H0 H E Q q => ⟨te, p, h M G0 G σ H0 H E Q q⟩
theorem XD.xr {d : Dt} (h : XD Y k e ds d) : XR Y k e ds (fun d' => d' = d) := fun M G0 G σ H0 H E Q q => h.top M G0 G σ H0 H E Q fun v H0' H' E' w r => q v H0' H' d rfl E' w r
/-- sorted(e), e a list of tuples of ints -/
theorem xr_sortTu (g : Good Y k lv) {l : List (List Int)} {p3 : Pos} (h1 : k.mg "sorted" = none) (h : XD Y k a ds (.lst (l.map eTu))) (hne : ∀ t ∈ l, t ≠ []) (hg1 : ∀ i, Gl (Y i) "sorted" := by intro _; rfl)
    (he : ∀ i, starEach [a] (Y i).env = (false, eval a (Y i).env) :: starEach [] (Y i).env := by intro _; rfl) (hpl : ∀ i, ((backTo pos (starEach [] (Y i).env)).any fun x => x.1) = false := by intro _; rfl) :
    XR Y k (.Call (.Name "sorted" p3) [a] [] pos) ds (fun d => ∃ l' : List (List Int), d = .lst (l'.map eTu) ∧ l'.Perm l) := by
  refine xr_of (te := tCB (rSortTu k.K) (tCons (tE Y a) tNil)) (fun i => ?_) fun M G0 G σ H0 H E Q q => ?_
  · have z2 := cr_sortTu (X := Y i) (hc64 g i)
    rw [g.eK i] at z2
    exact pe_callB z2 (hg1 i) (by rw [g.em i]; exact h1) (by decide +kernel) (pa_cons (pe_tE i) pa_nil (he i)) (by decide) (by decide) (he i) (hpl i)
  · refine h.top M G0 G σ H0 H E _ fun v H1 H1' E1 w1 r1 => ?_
    cases r1
    rename_i aa xs r1 r2
    obtain ⟨ks, rfl, hk2, hk3⟩ := r2.tups
    have hin := E1.wld.in_
    refine ⟨aa, ks, rfl, sq_of (hin _ _ r1), fun p hp => ⟨hne _ (by rw [← hk2]; exact List.mem_map_of_mem hp), st_of (hin _ _ (hk3 p hp))⟩, fun L' o hL' ho => ?_⟩
    have wO := wld_new (o := .lst (L'.map fun q => V.ref q.1)) hin ho
    refine q _ _ _ (.lst ((L'.map (·.2)).map eTu)) ⟨L'.map (·.2), rfl, by rw [← hk2]; exact hL'.map _⟩ (E1.step wO) (w1.trans wO) (.lst upd_same (RpA.ofTups fun p hp => wO.fz _ _ (hk3 p (hL'.mem_iff.mp hp))))
/-- [e for x in xs], e of several outcomes -/
def LcR (k : Kw) (P : Nat → Dt → Prop) (A A' : Hp) (Dl : Addr) (i : Nat) (H : Hp) : Prop := ∃ H0 acc l', Wld [] A A' H0 H ∧ H0 Dl = none ∧ H Dl = some (.lst acc) ∧ RpA k H0 acc l' ∧ l'.length = i ∧ ∀ (j : Nat) y, l'[j]? = some y → P j y
theorem xr_lc (x : PySem.Str) (j : Nat) (N0 : List PySem.Str) (sc0 : Scope) {px : Pos} {elt it : Expr} {scope : Scope} {l : List Dt} (g : Good Y k lv) (P : Nat → Dt → Prop) (h : XD Y k it ds (.lst l)) (hl : l.length ≤ 50000) (ht : ∀ (i : Nat) d, l[i]? = some d → XR (bk Y scope) k elt ((ds.set j none).set j (some (.d d))) (P i))
    (nd : N0.Nodup := by decide +kernel) (ok : blkC N0 sc0 scope [(x, j)] = true := by decide +kernel) (eN : ∀ i, (Y i).N = N0 := by intro _; rfl) (es : ∀ i, (Y i).env.scope = sc0 := by intro _; rfl) (hx : N0[j]? = some x := by rfl)
    (hloc : ∀ q, Loc (bk Y scope q).env.scope x := by intro _; first | exact .inl rfl | exact .inr rfl) (hfn : ∀ q, (bk Y scope q).fn x = true ∨ (bk Y scope q).env.scope.names.lookup x = some .local := by intro _; first | exact .inr rfl | exact .inl rfl)
    (hf : ∀ i, ∀ v : Value, foldedSetIterable it (Y i).env v = pure v := by intro _ _; rfl) : XR Y k (.ListComp elt [⟨.Name x px, it, [], 0⟩] scope pos) ds (fun d => ∃ l', d = .lst l' ∧ l'.length = l.length ∧ ∀ (j : Nat) y, l'[j]? = some y → P j y) := by
  have tg : ∀ q : ι × BI, PG (bk Y scope q) (.Name x px) (gName j) := fun q => pg_name (by show (Y q.1).N.Nodup; rw [eN]; exact nd) (by show (Y q.1).N[j]? = _; rw [eN]; exact hx) (hloc q) (hfn q)
  have ok' : ∀ i, BlkOk (Y i).N (Y i).env.scope scope [(x, j)] := fun i => by rw [eN, es]; exact blkOk_by ok
  obtain ⟨ti, pi, ei⟩ := h
  refine xr_of (te := tLc (iList k.K ti) (gName j) tYes (tE (bk Y scope) elt) [j]) (fun i => pe_lc (own := [(x, j)]) (g.ec i) (by rw [eN]; exact nd) (by have z := pi_list (tg := .Name x px) (pi i); rw [g.eK i] at z; exact z) (ok' i) (fun s H C cl fp => tg (i, s, H, C, cl, fp)) (fun s H C cl fp => pts_nil) (fun s H C cl fp => pe_tE (Y := bk Y scope) (i, s, H, C, cl, fp)) (hf i)) fun M G0 G σ H0 H E Q q => ?_
  refine ei M G0 G σ H0 H E _ fun v A A' EA w1 r1 => ?_
  cases r1
  rename_i aa xs r1 r2
  refine ⟨_, rfl, ⟨xs, sq_of (EA.wld.in_ _ _ r1)⟩, fun Dl hD => ?_⟩
  have d0 : A Dl = none := fresh_back EA.wld.in_ hD
  have En : Env k M G0 G (wipe σ [j]) A A' (ds.set j none) := EA.setN
  refine lc_list (K := k.K) (xs := xs) (LcR k P A A' Dl) ⟨A, [], [], wld_mut (Wld.refl EA.wld.in_) hD d0, d0, upd_same, .nil, rfl, fun j y h => by simp at h⟩ ?_ ?_ ?_
  · rintro i H' _ ⟨H2, acc, l', w2, _⟩
    exact sq_of (w2.kp _ _ (by simp) (EA.wld.in_ _ _ r1))
  · rintro i y H' hy ⟨H2, acc, l', w2, h2, h3, h4, h5, h6⟩
    refine ⟨wipe_set, ?_⟩
    obtain ⟨d, hd1, hd2⟩ := r2.getV hy
    have E1 : Env k M G0 G (List.set (wipe σ [j]) j (some y)) H2 H' ((ds.set j none).set j (some (.d d))) := (En.step w2).setD (hd2.mono w2.fz)
    show tE (bk Y scope) elt _ H' _
    refine ht i d hd1 M G0 G _ H2 H' E1 _ fun z H3 H3' dz pz E3 w3 r3 => ?_
    obtain ⟨s1, s2⟩ := wld_stay w3 h2 h3
    have hi : i < l.length := (List.getElem?_eq_some_iff.mp hd1).1
    refine ⟨acc, s2, sz_lt (by rw [h4.length, h5]; omega), H3, acc ++ [z], l' ++ [dz], wld_mut (w2.trans w3) hD s1, s1, upd_same, (h4.mono w3.fz).app (.cons r3 .nil), by simp [h5], fun j y hj => ?_⟩
    by_cases q : j < l'.length
    · rw [List.getElem?_append_left q] at hj; exact h6 j y hj
    · rw [List.getElem?_append_right (by omega)] at hj
      have : j = i := by
        have := (List.getElem?_eq_some_iff.mp hj).1
        simp at this
        omega
      subst this
      rw [h5, Nat.sub_self] at hj
      cases hj
      exact pz
  · rintro H' ⟨H2, acc, l', w2, h2, h3, h4, h5, h6⟩
    have w3 := wld_frz w2 hD h2 h3
    exact q _ _ _ _ ⟨l', rfl, by rw [h5, r2.length], h6⟩ (EA.step w3) (w1.trans w3) (.lst upd_same (h4.mono (Ex.new h2)))
end
end Uw
end
section
set_option Elab.async false
set_option linter.all false
set_option maxRecDepth 100000
set_option maxHeartbeats 4000000
namespace Uw
open PySem PySem.Spec PyProof.Rows L2 Evl
section
variable {ι : Type} {Y : ι → Cx} {k : Kw} {lv : Nat} {ds : EV} {pos : Pos}
/-- the value of a key -/
def keyVal (y : KA) : V := match y.1 with
  | none => V.non
  | some _ => V.ref y.2
def keptV (xs : List KA) : List V := (xs.filter fun y => y.1.isSome).map keyVal
theorem keptV_take {xs : List KA} {i : Nat} {y : KA} (h : xs[i]? = some y) : keptV (xs.take (i + 1)) = if y.1.isSome then keptV (xs.take i) ++ [keyVal y] else keptV (xs.take i) := by
  rw [List.take_succ, h]
  unfold keptV
  rw [List.filter_append, List.map_append]
  cases q : y.1.isSome with
  | true => simp [q]
  | false => simp [q]
theorem keptV_rp {H : Hp} : ∀ {xs : List KA}, (∀ y ∈ xs, KeyH H y) → RpA k H (keptV xs) (((xs.map (·.1)).filterMap id).map eTu)
  | [], _ => .nil
  | y :: xs, h => by
    have ih := keptV_rp (xs := xs) fun z hz => h z (List.mem_cons_of_mem _ hz)
    obtain ⟨t, a⟩ := y
    cases t with
    | none => exact ih
    | some ns => exact .cons (.tup (h _ List.mem_cons_self ns rfl) RpA.ofInts) ih
theorem keptV_len (xs : List KA) : (keptV xs).length ≤ xs.length := by
  unfold keptV
  rw [List.length_map]
  exact List.length_filter_le _ _
theorem x_lcDict (x : PySem.Str) (j n : Nat) (N0 : List PySem.Str) (sc0 : Scope) {y : PySem.Str} {px py p1 p2 p3 p4 : Pos} {j1 : Nat} {scope : Scope} (g : Good Y k lv) {ks : List TK} (hx : ds[n]? = some (some (.d (.dct ks)))) (hl : ks.length ≤ 50000) (hlen : j < ds.length)
    (nd : N0.Nodup := by decide +kernel) (ok : blkC N0 sc0 scope [(x, j)] = true := by decide +kernel) (eN : ∀ i, (Y i).N = N0 := by intro _; rfl) (es : ∀ i, (Y i).env.scope = sc0 := by intro _; rfl) (hxj : N0[j]? = some x := by rfl) (hyn : N0[n]? = some y := by rfl)
    (hv : ∀ i, Vis (Y i).env.scope y := by intro _; first | exact .inl rfl | exact .inr (.inl rfl) | exact .inr (.inr rfl)) (hvx : ∀ q, Vis (bk Y scope q).env.scope x := by intro _; first | exact .inl rfl | exact .inr (.inl rfl) | exact .inr (.inr rfl))
    (h1 : (x == ("__debug__" : PySem.Str)) = false := by decide) (h2 : (x == ("__classdict__" : PySem.Str)) = false := by decide) (h3 : (y == ("__debug__" : PySem.Str)) = false := by decide) (h4 : (y == ("__classdict__" : PySem.Str)) = false := by decide)
    (hloc : ∀ q, Loc (bk Y scope q).env.scope x := by intro _; first | exact .inl rfl | exact .inr rfl) (hfn : ∀ q, (bk Y scope q).fn x = true ∨ (bk Y scope q).env.scope.names.lookup x = some .local := by intro _; first | exact .inr rfl | exact .inl rfl)
    (hf : ∀ i, ∀ v : Value, foldedSetIterable (.Name y py) (Y i).env v = pure v := by intro _ _; rfl) :
    XD Y k (.ListComp (.Name x p1) [⟨.Name x px, .Name y py, [.Compare (.Name x p2) [.IsNot] [.Constant .none j1 p3] p4], 0⟩] scope pos) ds (.lst ((ks.filterMap id).map eTu)) := by
  have ok' : ∀ i, BlkOk (Y i).N (Y i).env.scope scope [(x, j)] := fun i => by rw [eN, es]; exact blkOk_by ok
  have hNj : ∀ q : ι × BI, (bk Y scope q).N[j]? = some x := fun q => by show (Y q.1).N[j]? = _; rw [eN]; exact hxj
  have tg : ∀ q : ι × BI, PG (bk Y scope q) (.Name x px) (gName j) := fun q => pg_name (by show (Y q.1).N.Nodup; rw [eN]; exact nd) (hNj q) (hloc q) (hfn q)
  refine ⟨tLockE (tLc (iKeysN k.K k.P k.w (tVar n)) (gName j) (tTest (tOp (fun x y H Q => y = V.non ∧ Q (V.bl !decide (x = V.non)) H) (tVar j) (tC .non))) (tVar j) [j]), fun i => pe_lock (pe_lc (own := [(x, j)]) (g.ec i) (by rw [eN]; exact nd) ?_ (ok' i) (fun s H C cl fp => tg (i, s, H, C, cl, fp)) (fun s H C cl fp => pts_one (pt_cmpR op_notN (tE_slot (hNj (i, s, H, C, cl, fp)) (hvx (i, s, H, C, cl, fp)) h1 h2) pe_non (nomark _))) (fun s H C cl fp => tE_slot (hNj (i, s, H, C, cl, fp)) (hvx (i, s, H, C, cl, fp)) h1 h2) (hf i)), fun M G0 G σ H0 H E Q q => ?_⟩
  · have z := pi_keysN (X := Y i) (tg := .Name x px) (tE_slot (p := py) (by rw [eN]; exact hyn) (hv i) h3 h4)
    rw [g.eK i, g.eP i, g.ew i] at z
    exact z
  · obtain ⟨v, g1, g2⟩ := E.get hx
    cases g2
    rename_i d xs dn kh
    have hd : H d = some (DNO k.P k.w d xs) := E.wld.in_ _ _ dn.ob
    refine ⟨d, _, hd, trivial, fun od => ⟨_, g1, d, od, xs, rfl, dn.sys, upd_same, fun Dl hD => ?_⟩⟩
    have hDd : Dl ≠ d := fun e => by rw [e, upd_same] at hD; cases hD
    have hDH : H Dl = none := by rw [upd_ne hDd] at hD; exact hD
    have hj : j < σ.length := by rw [← E.len]; exact hlen
    let HL := upd H d (.frz od (DNO k.P k.w d xs))
    have xl : xs.length ≤ 50000 := by rw [List.length_map] at hl; exact hl
    refine ⟨fun i m H' => i ≤ xs.length ∧ m = xs.length - i ∧ H' = upd HL Dl (.lst (keptV (xs.take i))), ⟨xs.length, Nat.zero_le _, rfl, rfl⟩, ?_⟩
    rintro i m H' ⟨hi, rfl, rfl⟩
    have hfr : ∀ z, upd HL Dl z d = some (.frz od (DNO k.P k.w d xs)) := fun z => by rw [upd_ne (fun e => hDd e.symm)]; exact upd_same
    by_cases hs : i < xs.length
    · refine .inr ⟨⟨hfr _, hs⟩, fun H' => H' = upd HL Dl (.lst (keptV (xs.take (i + 1)))), fun H' e => ⟨xs.length - (i + 1), by omega, by omega, rfl, e⟩, ?_⟩
      rintro x0 H' ⟨rfl, y0, hy, rfl⟩
      refine ⟨wipe_set, keyVal y0, ?_, rfl, _, rfl, ?_⟩
      · rw [List.getElem?_set]
        simp [wipe_length, hj]
        rfl
      · have hk := keptV_take hy
        cases q0 : y0.1 with
        | none =>
          rw [q0] at hk
          have e1 : decide (keyVal y0 = V.non) = true := by simp [keyVal, q0]
          rw [e1]
          show upd HL Dl _ = _
          rw [hk]; rfl
        | some ns =>
          rw [q0] at hk
          have e1 : decide (keyVal y0 = V.non) = false := by simp [keyVal, q0]
          rw [e1]
          refine ⟨keyVal y0, ?_, keptV (xs.take i), upd_same, sz_lt (by have := keptV_len (xs.take i); rw [List.length_take] at this; omega), ?_⟩
          · rw [List.getElem?_set]
            simp [wipe_length, hj]
            rw [keyVal, q0]
          · rw [hk]
            funext b
            by_cases eb : b = Dl
            · rw [eb, upd_same, upd_same]; rfl
            · rw [upd_ne eb, upd_ne eb, upd_ne eb]
    · have hi' : i = xs.length := by omega
      subst hi'
      refine .inl ⟨⟨hfr _, Nat.le_refl _⟩, hfr _, ?_⟩
      have e2 : upd (upd HL Dl (.lst (keptV (xs.take xs.length)))) d (DNO k.P k.w d xs) = upd H Dl (.lst (keptV xs)) := by
        rw [List.take_length]
        funext b
        by_cases e1 : b = d
        · rw [e1, upd_same, upd_ne (fun e => hDd e.symm)]; exact hd.symm
        · rw [upd_ne e1]
          by_cases e3 : b = Dl
          · rw [e3, upd_same, upd_same]
          · rw [upd_ne e3, upd_ne e3]; exact upd_ne e1
      rw [e2]
      have w := wld_new (o := .lst (keptV xs)) E.wld.in_ hDH
      exact q _ _ _ (E.step w) w (.lst upd_same (keptV_rp fun y hy => (kh y hy).mono w.fz))
end
end Uw
end
section
set_option Elab.async false
set_option linter.all false
set_option maxRecDepth 100000
set_option maxHeartbeats 4000000
namespace Uw
open PySem PySem.Spec PyProof.Rows L2 Evl
/-! the paper: plain mathematics -/
abbrev OT := Option Tok
def tK (t : OT) : TK := t.map Tok.l
theorem tK_inj {s t : OT} (h : tK s = tK t) : s = t := by
  cases s <;> cases t <;> simp [tK] at h ⊢
  exact Tok.l_inj h
theorem mem_tK {t : OT} {ks : List OT} : tK t ∈ ks.map tK ↔ t ∈ ks := by
  constructor
  · intro h
    obtain ⟨s, hs, e⟩ := List.mem_map.mp h
    rw [← tK_inj e]; exact hs
  · exact fun h => List.mem_map_of_mem h
def At (K : List (List OT)) (i : Nat) (t : OT) : Prop := ∃ ks, K[i]? = some ks ∧ t ∈ ks
def total (K : List (List OT)) : Nat := (K.map List.length).sum
structure PInv (m L : Nat) (K : List (List OT)) : Prop where
  len : K.length = L
  nd : ∀ ks ∈ K, ks.Nodup
  okk : ∀ ks ∈ K, ∀ t, some t ∈ ks → t.ok m
theorem sub_len : ∀ {l U : List Nat}, l.Nodup → (∀ x ∈ l, x ∈ U) → l.length ≤ U.length
  | [], _, _, _ => Nat.zero_le _
  | x :: l, U, h, hs => by
    rw [List.nodup_cons] at h
    have hx : x ∈ U := hs x List.mem_cons_self
    have ih := sub_len (l := l) (U := U.erase x) h.2 fun y hy => (List.mem_erase_of_ne (fun e => h.1 (by rw [← e]; exact hy))).mpr (hs y (List.mem_cons_of_mem _ hy))
    rw [List.length_erase_of_mem hx] at ih
    have : 0 < U.length := List.length_pos_of_mem hx
    rw [List.length_cons]
    omega
def tN : OT → Nat
  | none => 0
  | some (.a h) => 1 + h
  | some (.b h g o) => 9 + h + 8 * g + 64 * (o - 1)
  | some (.c h g o r) => 137 + h + 8 * g + 64 * (o - 1) + 128 * r
theorem tN_lt {t : OT} (h : ∀ x, t = some x → x.ok 3) : tN t < 521 := by
  cases t with
  | none => decide
  | some x =>
    have := h x rfl
    cases x <;> simp only [Tok.ok] at this <;> simp only [tN] <;> omega
theorem tN_inj {s t : OT} (hs : ∀ x, s = some x → x.ok 3) (ht : ∀ x, t = some x → x.ok 3) (e : tN s = tN t) : s = t := by
  rcases s with _ | x <;> rcases t with _ | y
  · rfl
  · have h2 := ht y rfl
    cases y <;> simp only [Tok.ok] at h2 <;> simp only [tN] at e <;> omega
  · have h1 := hs x rfl
    cases x <;> simp only [Tok.ok] at h1 <;> simp only [tN] at e <;> omega
  · have h1 := hs x rfl
    have h2 := ht y rfl
    cases x <;> cases y <;> simp only [Tok.ok] at h1 h2 <;> simp only [tN] at e <;> simp only [Option.some.injEq, Tok.a.injEq, Tok.b.injEq, Tok.c.injEq, reduceCtorEq] <;> omega
theorem Tok.ok_mono {m n : Nat} (h : m ≤ n) {t : Tok} (ht : t.ok m) : t.ok n := by
  cases t <;> simp only [Tok.ok] at * <;> first | exact ht | omega
theorem nodup_map {α β : Type} {f : α → β} : ∀ {l : List α}, l.Nodup → (∀ x ∈ l, ∀ y ∈ l, f x = f y → x = y) → (l.map f).Nodup
  | [], _, _ => List.nodup_nil
  | x :: l, h, hi => by
    rw [List.nodup_cons] at h
    rw [List.map_cons, List.nodup_cons]
    refine ⟨fun z => ?_, nodup_map h.2 fun a ha b hb => hi a (List.mem_cons_of_mem _ ha) b (List.mem_cons_of_mem _ hb)⟩
    obtain ⟨y, hy, e⟩ := List.mem_map.mp z
    have := hi y (List.mem_cons_of_mem _ hy) x List.mem_cons_self e
    exact h.1 (by rw [← this]; exact hy)
theorem keys_len {m : Nat} (hm : m ≤ 3) {ks : List OT} (nd : ks.Nodup) (ok : ∀ t, some t ∈ ks → t.ok m) : ks.length ≤ 521 := by
  have o : ∀ t ∈ ks, ∀ x, t = some x → x.ok 3 := fun t ht x e => Tok.ok_mono hm (ok x (by rw [← e]; exact ht))
  have h := sub_len (l := ks.map tN) (U := List.range 521) (nodup_map nd fun x hx y hy e => tN_inj (o x hx) (o y hy) e) fun x hx => by
    obtain ⟨t, ht, rfl⟩ := List.mem_map.mp hx
    exact List.mem_range.mpr (tN_lt (o t ht))
  rwa [List.length_map, List.length_range] at h
theorem sum_le {c : Nat} : ∀ {l : List Nat}, (∀ x ∈ l, x ≤ c) → l.sum ≤ c * l.length
  | [], _ => Nat.zero_le _
  | x :: l, h => by
    have ih := sum_le (l := l) fun y hy => h y (List.mem_cons_of_mem _ hy)
    have h1 := h x List.mem_cons_self
    rw [List.sum_cons, List.length_cons, Nat.mul_add, Nat.mul_one]
    omega
theorem PInv.total {m L : Nat} (hm : m ≤ 3) {K : List (List OT)} (p : PInv m L K) : total K ≤ 521 * L := by
  have h := sum_le (c := 521) (l := K.map List.length) fun x hx => by
    obtain ⟨ks, hk, rfl⟩ := List.mem_map.mp hx
    exact keys_len hm (p.nd ks hk) (p.okk ks hk)
  rw [List.length_map, p.len] at h
  exact h
section
variable {m L : Nat} {K : List (List OT)} {i : Nat} {ks : List OT} {t : OT}
theorem mem_set {α : Type} {l : List α} {i : Nat} {a b : α} (h : b ∈ l.set i a) : b = a ∨ b ∈ l := by
  obtain ⟨j, hj⟩ := List.mem_iff_getElem?.mp h
  by_cases z : i = j
  · subst z
    rw [List.getElem?_set] at hj
    split at hj
    · split at hj
      · cases hj; exact .inl rfl
      · cases hj
    · exact absurd rfl ‹_›
  · rw [List.getElem?_set_ne z] at hj
    exact .inr (List.mem_of_getElem? hj)
theorem PInv.add (p : PInv m L K) (hi : K[i]? = some ks) (hn : t ∉ ks) (ht : ∀ x, t = some x → x.ok m) : PInv m L (K.set i (ks ++ [t])) := by
  have hk := List.mem_of_getElem? hi
  refine ⟨by rw [List.length_set]; exact p.len, fun l hl => ?_, fun l hl x hx => ?_⟩
  · rcases mem_set hl with rfl | h
    · rw [List.nodup_append]
      exact ⟨p.nd _ hk, by simp, fun y hy z hz e => hn (by rw [← (List.mem_singleton.mp hz), ← e]; exact hy)⟩
    · exact p.nd _ h
  · rcases mem_set hl with rfl | h
    · rcases List.mem_append.mp hx with z | z
      · exact p.okk _ hk x z
      · exact ht x (List.mem_singleton.mp z).symm
    · exact p.okk _ h x hx
theorem at_add (hi : K[i]? = some ks) {j : Nat} {s : OT} : At (K.set i (ks ++ [t])) j s ↔ At K j s ∨ (j = i ∧ s = t) := by
  have hl : i < K.length := (List.getElem?_eq_some_iff.mp hi).1
  unfold At
  by_cases z : i = j
  · subst z
    rw [List.getElem?_set_self hl, hi]
    simp
  · rw [List.getElem?_set_ne z]
    constructor
    · exact fun h => .inl h
    · rintro (h | ⟨h, _⟩)
      · exact h
      · exact absurd h.symm z
theorem total_add : ∀ {K : List (List OT)} {i : Nat} {ks : List OT} {t : OT}, K[i]? = some ks → total (K.set i (ks ++ [t])) = total K + 1
  | [], _, _, _, h => by simp at h
  | k :: K, 0, ks, t, h => by
    cases h
    simp only [List.set_cons_zero, total, List.map_cons, List.sum_cons, List.length_append, List.length_cons, List.length_nil]
    omega
  | k :: K, i + 1, ks, t, h => by
    have ih := total_add (K := K) (i := i) (ks := ks) (t := t) h
    simp only [List.set_cons_succ, total, List.map_cons, List.sum_cons] at ih ⊢
    omega
end
abbrev WL := List (Nat × OT)
/-- within one turn, from K0 and W0 -/
structure PJ (m L : Nat) (K0 : List (List OT)) (W0 : WL) (K : List (List OT)) (W : WL) : Prop where
  inv : PInv m L K
  up : ∀ i t, At K0 i t → At K i t
  wk : ∀ x ∈ W, At K x.1 x.2
  old : ∀ x ∈ W0, x ∈ W
  new : ∀ i t, At K i t → At K0 i t ∨ (i, t) ∈ W
  ms : 2 * (521 * L - total K) + W.length ≤ 2 * (521 * L - total K0) + W0.length
  wl : W.length ≤ total K
theorem PJ.refl {m L : Nat} {K : List (List OT)} {W : WL} (p : PInv m L K) (w : ∀ x ∈ W, At K x.1 x.2) (hl : W.length ≤ total K) : PJ m L K W K W := ⟨p, fun _ _ h => h, w, fun _ h => h, fun _ _ h => .inl h, Nat.le_refl _, hl⟩
theorem PJ.add {m L : Nat} (hm : m ≤ 3) {K0 K : List (List OT)} {W0 W : WL} (p : PJ m L K0 W0 K W) {i : Nat} {ks : List OT} {t : OT} (hi : K[i]? = some ks) (hn : t ∉ ks) (ht : ∀ x, t = some x → x.ok m) : PJ m L K0 W0 (K.set i (ks ++ [t])) (W ++ [(i, t)]) := by
  have pi := p.inv.add hi hn ht
  have tl := pi.total hm
  rw [total_add hi] at tl
  refine ⟨pi, fun j s h => (at_add hi).mpr (.inl (p.up j s h)), fun x hx => ?_, fun x hx => List.mem_append_left _ (p.old x hx), fun j s h => ?_, ?_, by rw [total_add hi, List.length_append]; have := p.wl; simp only [List.length_cons, List.length_nil]; omega⟩
  · rcases List.mem_append.mp hx with z | z
    · exact (at_add hi).mpr (.inl (p.wk x z))
    · rw [List.mem_singleton.mp z]
      exact (at_add hi).mpr (.inr ⟨rfl, rfl⟩)
  · rcases (at_add hi).mp h with z | ⟨rfl, rfl⟩
    · rcases p.new j s z with y | y
      · exact .inl y
      · exact .inr (List.mem_append_left _ y)
    · exact .inr (List.mem_append_right _ (List.mem_singleton.mpr rfl))
  · rw [total_add hi, List.length_append]
    have := p.ms
    simp only [List.length_cons, List.length_nil]
    omega
structure CodeG (code : List Row) : Prop where
  pos : 0 < code.length
  few : code.length ≤ 150
  ok : ∀ r ∈ code, r.ok
  suc : ∀ i r, code[i]? = some r → ∀ j ∈ succs r i, j < code.length
def Cl (code : List Row) (rl : Rule) (K : List (List OT)) (i : Nat) (t : OT) : Prop := ∀ r, code[i]? = some r → ∀ y ∈ allB rl r t, ∀ j ∈ succs r i, At K j y
structure PW (code : List Row) (rl : Rule) (m : Nat) (K : List (List OT)) (W : WL) : Prop where
  inv : PInv m code.length K
  wk : ∀ x ∈ W, At K x.1 x.2
  root : At K 0 none
  cl : ∀ i t, At K i t → (i, t) ∈ W ∨ Cl code rl K i t
  wl : W.length ≤ total K
theorem PW.next {code : List Row} {rl : Rule} {m : Nat} {K0 K : List (List OT)} {W0 W : WL} {i : Nat} {t : OT} {r : Row} (p : PW code rl m K0 (W0 ++ [(i, t)])) (hr : code[i]? = some r) (j : PJ m code.length K0 W0 K W) (d : ∀ y ∈ allB rl r t, ∀ n ∈ succs r i, At K n y) : PW code rl m K W := by
  refine ⟨j.inv, j.wk, j.up _ _ p.root, fun a s h => ?_, j.wl⟩
  rcases j.new a s h with h | h
  · rcases p.cl a s h with z | z
    · rcases List.mem_append.mp z with z | z
      · exact .inl (j.old _ z)
      · have e := List.mem_singleton.mp z
        cases e
        refine .inr fun r' hr' => ?_
        rw [hr] at hr'
        cases hr'
        exact d
    · exact .inr fun r' hr' y hy n hn => j.up _ _ (z r' hr' y hy n hn)
  · exact .inl h
theorem tDs_inj : ∀ {a b : List OT}, a.map tD = b.map tD → a = b
  | [], [], _ => rfl
  | [], _ :: _, h => by cases h
  | _ :: _, [], h => by cases h
  | y :: a, z :: b, h => by
    rw [List.map_cons, List.map_cons] at h
    injection h with h1 h2
    rw [tDs_inj h2]
    have : y = z := by
      cases y with
      | none =>
        cases z with
        | none => rfl
        | some w => cases w <;> cases h1
      | some v =>
        cases z with
        | none => cases v <;> cases h1
        | some w =>
          have h3 : eTu v.l = eTu w.l := h1
          have h4 : v.l.map Dt.int = w.l.map Dt.int := by injection h3
          have h5 : v.l = w.l := by
            have := congrArg (List.map fun d : Dt => match d with | .int i => i | _ => 0) h4
            rw [List.map_map, List.map_map] at this
            have e : ((fun d : Dt => match d with | .int i => i | _ => 0) ∘ Dt.int) = id := rfl
            rwa [e, List.map_id, List.map_id] at this
          rw [Tok.l_inj h5]
    rw [this]
theorem dIs_inj {a b : List Nat} (h : a.map dI = b.map dI) : a = b := by
  have := congrArg (List.map fun d : Dt => match d with | .int i => i.toNat | _ => 0) h
  rw [List.map_map, List.map_map] at this
  have e : ((fun d : Dt => match d with | .int i => i.toNat | _ => 0) ∘ dI) = id := by funext n; simp [dI]
  rwa [e, List.map_id, List.map_id] at this
theorem allB_ok {rl : Rule} (ok : rl.ok) {r : Row} (hr : r.ok) {t : OT} (ht : ∀ x, t = some x → x.ok rl.rooms.length) : ∀ y ∈ allB rl r t, ∀ x, y = some x → x.ok rl.rooms.length := by
  rintro y hy x rfl
  cases t with
  | none =>
    simp only [allB, List.mem_cons, List.mem_map] at hy
    rcases hy with h | ⟨z, hz, e⟩
    · cases h
    · cases e
      exact begT_ok ok.pos hr (fun x h => by cases h) _ hz
  | some z =>
    simp only [allB, List.mem_append, List.mem_map] at hy
    rcases hy with ⟨w, hw, e⟩ | h
    · cases e
      exact begT_ok ok.pos hr (fun x h => by cases h; exact ht _ rfl) _ hw
    · cases q : behT rl r z with
      | none => rw [q] at h; cases h
      | some w =>
        rw [q] at h
        have := List.mem_singleton.mp h
        cases this
        exact behT_ok ok hr (ht _ rfl) q
end Uw
end
section
set_option Elab.async false
set_option linter.all false
set_option maxRecDepth 100000
set_option maxHeartbeats 4000000
namespace Uw
open PySem PySem.Spec PyProof.Rows L2 Evl
section
variable {k : Kw}
def F_next_room : List Dt → (Dt → Prop) → Prop := fun ds R => ∃ (rl : Rule) (room : Nat) (w : PySem.Str), ds = [rl.e, dI room, .str w] ∧ rl.ok ∧ room < rl.rooms.length ∧ R = fun d => d = oD (nextR rl room w)
theorem c_next_room (hd : Hd k) : CalK k 1 "next_room" (spP k F_next_room) := by
  refine defP (N := ["rule", "room", "word"]) (ps := ["rule", "room", "word"]) (st := s_next_room) (hd.def_ 0 0 59 rfl rfl rfl) (fun _ _ _ _ _ _ us hl => match us, hl with | [_, _, _], _ => rfl) (by decide +kernel) (fun ds R h => ?_) (fun f cdv A outer s H E g ds R h => ?_)
  · obtain ⟨rl, room, w, rfl, _⟩ := h; rfl
  · obtain ⟨rl, room, w, rfl, ok, hr, rfl⟩ := h
    refine b_if (t_c (q_niS g (x_name 2 rfl) (x_ixT g (x_name 0 rfl) x_int rfl))) (fun h => ?_) (fun h => ?_)
    · refine b_ret (x_name 1 rfl) ?_
      have hw : w ∉ rl.texts := fun z => by
        have : rl.texts.any (· == w) = true := List.any_eq_true.mpr ⟨w, z, by simp⟩
        rw [this] at h; cases h
      show _ = _
      rw [nextR, if_neg hw]; rfl
    refine b_nil ?_
    have hw : w ∈ rl.texts := by
      have h' : rl.texts.any (· == w) = true := by
        cases q : rl.texts.any (· == w) with
        | true => rfl
        | false => rw [q] at h; cases h
      obtain ⟨x, hx, e⟩ := List.any_eq_true.mp h'
      rw [← (beq_iff_eq.mp e)]; exact hx
    have hl : (rl.rooms[room]).length = rl.texts.length := ok.len _ (List.getElem_mem hr)
    have hi : ixOf w rl.texts < rl.texts.length := (List.getElem?_eq_some_iff.mp (ixOf_at hw).1).1
    refine b_ret (x_ixL (d := oD (nextR rl room w)) g (x_ixL (d := .lst ((rl.rooms[room]).map oD)) g (x_ixT g (x_name 0 rfl) x_int rfl) (x_name 1 rfl) ?_) (x_m_index g (x_ixT g (x_name 0 rfl) x_int rfl) (x_name 2 rfl) hw) ?_) rfl
    · exact atI_nat (by rw [List.getElem?_map, List.getElem?_eq_getElem hr]; rfl)
    · refine atI_nat ?_
      rw [List.getElem?_map, List.getElem?_eq_getElem (by rw [hl]; exact hi), nextR, if_pos hw]
      have e : rl.rooms.getD room [] = rl.rooms[room] := by rw [List.getD_eq_getElem?_getD, List.getElem?_eq_getElem hr]; rfl
      rw [e, List.getD_eq_getElem?_getD, List.getElem?_eq_getElem (by rw [hl]; exact hi)]; rfl
def F_has_slot : List Dt → (Dt → Prop) → Prop := fun ds R => ∃ h s : Nat, ds = [dI h, dI s] ∧ h < 8 ∧ s < 3 ∧ R = fun d => d = .bl (h.testBit s)
theorem c_has_slot (hd : Hd k) : CalK k 1 "has_slot" (spP k F_has_slot) := by
  refine defP (N := ["held", "slot"]) (ps := ["held", "slot"]) (st := s_has_slot) (hd.def_ 1 1 60 rfl rfl rfl) (fun _ _ _ _ _ _ us hl => match us, hl with | [_, _], _ => rfl) (by decide +kernel) (fun ds R h => ?_) (fun f cdv A outer s H E g ds R h => ?_)
  · obtain ⟨h, s, rfl, _⟩ := h; rfl
  · obtain ⟨h, s, rfl, hh, hs, rfl⟩ := h
    refine b_ret (x_c (q_eq (x_band (x_shr (x_name 0 rfl) (x_name 1 rfl) (by omega)) x_int) x_int rfl)) ?_
    exact congrArg Dt.bl (hasS_ok hh hs)
def F_with_slot : List Dt → (Dt → Prop) → Prop := fun ds R => ∃ h s : Nat, ds = [dI h, dI s] ∧ h < 8 ∧ s < 3 ∧ R = fun d => d = dI (withS h s)
theorem c_with_slot (hd : Hd k) : CalK k 1 "with_slot" (spP k F_with_slot) := by
  refine defP (N := ["held", "slot"]) (ps := ["held", "slot"]) (st := s_with_slot) (hd.def_ 2 2 61 rfl rfl rfl) (fun _ _ _ _ _ _ us hl => match us, hl with | [_, _], _ => rfl) (by decide +kernel) (fun ds R h => ?_) (fun f cdv A outer s H E g ds R h => ?_)
  · obtain ⟨h, s, rfl, _⟩ := h; rfl
  · obtain ⟨h, s, rfl, hh, hs, rfl⟩ := h
    refine b_ret (x_bor (x_name 0 rfl) (x_shl x_int (x_name 1 rfl) ⟨by omega, by omega, by decide⟩)) ?_
    exact congrArg Dt.int (withS_ok hh hs)
def F_without_slot : List Dt → (Dt → Prop) → Prop := fun ds R => ∃ h s : Nat, ds = [dI h, dI s] ∧ h < 8 ∧ s < 3 ∧ R = fun d => d = dI (withoutS h s)
theorem c_without_slot (hd : Hd k) : CalK k 2 "without_slot" (spP k F_without_slot) := by
  refine defP (N := ["held", "slot"]) (ps := ["held", "slot"]) (st := s_without_slot) (hd.def_ 3 3 62 rfl rfl rfl) (fun _ _ _ _ _ _ us hl => match us, hl with | [_, _], _ => rfl) (by decide +kernel) (fun ds R h => ?_) (fun f cdv A outer s H E g ds R h => ?_)
  · obtain ⟨h, s, rfl, _⟩ := h; rfl
  · obtain ⟨h, s, rfl, hh, hs, rfl⟩ := h
    refine b_ret (x_bxor (x_call g (c_with_slot hd) (by decide) (xa_cons (x_name 0 rfl) (xa_cons (x_name 1 rfl) xa_nil)) ⟨h, s, rfl, hh, hs, rfl⟩) (x_shl x_int (x_name 1 rfl) ⟨by omega, by omega, by decide⟩)) ?_
    exact congrArg Dt.int (withoutS_ok hh hs)
def F_sums_in : List Dt → (Dt → Prop) → Prop := fun ds R => ∃ t : Tok, ds = [.int 2, t.e] ∧ R = fun d => d = .int (match t with | .a _ => 1 | _ => 2)
theorem c_sums_in (hd : Hd k) : CalK k 1 "sums_in" (spP k F_sums_in) := by
  refine defP (N := ["sides", "token"]) (ps := ["sides", "token"]) (st := s_sums_in) (hd.def_ 4 4 63 rfl rfl rfl) (fun _ _ _ _ _ _ us hl => match us, hl with | [_, _], _ => rfl) (by decide +kernel) (fun ds R h => ?_) (fun f cdv A outer s H E g ds R h => ?_)
  · obtain ⟨t, rfl, _⟩ := h; rfl
  · obtain ⟨t, rfl, rfl⟩ := h
    cases t <;> (
      refine b_if (t_w (w_and (t_c (q_eq (x_name 0 rfl) x_int rfl)) fun _ => (w_and1 (t_c (q_gt (x_len g hd.len (x_name 1 rfl) rfl) x_int))))) (fun h => ?_) (fun h => ?_) <;> try (first | exact noT h | exact noF h))
    · exact b_nil (b_ret x_int rfl)
    · exact b_ret x_int rfl
    · exact b_ret x_int rfl
def F_has_room : List Dt → (Dt → Prop) → Prop := fun ds R => ∃ t : Tok, ds = [.int 2, t.e] ∧ R = fun d => d = .bl (match t with | .c _ _ _ _ => true | _ => false)
theorem c_has_room (hd : Hd k) : CalK k 1 "has_room" (spP k F_has_room) := by
  refine defP (N := ["sides", "token"]) (ps := ["sides", "token"]) (st := s_has_room) (hd.def_ 5 5 64 rfl rfl rfl) (fun _ _ _ _ _ _ us hl => match us, hl with | [_, _], _ => rfl) (by decide +kernel) (fun ds R h => ?_) (fun f cdv A outer s H E g ds R h => ?_)
  · obtain ⟨t, rfl, _⟩ := h; rfl
  · obtain ⟨t, rfl, rfl⟩ := h
    cases t <;> exact b_ret (x_or (x_c (q_eq (x_name 0 rfl) x_int rfl)) fun _ => (x_one (x_c (q_eq (x_len g hd.len (x_name 1 rfl) rfl) x_int rfl)))) rfl
def F_copied_slot : List Dt → (Dt → Prop) → Prop := fun ds R => ∃ h s t : Nat, ds = [dI h, dI s, dI t] ∧ h < 8 ∧ s < 3 ∧ t < 3 ∧ R = fun d => d = dI (copyS h s t)
theorem c_copied_slot (hd : Hd k) : CalK k 3 "copied_slot" (spP k F_copied_slot) := by
  refine defP (N := ["held", "slot", "source"]) (ps := ["held", "slot", "source"]) (st := s_copied_slot) (hd.def_ 6 6 65 rfl rfl rfl) (fun _ _ _ _ _ _ us hl => match us, hl with | [_, _, _], _ => rfl) (by decide +kernel) (fun ds R h => ?_) (fun f cdv A outer s H E g ds R h => ?_)
  · obtain ⟨h, s, t, rfl, _⟩ := h; rfl
  · obtain ⟨h, s, t, rfl, hh, hs, ht, rfl⟩ := h
    refine b_if (t_v (x_call g (c_has_slot hd) (by decide) (xa_cons (x_name 0 rfl) (xa_cons (x_name 2 rfl) xa_nil)) ⟨h, t, rfl, hh, ht, rfl⟩)) (fun q => ?_) (fun q => ?_)
    · refine b_ret (x_call g (c_with_slot hd) (by decide) (xa_cons (x_name 0 rfl) (xa_cons (x_name 1 rfl) xa_nil)) ⟨h, s, rfl, hh, hs, rfl⟩) ?_
      show _ = _
      rw [copyS, if_pos q]
    · refine b_nil (b_ret (x_call g (c_without_slot hd) (by decide) (xa_cons (x_name 0 rfl) (xa_cons (x_name 1 rfl) xa_nil)) ⟨h, s, rfl, hh, hs, rfl⟩) ?_)
      show _ = _
      rw [copyS, if_neg (by rw [q]; decide)]
def F_slots_behind : List Dt → (Dt → Prop) → Prop := fun ds R => ∃ (r : Row) (h : Nat), ds = [r.e, dI h] ∧ r.ok ∧ h < 8 ∧ R = fun d => d = dI (behS r h)
theorem c_slots_behind (hd : Hd k) : CalK k 4 "slots_behind" (spP k F_slots_behind) := by
  refine defP (N := ["row", "held"]) (ps := ["row", "held"]) (st := s_slots_behind) (hd.def_ 7 7 66 rfl rfl rfl) (fun _ _ _ _ _ _ us hl => match us, hl with | [_, _], _ => rfl) (by decide +kernel) (fun ds R h => ?_) (fun f cdv A outer s H E g ds R h => ?_)
  · obtain ⟨r, h, rfl, _⟩ := h; rfl
  · obtain ⟨r, h, rfl, ok, hh, rfl⟩ := h
    cases r
    case cpy l s t =>
      refine b_ifT (t_c (q_eq (x_ixT g (x_name 0 rfl) x_int rfl) x_str rfl)) ?_
      exact b_ret (x_call g (c_copied_slot hd) (by decide) (xa_cons (x_name 1 rfl) (xa_cons (x_ixT g (x_name 0 rfl) x_int rfl) (xa_cons (x_ixT g (x_name 0 rfl) x_int rfl) xa_nil))) ⟨h, _, _, rfl, hh, ok.1, ok.2, rfl⟩) rfl
    case opn l s =>
      refine b_ifF0 (t_c (q_eq (x_ixT g (x_name 0 rfl) x_int rfl) x_str rfl)) ?_
      refine b_ifT (t_c (q_inS g (l := ["open", "drop"]) (x_ixT g (x_name 0 rfl) x_int rfl) (x_tup (xa_cons x_str (xa_cons x_str xa_nil))))) ?_
      exact b_ret (x_call g (c_without_slot hd) (by decide) (xa_cons (x_name 1 rfl) (xa_cons (x_ixT g (x_name 0 rfl) x_int rfl) xa_nil)) ⟨h, _, rfl, hh, ok, rfl⟩) rfl
    case drp l s =>
      refine b_ifF0 (t_c (q_eq (x_ixT g (x_name 0 rfl) x_int rfl) x_str rfl)) ?_
      refine b_ifT (t_c (q_inS g (l := ["open", "drop"]) (x_ixT g (x_name 0 rfl) x_int rfl) (x_tup (xa_cons x_str (xa_cons x_str xa_nil))))) ?_
      exact b_ret (x_call g (c_without_slot hd) (by decide) (xa_cons (x_name 1 rfl) (xa_cons (x_ixT g (x_name 0 rfl) x_int rfl) xa_nil)) ⟨h, _, rfl, hh, ok, rfl⟩) rfl
    all_goals
      refine b_ifF0 (t_c (q_eq (x_ixT g (x_name 0 rfl) x_int rfl) x_str rfl)) ?_
      refine b_ifF0 (t_c (q_inS g (l := ["open", "drop"]) (x_ixT g (x_name 0 rfl) x_int rfl) (x_tup (xa_cons x_str (xa_cons x_str xa_nil))))) ?_
      exact b_ret (x_name 1 rfl) rfl
end
end Uw
end
section
set_option Elab.async false
set_option linter.all false
set_option maxRecDepth 100000
set_option maxHeartbeats 4000000
namespace Uw
open PySem PySem.Spec PyProof.Rows L2 Evl
section
variable {k : Kw}
theorem len12 : ("1." : PySem.Str).length = 2 ∧ ("2." : PySem.Str).length = 2 := by decide
def F_texts_at : List Dt → (Dt → Prop) → Prop := fun ds R => ∃ (r : Row) (h g o m : Nat), ds = [r.e, .int 2, (Tok.c h g o m).e] ∧ r.ok ∧ r.isFin = false ∧ h < 8 ∧ g < 8 ∧ R = fun d => d = .lst ((textsR r h g).map .str)
theorem c_texts_at (hd : Hd k) : CalK k 2 "texts_at" (spP k F_texts_at) := by
  refine defP (N := ["row", "sides", "token"]) (ps := ["row", "sides", "token"]) (st := s_texts_at) (hd.def_ 8 8 67 rfl rfl rfl) (fun _ _ _ _ _ _ us hl => match us, hl with | [_, _, _], _ => rfl) (by decide +kernel) (fun ds R h => ?_) (fun f cdv A outer s H E g ds R h => ?_)
  · obtain ⟨r, h, g, o, m, rfl, _⟩ := h; rfl
  · obtain ⟨r, h, g', o, m, rfl, ok, nf, hh, hg, rfl⟩ := h
    obtain ⟨l1, l2⟩ := len12
    cases r
    case fin l => cases nf
    case act l s w =>
      refine b_ifF0 (t_w (w_and (t_c (q_eq (x_ixT g (x_name 0 rfl) x_int rfl) x_str rfl)) fun _ => (w_and1 (t_c (q_eq (x_name 1 rfl) x_int rfl))))) ?_
      refine b_ifF0 (t_c (q_eq (x_ixT g (x_name 0 rfl) x_int rfl) x_str rfl)) ?_
      refine b_ifF0 (t_c (q_ne (x_ixT g (x_name 0 rfl) x_int rfl) x_str rfl)) ?_
      refine b_if (t_v (x_call g (c_has_slot hd) (by decide) (xa_cons (x_ixT g (x_name 2 rfl) x_int rfl) (xa_cons (x_ixT g (x_name 0 rfl) x_int rfl) xa_nil)) ⟨h, s, rfl, hh, ok.1, rfl⟩)) (fun q => ?_) (fun q => ?_)
      · refine b_ret (x_lst (xa_cons (x_adds (x_ixL g (x_lst (xa_cons x_str (xa_cons x_str xa_nil))) (x_sub (x_name 1 rfl) x_int) rfl) (x_ixT g (x_name 0 rfl) x_int rfl) (by have := ok.2.1; show ("1." : PySem.Str).length + w.length ≤ 100000; omega)) xa_nil)) ?_
        show _ = _
        rw [textsR, if_pos q]; rfl
      refine b_nil ?_
      refine b_if (t_w (w_and (t_c (q_eq (x_name 1 rfl) x_int rfl)) fun _ => (w_and1 (t_v (x_call g (c_has_slot hd) (by decide) (xa_cons (x_ixT g (x_name 2 rfl) x_int rfl) (xa_cons (x_ixT g (x_name 0 rfl) x_int rfl) xa_nil)) ⟨g', s, rfl, hg, ok.1, rfl⟩))))) (fun q2 => ?_) (fun q2 => ?_)
      · refine b_ret (x_lst (xa_cons (x_adds x_str (x_ixT g (x_name 0 rfl) x_int rfl) (by have := ok.2.1; show ("2." : PySem.Str).length + w.length ≤ 100000; omega)) xa_nil)) ?_
        have q3 : g'.testBit s = true := q2
        show _ = _
        rw [textsR, if_neg (by rw [q]; decide), if_pos q3]; rfl
      · refine b_nil (b_ret (x_lst xa_nil) ?_)
        have q3 : g'.testBit s = false := q2
        show _ = _
        rw [textsR, if_neg (by rw [q]; decide), if_neg (by rw [q3]; decide)]; rfl
    all_goals
      refine b_ifF0 (t_w (w_and (t_c (q_eq (x_ixT g (x_name 0 rfl) x_int rfl) x_str rfl)) fun _ => (w_and1 (t_c (q_eq (x_name 1 rfl) x_int rfl))))) ?_
      refine b_ifF0 (t_c (q_eq (x_ixT g (x_name 0 rfl) x_int rfl) x_str rfl)) ?_
      refine b_ifT (t_c (q_ne (x_ixT g (x_name 0 rfl) x_int rfl) x_str rfl)) ?_
      exact b_ret (x_lst xa_nil) rfl
def F_room_behind : List Dt → (Dt → Prop) → Prop := fun ds R => ∃ (rl : Rule) (r : Row) (h g o m : Nat), ds = [rl.e, r.e, (Tok.c h g o m).e] ∧ rl.ok ∧ r.ok ∧ r.isFin = false ∧ h < 8 ∧ g < 8 ∧ m < rl.rooms.length ∧ R = fun d => d = oD (roomR rl r h g m)
theorem c_room_behind (hd : Hd k) : CalK k 3 "room_behind" (spP k F_room_behind) := by
  refine defP (N := ["rule", "row", "token", "room", "text"]) (ps := ["rule", "row", "token"]) (st := s_room_behind) (hd.def_ 9 9 68 rfl rfl rfl) (fun _ _ _ _ _ _ us hl => match us, hl with | [_, _, _], _ => rfl) (by decide +kernel) (fun ds R h => ?_) (fun f cdv A outer s H E g ds R h => ?_)
  · obtain ⟨rl, r, h, g, o, m, rfl, _⟩ := h; rfl
  · obtain ⟨rl, r, h, g', o, m, rfl, okl, ok, nf, hh, hg, hm, rfl⟩ := h
    refine b_asg 3 (x_ixT (d := dI m) g (x_name 2 rfl) (x_neg x_int) rfl) ?_
    refine b_forD (l := (textsR r h g').map .str) (fun i ds1 => ∃ (mm : Nat) (x4 : Option Ent), ds1 = [some (.d rl.e), some (.d r.e), some (.d (Tok.c h g' o m).e), some (.d (dI mm)), x4] ∧ (i = 0 → mm = m) ∧ ((textsR r h g').length = i → roomR rl r h g' m = some mm)) 4 g
      (x_call g (c_texts_at hd) (by decide) (xa_cons (x_name 1 rfl) (xa_cons (x_ixT g (x_name 0 rfl) x_int rfl) (xa_cons (x_name 2 rfl) xa_nil))) ⟨r, h, g', o, m, rfl, ok, nf, hh, hg, rfl⟩) (.inl rfl) ?_ ?_ ?_
    · refine ⟨m, none, rfl, fun _ => rfl, fun q => ?_⟩
      rw [roomR, List.length_eq_zero_iff.mp q]
    · rintro i d ds1 hd1 ⟨mm, x4, rfl, h0, _⟩
      rcases textsR_shape r h g' with q | ⟨t, q⟩
      · rw [q] at hd1; simp at hd1
      · rw [q] at hd1
        cases i with
        | succ i => simp at hd1
        | zero =>
          cases hd1
          have e := h0 rfl
          subst e
          have hR : roomR rl r h g' mm = nextR rl mm t := by rw [roomR, q]
          refine b_asg 3 (x_call g (c_next_room hd) (by decide) (xa_cons (x_name 0 rfl) (xa_cons (x_name 3 rfl) (xa_cons (x_name 4 rfl) xa_nil))) ⟨rl, mm, t, rfl, okl, hm, rfl⟩) ?_
          refine b_if (t_c (q_isN (x_name 3 rfl))) (fun p => ?_) (fun p => ?_)
          · refine b_ret x_non ?_
            show Dt.non = oD (roomR rl r h g' mm)
            rw [hR]
            cases z : nextR rl mm t with
            | none => rfl
            | some y => rw [z] at p; cases p
          · cases z : nextR rl mm t with
            | none => rw [z] at p; cases p
            | some y =>
              refine b_nil (b_nil ⟨y, some (.d (.str t)), rfl, fun q => ?_, fun _ => ?_⟩)
              · cases q
              · rw [hR, z]
    · rintro ds1 ⟨mm, x4, rfl, _, h1⟩
      refine b_ret (x_name 3 rfl) ?_
      show dI mm = _
      rw [h1 (by rw [List.length_map])]; rfl
end
end Uw
end
section
set_option Elab.async false
set_option linter.all false
set_option maxRecDepth 100000
set_option maxHeartbeats 4000000
namespace Uw
open PySem PySem.Spec PyProof.Rows L2 Evl
section
variable {k : Kw}
def codeD (code : List Row) : Dt := .lst (code.map Row.e)
theorem code_at {code : List Row} {at_ : Nat} {r : Row} (h : code[at_]? = some r) : atI (code.map Row.e) (at_ : Int) = some r.e := atI_nat (by rw [List.getElem?_map, h]; rfl)
def hS (r : Row) : Dt → Dt
  | .int n => dI (behS r n.toNat)
  | d => d
def F_behind_at : List Dt → (Dt → Prop) → Prop := fun ds R => ∃ (code : List Row) (rl : Rule) (at_ : Nat) (t : Tok) (r : Row), ds = [codeD code, rl.e, dI at_, t.e] ∧ code[at_]? = some r ∧ rl.ok ∧ r.ok ∧ t.ok rl.rooms.length ∧ R = fun d => d = tD (behT rl r t)
theorem c_behind_at (hd : Hd k) : CalK k 5 "behind_at" (spP k F_behind_at) := by
  refine defP (N := ["code", "rule", "at", "token", "row", "sums", "behind", "held", "room"]) (ps := ["code", "rule", "at", "token"]) (st := s_behind_at) (hd.def_ 10 10 69 rfl rfl rfl) (fun _ _ _ _ _ _ us hl => match us, hl with | [_, _, _, _], _ => rfl) (by decide +kernel) (fun ds R h => ?_) (fun f cdv A outer s H E g ds R h => ?_)
  · obtain ⟨code, rl, at_, t, r, rfl, _⟩ := h; rfl
  · obtain ⟨code, rl, at_, t, r, rfl, hr, okl, ok, okt, rfl⟩ := h
    refine b_asg 4 (x_ixL g (x_name 0 rfl) (x_name 2 rfl) (code_at hr)) ?_
    have nofin : ∀ (K : Prop), (r.isFin = false → K) → (∀ l, r = .fin l → K) → K := fun K h1 h2 => by
      cases r with
      | fin l => exact h2 l rfl
      | _ => exact h1 rfl
    refine nofin _ (fun nf => ?_) (fun l e => ?_)
    · refine b_ifF0 (t_c (q_eq (x_ixT g (x_name 4 rfl) x_int (row_tag r)) x_str rfl)) ?_ ((tag_fin r).trans nf)
      refine b_asg 5 (x_call g (c_sums_in hd) (by decide) (xa_cons (x_ixT g (x_name 1 rfl) x_int rfl) (xa_cons (x_name 3 rfl) xa_nil)) ⟨t, rfl, rfl⟩) ?_
      cases t with
      | a h =>
        have hh : h < 8 := okt
        refine b_asg 6 (x_catA (l := [dI (behS r h)]) (m := []) g (x_tuple g hd.tuple (XD.is (x_lc "held" 7 ["code", "rule", "at", "token", "row", "sums", "behind", "held", "room"] (C8.fnScope s_behind_at) g (l := [dI h]) (([dI h].map (hS r)).map some) (x_slT g (x_name 3 rfl) xo_none (xo_some (x_name 5 rfl))) (.inr rfl) (Nat.le_of_ble_eq_true rfl) rfl (lcF (ds' := fun _ => []) fun i d hi => ?_) isT_nil) rfl)) (XD.is (x_slT g (x_name 3 rfl) (xo_some (x_name 5 rfl)) xo_none) rfl) (Nat.le_of_ble_eq_true rfl)) ?_
        · cases i with
          | zero => cases hi; exact x_call (bk_good g) (c_slots_behind hd) (by decide) (xa_cons (x_name 4 rfl) (xa_cons (x_name 7 rfl) xa_nil)) ⟨r, h, rfl, ok, hh, rfl⟩
          | succ i => simp at hi
        refine b_ifT (t_not (t_v (x_call g (c_has_room hd) (by decide) (xa_cons (x_ixT g (x_name 1 rfl) x_int rfl) (xa_cons (x_name 3 rfl) xa_nil)) ⟨.a h, rfl, rfl⟩))) ?_
        refine b_ret (x_name 6 rfl) ?_
        show _ = tD (behT rl r (.a h))
        cases r <;> first | rfl | cases nf
      | b h g' o =>
        obtain ⟨hh, hg, _⟩ := okt
        refine b_asg 6 (x_catA (l := [dI (behS r h), dI (behS r g')]) (m := [dI o]) g (x_tuple g hd.tuple (XD.is (x_lc "held" 7 ["code", "rule", "at", "token", "row", "sums", "behind", "held", "room"] (C8.fnScope s_behind_at) g (l := [dI h, dI g']) (([dI h, dI g'].map (hS r)).map some) (x_slT g (x_name 3 rfl) xo_none (xo_some (x_name 5 rfl))) (.inr rfl) (Nat.le_of_ble_eq_true rfl) rfl (lcF (ds' := fun _ => []) fun i d hi => ?_) isT_nil) rfl)) (XD.is (x_slT g (x_name 3 rfl) (xo_some (x_name 5 rfl)) xo_none) rfl) (Nat.le_of_ble_eq_true rfl)) ?_
        · match i, hi with
          | 0, hi => cases hi; exact x_call (bk_good g) (c_slots_behind hd) (by decide) (xa_cons (x_name 4 rfl) (xa_cons (x_name 7 rfl) xa_nil)) ⟨r, h, rfl, ok, hh, rfl⟩
          | 1, hi => cases hi; exact x_call (bk_good g) (c_slots_behind hd) (by decide) (xa_cons (x_name 4 rfl) (xa_cons (x_name 7 rfl) xa_nil)) ⟨r, g', rfl, ok, hg, rfl⟩
          | i + 2, hi => simp at hi
        refine b_ifT (t_not (t_v (x_call g (c_has_room hd) (by decide) (xa_cons (x_ixT g (x_name 1 rfl) x_int rfl) (xa_cons (x_name 3 rfl) xa_nil)) ⟨.b h g' o, rfl, rfl⟩))) ?_
        refine b_ret (x_name 6 rfl) ?_
        show _ = tD (behT rl r (.b h g' o))
        cases r <;> first | rfl | cases nf
      | c h g' o m =>
        obtain ⟨hh, hg, _, hm⟩ := okt
        refine b_asg 6 (x_catA (l := [dI (behS r h), dI (behS r g')]) (m := [dI o, dI m]) g (x_tuple g hd.tuple (XD.is (x_lc "held" 7 ["code", "rule", "at", "token", "row", "sums", "behind", "held", "room"] (C8.fnScope s_behind_at) g (l := [dI h, dI g']) (([dI h, dI g'].map (hS r)).map some) (x_slT g (x_name 3 rfl) xo_none (xo_some (x_name 5 rfl))) (.inr rfl) (Nat.le_of_ble_eq_true rfl) rfl (lcF (ds' := fun _ => []) fun i d hi => ?_) isT_nil) rfl)) (XD.is (x_slT g (x_name 3 rfl) (xo_some (x_name 5 rfl)) xo_none) rfl) (Nat.le_of_ble_eq_true rfl)) ?_
        · match i, hi with
          | 0, hi => cases hi; exact x_call (bk_good g) (c_slots_behind hd) (by decide) (xa_cons (x_name 4 rfl) (xa_cons (x_name 7 rfl) xa_nil)) ⟨r, h, rfl, ok, hh, rfl⟩
          | 1, hi => cases hi; exact x_call (bk_good g) (c_slots_behind hd) (by decide) (xa_cons (x_name 4 rfl) (xa_cons (x_name 7 rfl) xa_nil)) ⟨r, g', rfl, ok, hg, rfl⟩
          | i + 2, hi => simp at hi
        refine b_ifF0 (t_not (t_v (x_call g (c_has_room hd) (by decide) (xa_cons (x_ixT g (x_name 1 rfl) x_int rfl) (xa_cons (x_name 3 rfl) xa_nil)) ⟨.c h g' o m, rfl, rfl⟩))) ?_
        refine b_asg 8 (x_call g (c_room_behind hd) (by decide) (xa_cons (x_name 1 rfl) (xa_cons (x_name 4 rfl) (xa_cons (x_name 3 rfl) xa_nil))) ⟨rl, r, h, g', o, m, rfl, okl, ok, nf, hh, hg, hm, rfl⟩) ?_
        have eb : behT rl r (.c h g' o m) = (roomR rl r h g' m).map fun m' => .c (behS r h) (behS r g') o m' := by
          cases r <;> first | rfl | cases nf
        refine b_if (t_c (q_isN (x_name 8 rfl))) (fun p => ?_) (fun p => ?_)
        · refine b_ret x_non ?_
          show _ = tD (behT rl r (.c h g' o m))
          rw [eb]
          cases z : roomR rl r h g' m with
          | none => rfl
          | some y => rw [z] at p; cases p
        · refine b_nil ?_
          cases z : roomR rl r h g' m with
          | none => rw [z] at p; cases p
          | some y =>
            refine b_ret (x_catA (l := [dI (behS r h), dI (behS r g'), dI o]) (m := [dI y]) g (XD.is (x_slT g (x_name 6 rfl) xo_none (xo_some (x_neg x_int))) rfl) (x_tup (xa_cons (x_name 8 rfl) xa_nil)) (Nat.le_of_ble_eq_true rfl)) ?_
            show _ = tD (behT rl r (.c h g' o m))
            rw [eb, z]; rfl
    · subst e
      refine b_ifT (t_c (q_eq (x_ixT g (x_name 4 rfl) x_int rfl) x_str rfl)) ?_
      refine b_ret x_non ?_
      show _ = tD (behT rl (.fin l) t)
      cases t <;> rfl
end
end Uw
end
section
set_option Elab.async false
set_option linter.all false
set_option maxRecDepth 100000
set_option maxHeartbeats 4000000
namespace Uw
open PySem PySem.Spec PyProof.Rows L2 Evl
section
variable {k : Kw}
/-- a list of tokens, these and no others -/
def TksR (ts : List Tok) : List Dt → Prop := fun l => ∃ l' : List Tok, l = l'.map Tok.e ∧ (∀ y, y ∈ l' ↔ y ∈ ts) ∧ l'.length < 64
theorem tks_of {ts : List Tok} {l : List Dt} (h : ∃ l' : List (List Int), l = l'.map eTu ∧ (∀ t, t ∈ l' ↔ t ∈ ts.map Tok.l) ∧ l'.length < 64) : TksR ts l := by
  obtain ⟨l', rfl, h1, h2⟩ := h
  obtain ⟨l'', rfl, h3⟩ := toks_same h1
  exact ⟨l'', eTu_map l'', h3, by rw [List.length_map] at h2; exact h2⟩
theorem tok_len (t : Tok) : seqD (t.l.map Dt.int) t.e := rfl
def F_begun_by_open : List Dt → (List Dt → Prop) → Prop := fun ds R => ∃ (rl : Rule) (s m : Nat) (t : Option Tok), ds = [rl.e, dI s, .lst (t.toList.map Tok.e)] ∧ s < 3 ∧ (∀ x, t = some x → x.ok m) ∧ R = TksR (begO s t)
theorem c_begun_by_open (hd : Hd k) : CalK k 3 "begun_by_open" (spN k F_begun_by_open) := by
  refine defN (N := ["rule", "slot", "tokens", "new", "room", "found", "token", "old"]) (ps := ["rule", "slot", "tokens"]) (st := s_begun_by_open) (hd.def_ 11 11 70 rfl rfl rfl) (fun _ _ _ _ _ _ us hl => match us, hl with | [_, _, _], _ => rfl) (by decide +kernel) (fun ds R h => ?_) (fun f cdv A outer s H E g ds R h => ?_)
  · obtain ⟨rl, s, m, t, rfl, _⟩ := h; rfl
  · obtain ⟨rl, s, m, t, rfl, hs, ht, rfl⟩ := h
    have w0 : withS 0 s < 8 := withS_lt (by decide) hs
    refine b_asg 3 (x_call g (c_with_slot hd) (by decide) (xa_cons x_int (xa_cons (x_name 1 rfl) xa_nil)) ⟨0, s, rfl, by decide, hs, rfl⟩) ?_
    refine b_ifF0 (t_c (q_eq (x_ixT g (x_name 0 rfl) x_int rfl) x_int rfl)) ?_
    refine b_new 5 (xa_cons (x_tup (xa_cons (x_name 3 rfl) xa_nil)) xa_nil) ?_
    refine b_forD (l := t.toList.map Tok.e) (fun i ds1 => ∃ (x6 x7 : Option Ent), ds1 = [some (.d rl.e), some (.d (dI s)), some (.d (.lst (t.toList.map Tok.e))), some (.d (dI (withS 0 s))), none, some (.m true (mL k (((begO s (if i = 0 then none else t)).map Tok.l).map eTu))), x6, x7]) 6 g (x_name 2 rfl) (.inl rfl) ⟨none, none, rfl⟩ ?_ ?_
    · rintro i d ds1 hd1 ⟨x6, x7, rfl⟩
      cases t with
      | none => simp at hd1
      | some x =>
        cases i with
        | succ i => simp at hd1
        | zero =>
          cases hd1
          cases x with
          | a h =>
            have hh : h < 8 := ht _ rfl
            refine b_ifT (t_c (q_eq (x_len g hd.len (x_name 6 rfl) (tok_len _)) x_int rfl)) ?_
            refine b_asg 7 (x_call g (c_without_slot hd) (by decide) (xa_cons (x_ixT g (x_name 6 rfl) x_int rfl) (xa_cons (x_name 1 rfl) xa_nil)) ⟨h, s, rfl, hh, hs, rfl⟩) ?_
            refine b_app 5 rfl g (x_tup (xa_cons (x_name 7 rfl) (xa_cons (x_name 3 rfl) (xa_cons x_int xa_nil)))) ?_ (Nat.le_of_ble_eq_true rfl)
            refine b_app 5 rfl g (x_tup (xa_cons (x_name 3 rfl) (xa_cons (x_name 7 rfl) (xa_cons x_int xa_nil)))) ?_ (Nat.le_of_ble_eq_true rfl)
            exact b_nil (b_nil ⟨_, _, rfl⟩)
          | b h g' o =>
            refine b_ifF0 (t_c (q_eq (x_len g hd.len (x_name 6 rfl) (tok_len _)) x_int rfl)) ?_
            exact b_nil ⟨_, _, rfl⟩
          | c h g' o m =>
            refine b_ifF0 (t_c (q_eq (x_len g hd.len (x_name 6 rfl) (tok_len _)) x_int rfl)) ?_
            exact b_nil ⟨_, _, rfl⟩
    · rintro ds1 ⟨x6, x7, rfl⟩
      have e : (if (t.toList.map Tok.e).length = 0 then none else t) = t := by cases t <;> rfl
      rw [e]
      have hl : (begO s t).length ≤ 3 := by
        rcases t with _ | x
        · exact Nat.le_of_ble_eq_true rfl
        · cases x <;> exact Nat.le_of_ble_eq_true rfl
      refine b_frz 5 rfl ?_
      refine b_retF (xn_sortSetTu (l := (begO s t).map Tok.l) g hd.sorted hd.set (x_name 5 rfl) (by rw [List.length_map]; omega) (fun y hy => ?_)) fun l hP => rN_mk (tks_of hP)
      obtain ⟨z, _, rfl⟩ := List.mem_map.mp hy
      exact z.ne
def tieO (s u : Nat) (t : Option Tok) : List Tok := match t with
  | some (.b h g o) => if h.testBit s ∧ g.testBit u then [.c h g o 0] else []
  | _ => []
def F_begun_by_tie : List Dt → (List Dt → Prop) → Prop := fun ds R => ∃ (l : Int) (s u m : Nat) (t : Option Tok), ds = [(Row.tie l s u).e, .lst (t.toList.map Tok.e)] ∧ s < 3 ∧ u < 3 ∧ (∀ x, t = some x → x.ok m) ∧ R = TksR (tieO s u t)
theorem c_begun_by_tie (hd : Hd k) : CalK k 3 "begun_by_tie" (spN k F_begun_by_tie) := by
  refine defN (N := ["row", "tokens", "found", "token"]) (ps := ["row", "tokens"]) (st := s_begun_by_tie) (hd.def_ 12 12 71 rfl rfl rfl) (fun _ _ _ _ _ _ us hl => match us, hl with | [_, _], _ => rfl) (by decide +kernel) (fun ds R h => ?_) (fun f cdv A outer s H E g ds R h => ?_)
  · obtain ⟨l, s, u, m, t, rfl, _⟩ := h; rfl
  · obtain ⟨l, s, u, m, t, rfl, hs, hu, ht, rfl⟩ := h
    refine b_new 2 xa_nil ?_
    refine b_forD (l := t.toList.map Tok.e) (fun i ds1 => ∃ (x3 : Option Ent), ds1 = [some (.d (Row.tie l s u).e), some (.d (.lst (t.toList.map Tok.e))), some (.m true (mL k (((tieO s u (if i = 0 then none else t)).map Tok.l).map eTu))), x3]) 3 g (x_name 1 rfl) (.inl rfl) ⟨none, rfl⟩ ?_ ?_
    · rintro i d ds1 hd1 ⟨x3, rfl⟩
      cases t with
      | none => simp at hd1
      | some x =>
        cases i with
        | succ i => simp at hd1
        | zero =>
          cases hd1
          cases x with
          | a h =>
            refine b_ifF0 (t_w (w_and (q := false) (t_c (q_eq (x_len g hd.len (x_name 3 rfl) (tok_len _)) x_int rfl)) fun q => noT q)) ?_
            exact b_nil ⟨_, rfl⟩
          | c h g' o m =>
            refine b_ifF0 (t_w (w_and (q := false) (t_c (q_eq (x_len g hd.len (x_name 3 rfl) (tok_len _)) x_int rfl)) fun q => noT q)) ?_
            exact b_nil ⟨_, rfl⟩
          | b h g' o =>
            obtain ⟨hh, hg, _⟩ : Tok.ok m (.b h g' o) := ht _ rfl
            refine b_if (t_w (w_and (t_c (q_eq (x_len g hd.len (x_name 3 rfl) (tok_len _)) x_int rfl)) fun _ => (w_and (t_v (x_call g (c_has_slot hd) (by decide) (xa_cons (x_ixT g (x_name 3 rfl) x_int rfl) (xa_cons (x_ixT g (x_name 0 rfl) x_int rfl) xa_nil)) ⟨h, s, rfl, hh, hs, rfl⟩)) fun _ =>
              (w_and1 (t_v (x_call g (c_has_slot hd) (by decide) (xa_cons (x_ixT g (x_name 3 rfl) x_int rfl) (xa_cons (x_ixT g (x_name 0 rfl) x_int rfl) xa_nil)) ⟨g', u, rfl, hg, hu, rfl⟩)))))) (fun q => ?_) (fun q => ?_)
            · have q1 : (h.testBit s && g'.testBit u) = true := q
              rw [Bool.and_eq_true] at q1
              refine b_app 2 rfl g (x_catA g (x_name 3 rfl) (x_tup (xa_cons x_int xa_nil)) (Nat.le_of_ble_eq_true rfl)) ?_ (Nat.le_of_ble_eq_true rfl)
              refine b_nil (b_nil ⟨some (.d (Tok.b h g' o).e), ?_⟩)
              have e : tieO s u (if 0 + 1 = 0 then none else some (.b h g' o)) = [.c h g' o 0] := if_pos q1
              rw [e]; rfl
            · have q1 : (h.testBit s && g'.testBit u) = false := q
              refine b_nil (b_nil ⟨some (.d (Tok.b h g' o).e), ?_⟩)
              have e : tieO s u (if 0 + 1 = 0 then none else some (.b h g' o)) = [] := if_neg (fun z => by rw [z.1, z.2] at q1; cases q1)
              rw [e]; rfl
    · rintro ds1 ⟨x3, rfl⟩
      have e : (if (t.toList.map Tok.e).length = 0 then none else t) = t := by cases t <;> rfl
      rw [e]
      have hl : (tieO s u t).length ≤ 1 := by
        unfold tieO
        split
        · split <;> exact Nat.le_of_ble_eq_true rfl
        · exact Nat.le_of_ble_eq_true rfl
      refine b_frz 2 rfl ?_
      refine b_retF (xn_sortSetTu (l := (tieO s u t).map Tok.l) g hd.sorted hd.set (x_name 2 rfl) (by rw [List.length_map]; omega) (fun y hy => ?_)) fun l hP => rN_mk (tks_of hP)
      obtain ⟨z, _, rfl⟩ := List.mem_map.mp hy
      exact z.ne
def F_begins_at : List Dt → (List Dt → Prop) → Prop := fun ds R => ∃ (code : List Row) (rl : Rule) (at_ m : Nat) (t : Option Tok) (r : Row), ds = [codeD code, rl.e, dI at_, .lst (t.toList.map Tok.e)] ∧ code[at_]? = some r ∧ r.ok ∧ (∀ x, t = some x → x.ok m) ∧ R = TksR (begT r t)
theorem c_begins_at (hd : Hd k) : CalK k 4 "begins_at" (spN k F_begins_at) := by
  refine defN (N := ["code", "rule", "at", "tokens", "row"]) (ps := ["code", "rule", "at", "tokens"]) (st := s_begins_at) (hd.def_ 13 13 72 rfl rfl rfl) (fun _ _ _ _ _ _ us hl => match us, hl with | [_, _, _, _], _ => rfl) (by decide +kernel) (fun ds R h => ?_) (fun f cdv A outer s H E g ds R h => ?_)
  · obtain ⟨code, rl, at_, m, t, r, rfl, _⟩ := h; rfl
  · obtain ⟨code, rl, at_, m, t, r, rfl, hr, ok, ht, rfl⟩ := h
    refine b_asg 4 (x_ixL g (x_name 0 rfl) (x_name 2 rfl) (code_at hr)) ?_
    cases r
    case opn l s =>
      refine b_ifT (t_c (q_eq (x_ixT g (x_name 4 rfl) x_int rfl) x_str rfl)) ?_
      exact b_retF (xn_call g (c_begun_by_open hd) (by decide) (xa_cons (x_name 1 rfl) (xa_cons (x_ixT g (x_name 4 rfl) x_int rfl) (xa_cons (x_name 3 rfl) xa_nil))) ⟨rl, s, m, t, rfl, ok, ht, rfl⟩) fun l hP => rN_mk hP
    case tie l s u =>
      refine b_ifF0 (t_c (q_eq (x_ixT g (x_name 4 rfl) x_int rfl) x_str rfl)) ?_
      refine b_ifT (t_w (w_and (t_c (q_eq (x_ixT g (x_name 4 rfl) x_int rfl) x_str rfl)) fun _ => (w_and1 (t_c (q_eq (x_ixT g (x_name 1 rfl) x_int rfl) x_int rfl))))) ?_
      exact b_retF (xn_call g (c_begun_by_tie hd) (by decide) (xa_cons (x_name 4 rfl) (xa_cons (x_name 3 rfl) xa_nil)) ⟨l, s, u, m, t, rfl, ok.1, ok.2, ht, rfl⟩) fun l hP => rN_mk hP
    all_goals
      refine b_ifF0 (t_c (q_eq (x_ixT g (x_name 4 rfl) x_int rfl) x_str rfl)) ?_
      refine b_ifF0 (t_w (w_and (t_c (q_eq (x_ixT g (x_name 4 rfl) x_int rfl) x_str rfl)) fun _ => (w_and1 (t_c (q_eq (x_ixT g (x_name 1 rfl) x_int rfl) x_int rfl))))) ?_
      exact b_retF (xn_lst (P := fun l => l = []) xa_nil rfl) fun l hP => rN_mk ⟨[], hP, fun y => Iff.rfl, by decide⟩
def F_rows_behind : List Dt → (Dt → Prop) → Prop := fun ds R => ∃ (code : List Row) (at_ : Nat) (r : Row), ds = [codeD code, dI at_] ∧ code[at_]? = some r ∧ R = fun d => ∃ l : List Nat, d = .lst (l.map dI) ∧ (∀ y, y ∈ l ↔ y ∈ succs r at_) ∧ l.length ≤ 2
theorem nats_back {ts : List Nat} : ∀ {l : List Int}, (∀ x ∈ l, x ∈ ts.map (fun n : Nat => (n : Int))) → ∃ l' : List Nat, l = l'.map (fun n : Nat => (n : Int)) ∧ ∀ y ∈ l', y ∈ ts
  | [], _ => ⟨[], rfl, fun _ h => nomatch h⟩
  | x :: l, h => by
    obtain ⟨l', e, m⟩ := nats_back (l := l) fun y hy => h y (List.mem_cons_of_mem _ hy)
    obtain ⟨t, ht, rfl⟩ := List.mem_map.mp (h x List.mem_cons_self)
    refine ⟨t :: l', by rw [e]; rfl, fun y hy => ?_⟩
    rcases List.mem_cons.mp hy with z | z
    · rw [z]; exact ht
    · exact m y z
theorem c_rows_behind (hd : Hd k) : CalK k 1 "rows_behind" (spP k F_rows_behind) := by
  refine defP (N := ["code", "at", "row"]) (ps := ["code", "at"]) (st := s_rows_behind) (hd.def_ 14 14 73 rfl rfl rfl) (fun _ _ _ _ _ _ us hl => match us, hl with | [_, _], _ => rfl) (by decide +kernel) (fun ds R h => ?_) (fun f cdv A outer s H E g ds R h => ?_)
  · obtain ⟨code, at_, r, rfl, _⟩ := h; rfl
  · obtain ⟨code, at_, r, rfl, hr, rfl⟩ := h
    refine b_asg 2 (x_ixL g (x_name 0 rfl) (x_name 1 rfl) (code_at hr)) ?_
    cases r
    case fin l =>
      refine b_ifT (t_c (q_eq (x_ixT g (x_name 2 rfl) x_int rfl) x_str rfl)) ?_
      exact b_ret (x_lst xa_nil) ⟨[], rfl, fun y => Iff.rfl, by decide⟩
    case jmp l t =>
      refine b_ifF0 (t_c (q_eq (x_ixT g (x_name 2 rfl) x_int rfl) x_str rfl)) ?_
      refine b_ifT (t_c (q_eq (x_ixT g (x_name 2 rfl) x_int rfl) x_str rfl)) ?_
      exact b_ret (x_lst (xa_cons (x_ixT g (x_name 2 rfl) x_int rfl) xa_nil)) ⟨[t], rfl, fun y => Iff.rfl, Nat.le_of_ble_eq_true rfl⟩
    case tst l b t =>
      refine b_ifF0 (t_c (q_eq (x_ixT g (x_name 2 rfl) x_int rfl) x_str rfl)) ?_
      refine b_ifF0 (t_c (q_eq (x_ixT g (x_name 2 rfl) x_int rfl) x_str rfl)) ?_
      refine b_ifT (t_c (q_eq (x_ixT g (x_name 2 rfl) x_int rfl) x_str rfl)) ?_
      refine b_retX (xx_sortSetK (eD := Dt.int) (l := [(at_ : Int) + 1, (t : Int)]) g ksInt (fun x H => .int x) (fun xs l H r => r.ints) hd.sorted hd.set (x_lst (xa_cons (x_add (x_name 1 rfl) x_int) (xa_cons (x_ixT g (x_name 2 rfl) x_int rfl) xa_nil))) (Nat.le_of_ble_eq_true rfl)) ?_
      rintro d ds' ⟨_, l', rfl, h1, h2⟩
      have e0 : [(at_ : Int) + 1, (t : Int)] = [at_ + 1, t].map (fun n : Nat => (n : Int)) := rfl
      obtain ⟨l'', rfl, h3⟩ := nats_back (ts := [at_ + 1, t]) fun x hx => by rw [← e0]; exact (h1 x).mp hx
      refine ⟨l'', by rw [List.map_map]; rfl, fun y => ⟨h3 y, fun hy => ?_⟩, by rw [List.length_map] at h2; exact h2⟩
      have z := (h1 (y : Int)).mpr (by rw [e0]; exact List.mem_map_of_mem hy)
      obtain ⟨w, hw, q⟩ := List.mem_map.mp z
      have : w = y := by omega
      rw [← this]; exact hw
    all_goals
      refine b_ifF0 (t_c (q_eq (x_ixT g (x_name 2 rfl) x_int rfl) x_str rfl)) ?_
      refine b_ifF0 (t_c (q_eq (x_ixT g (x_name 2 rfl) x_int rfl) x_str rfl)) ?_
      refine b_ifF0 (t_c (q_eq (x_ixT g (x_name 2 rfl) x_int rfl) x_str rfl)) ?_
      exact b_ret (x_lst (xa_cons (x_add (x_name 1 rfl) x_int) xa_nil)) ⟨[at_ + 1], rfl, fun y => Iff.rfl, Nat.le_of_ble_eq_true rfl⟩
end
end Uw
end
section
set_option Elab.async false
set_option linter.all false
set_option maxRecDepth 100000
set_option maxHeartbeats 4000000
namespace Uw
open PySem PySem.Spec PyProof.Rows L2 Evl
section
variable {k : Kw}
def AllR (rl : Rule) (r : Row) (t : Option Tok) : Dt → Prop := fun d => ∃ l : List (Option Tok), d = .lst (l.map tD) ∧ (∀ y, y ∈ l ↔ y ∈ allB rl r t) ∧ l.length ≤ 100
def F_all_behind : List Dt → (Dt → Prop) → Prop := fun ds R => ∃ (code : List Row) (rl : Rule) (at_ : Nat) (t : Option Tok) (r : Row), ds = [codeD code, rl.e, dI at_, tD t] ∧ code[at_]? = some r ∧ rl.ok ∧ r.ok ∧ (∀ x, t = some x → x.ok rl.rooms.length) ∧ R = AllR rl r t
theorem c_all_behind (hd : Hd k) : CalK k 6 "all_behind" (spP k F_all_behind) := by
  refine defP (N := ["code", "rule", "at", "token", "found", "itself"]) (ps := ["code", "rule", "at", "token"]) (st := s_all_behind) (hd.def_ 15 15 74 rfl rfl rfl) (fun _ _ _ _ _ _ us hl => match us, hl with | [_, _, _, _], _ => rfl) (by decide +kernel) (fun ds R h => ?_) (fun f cdv A outer s H E g ds R h => ?_)
  · obtain ⟨code, rl, at_, t, r, rfl, _⟩ := h; rfl
  · obtain ⟨code, rl, at_, t, r, rfl, hr, okl, ok, okt, rfl⟩ := h
    cases t with
    | none =>
      refine b_ifT (t_c (q_isN (x_name 3 rfl))) ?_
      refine b_retX (xx_catL (P' := fun d ds' => AllR rl r none d) (x_lst (xa_cons x_non xa_nil)).xx fun d ds' hp => (XN.xx (xn_call g (c_begins_at hd) (by decide) (l := [codeD code, rl.e, dI at_, .lst []]) ?_ ⟨code, rl, at_, rl.rooms.length, none, r, rfl, hr, ok, okt, rfl⟩)).mono ?_) fun d ds' h => h
      · obtain ⟨rfl, rfl⟩ := hp
        exact xa_cons (x_name 0 rfl) (xa_cons (x_name 1 rfl) (xa_cons (x_name 2 rfl) (xa_cons (x_lst xa_nil) xa_nil)))
      · rintro d2 ds2 ⟨rfl, l, rfl, l', rfl, h1, h2⟩
        obtain ⟨rfl, rfl⟩ := hp
        refine ⟨_, _, rfl, rfl, by simp only [List.length_cons, List.length_nil, List.length_map]; omega, none :: l'.map some, ?_, fun y => ?_, by simp only [List.length_cons, List.length_map]; omega⟩
        · show Dt.lst (Dt.non :: l'.map Tok.e) = Dt.lst (Dt.non :: (l'.map some).map tD)
          rw [List.map_map]; rfl
        · show y ∈ none :: l'.map some ↔ y ∈ none :: (begT r none).map some
          simp only [List.mem_cons, List.mem_map, h1]
    | some x =>
      refine b_ifF0 (t_c (q_isN (x_name 3 rfl))) ?_
      refine b_asgN 4 (xn_call g (c_begins_at hd) (by decide) (xa_cons (x_name 0 rfl) (xa_cons (x_name 1 rfl) (xa_cons (x_name 2 rfl) (xa_cons (x_lst (xa_cons (x_name 3 rfl) xa_nil)) xa_nil)))) ⟨code, rl, at_, rl.rooms.length, some x, r, rfl, hr, ok, okt, rfl⟩) ?_
      rintro l ⟨l', rfl, h1, h2⟩
      refine b_asg 5 (x_call g (c_behind_at hd) (by decide) (xa_cons (x_name 0 rfl) (xa_cons (x_name 1 rfl) (xa_cons (x_name 2 rfl) (xa_cons (x_name 3 rfl) xa_nil)))) ⟨code, rl, at_, x, r, rfl, hr, okl, ok, okt _ rfl, rfl⟩) ?_
      cases q : behT rl r x with
      | none =>
        refine b_ifF0 (t_c (q_notN (x_name 5 rfl))) ?_
        refine b_frz 4 rfl (b_ret (x_name 4 rfl) ⟨l'.map some, ?_, fun y => ?_, by rw [List.length_map]; omega⟩)
        · rw [List.map_map]; rfl
        · simp only [allB, q, List.append_nil, List.mem_map, h1]
      | some z =>
        refine b_ifT (t_c (q_notN (x_name 5 rfl))) ?_
        refine b_app 4 rfl g (x_name 5 rfl) ?_ (by rw [List.length_map]; omega)
        refine b_nil ?_
        refine b_frz 4 rfl (b_ret (x_name 4 rfl) ⟨l'.map some ++ [some z], ?_, fun y => ?_, by simp only [List.length_append, List.length_map, List.length_cons, List.length_nil]; omega⟩)
        · rw [List.map_append, List.map_map]; rfl
        · simp only [allB, q, List.mem_append, List.mem_map, h1]
end
end Uw
end
section
set_option Elab.async false
set_option linter.all false
set_option maxRecDepth 100000
set_option maxHeartbeats 4000000
namespace Uw
open PySem PySem.Spec PyProof.Rows L2 Evl
section
variable {X : Cx} {k : Kw} {lv : Nat} {ds : EV} {pos : Pos} {rest : List Stmt} {N : EV → Prop} {R : Ent → EV → Prop}
/-- for x in e, e a list of several outcomes -/
theorem b_forP {tg it : Expr} {body : List Stmt} {P : List Dt → Prop} (I : List Dt → Nat → EV → Prop) (g : Good (yX X) k lv) (h : XX (yX X) k it ds (fun d ds' => (∃ l, d = .lst l ∧ P l) ∧ ds' = ds)) (h0 : ∀ l, P l → I l 0 ds)
    (hs : ∀ l, P l → ∀ (i : Nat) d ds1, l[i]? = some d → I l i ds1 → ∃ ds2, XG X k tg ds1 d ds2 ∧ XB X k body ds2 (I l (i + 1)) R) (hd : ∀ l, P l → ∀ ds1, I l l.length ds1 → XB X k rest ds1 N R)
    (a1 : ∀ x : Value, foldedSetIterable it X.env x = pure x := by intro _; rfl) (a2 : PassesOwn (model X.prog X.w) X.A X.env X.xe := by exact PassesOwn.never) : XB X k (.For tg it body [] pos :: rest) ds N R := by
  have pgt : PG X tg (fun v σ H Q => ∃ g, PG X tg g ∧ g v σ H Q) := ⟨fun pins s σ H v u Q I r ⟨g, p, q⟩ => p.run pins s σ H v u Q I r q⟩
  refine b_st (t := tFor (iList k.K (tE (yX X) it)) _ (tB X body)) (by have z := ps_for (X := X) (pos := pos) a2 (g.ec ()) (pi_list (tg := tg) (pe_tE (Y := yX X) ())) pgt (ps_tB (sts := body)) a1; rw [show X.K = k.K from g.eK ()] at z; exact z) fun M G0 G σ H0 H D E nx r => ?_
  refine h M G0 G σ H0 H E _ fun v H1 H1' d ds1 ⟨⟨l, p1, p2⟩, p3⟩ E1 e1 r1 => ?_
  subst p1 p3
  cases r1
  rename_i aa xs r1 r2
  refine ⟨_, rfl, ⟨xs, sq_of (E1.wld.in_ _ _ r1)⟩, for_list (K := k.K) (D := D) (tb := tB X body) (g := fun v σ H Q => ∃ g, PG X tg g ∧ g v σ H Q) (xs := xs) (fun i σ' H' => ∃ ds1 H0', I l i ds1 ∧ Env k M G0 G σ' H0' H' ds1 ∧ Ex H1 H0') ⟨_, H1, h0 l p2, E1, Ex.refl _⟩ ?_ ?_ ?_⟩
  · rintro i σ' H' _ ⟨ds2, H2, _, E2, e2⟩
    exact sq_of (E2.wld.in_ _ _ (e2 _ _ r1))
  · rintro i x σ' H' hx ⟨ds2, H2, hI, E2, e2⟩
    obtain ⟨d, hd1, hd2⟩ := r2.getV hx
    obtain ⟨ds3, ⟨gt, pg, hg⟩, hb⟩ := hs l p2 i d ds2 hd1 hI
    refine ⟨gt, pg, hg M G0 G σ' H2 H' x E2 (hd2.mono e2) _ fun σ2 E' => ?_⟩
    exact hb M G0 G σ2 H2 H' _ E' (fun σ3 H3 H3' ds4 q E3 e3 => ⟨ds4, H3, q, E3, e2.trans e3⟩) r
  · rintro σ' H' ⟨ds2, H2, hI, E2, e2⟩
    rw [r2.length] at hI
    exact nx σ' H2 H' ds2 (hd l p2 ds2 hI) E2 (e1.trans e2)
end
section
variable {k : Kw}
theorem XR.mono {ι : Type} {Y : ι → Cx} {k : Kw} {e : Expr} {ds : EV} {P P' : Dt → Prop} (h : XR Y k e ds P) (m : ∀ d, P d → P' d) : XR Y k e ds P' := fun M G0 G σ H0 H E Q q => h M G0 G σ H0 H E Q fun v H0' H' d p => q v H0' H' d (m d p)
theorem keyD_t (t : OT) : keyD (tK t) = tD t := by cases t <;> rfl
def wD (x : Nat × OT) : Dt := .tup [dI x.1, tD x.2]
abbrev kK (K : List (List OT)) : List (List TK) := K.map fun ks => ks.map tK
theorem kK_set {K : List (List OT)} {i : Nat} {ks : List OT} {t : OT} : (kK K).set i (ks.map tK ++ [tK t]) = kK (K.set i (ks ++ [t])) := by
  unfold kK
  rw [List.map_set, List.map_append]
  rfl
theorem tD_ok (t : OT) : okD 1 (tD t) = true := by
  cases t with
  | none => rfl
  | some x => cases x <;> rfl
theorem wD_ok (W : WL) : (W.map wD).all (okD 2) = true := by
  rw [List.all_map]
  refine List.all_eq_true.mpr fun x _ => ?_
  obtain ⟨i, t⟩ := x
  cases t with
  | none => rfl
  | some x => cases x <;> rfl
structure PapR (code : List Row) (rl : Rule) (P : List (List Tok)) : Prop where
  len : P.length = code.length
  nd : ∀ l ∈ P, l.Nodup ∧ l.length ≤ 521
  cl : ∃ K : List (List OT), At K 0 none ∧ (∀ i t, At K i t → Cl code rl K i t) ∧ ∀ i t, At K i (some t) → ∃ l, P[i]? = some l ∧ t ∈ l
def pD (P : List (List Tok)) : Dt := .lst (P.map fun l => .lst (l.map Tok.e))
def F_paper_of : List Dt → (Dt → Prop) → Prop := fun ds R => ∃ (code : List Row) (rl : Rule), ds = [codeD code, rl.e] ∧ rl.ok ∧ CodeG code ∧ R = fun d => ∃ P, d = pD P ∧ PapR code rl P
theorem get_some {α : Type} {l : List α} {i : Nat} (h : i < l.length) : ∃ x, l[i]? = some x := ⟨_, List.getElem?_eq_getElem h⟩
theorem somes {ks : List OT} : ∃ l : List Tok, (ks.map tK).filterMap id = l.map Tok.l ∧ (∀ t, t ∈ l ↔ some t ∈ ks) ∧ (ks.Nodup → l.Nodup) ∧ l.length ≤ ks.length := by
  induction ks with
  | nil => exact ⟨[], rfl, fun t => by simp, fun _ => List.nodup_nil, Nat.le_refl _⟩
  | cons x r ih =>
    obtain ⟨l, h1, h2, h3, h4⟩ := ih
    cases x with
    | none => exact ⟨l, h1, fun t => by rw [h2]; simp, fun h => h3 (List.nodup_cons.mp h).2, Nat.le_succ_of_le h4⟩
    | some y =>
      refine ⟨y :: l, by rw [List.map_cons]; show y.l :: (r.map tK).filterMap id = _; rw [h1]; rfl, fun t => by rw [List.mem_cons, List.mem_cons, h2]; simp, fun h => ?_, by simp only [List.length_cons]; omega⟩
      rw [List.nodup_cons] at h ⊢
      exact ⟨fun z => h.1 ((h2 y).mp z), h3 h.2⟩
def sc_pap : Scope := match (C8.fnBody s_paper_of).getD 4 (.Pass ⟨0, 0, 0, 0⟩) with
  | .Return (some (.ListComp _ _ sc _)) _ => sc
  | _ => ⟨.function, [], false, false, []⟩
theorem c_paper_of (hd : Hd k) : CalK k 7 "paper_of" (spP k F_paper_of) := by
  refine defP (N := ["code", "rule", "known", "row", "waiting", "at", "token", "there", "to", "tokens"]) (ps := ["code", "rule"]) (st := s_paper_of) (hd.def_ 16 16 75 rfl rfl rfl) (fun _ _ _ _ _ _ us hl => match us, hl with | [_, _], _ => rfl) (by decide +kernel) (fun ds R h => ?_) (fun f cdv A outer s H E g ds R h => ?_)
  · obtain ⟨code, rl, rfl, _⟩ := h; rfl
  · obtain ⟨code, rl, rfl, okl, cg, rfl⟩ := h
    have hm : rl.rooms.length ≤ 3 := okl.few
    refine b_newKn 2 "row" 3 ["code", "rule", "known", "row", "waiting", "at", "token", "there", "to", "tokens"] (C8.fnScope s_paper_of) g (x_name 0 rfl) (by rw [List.length_map]; have := cg.few; omega) ?_
    have e0 : (List.replicate (code.map Row.e).length ([] : List TK)) = kK (List.replicate code.length []) := by
      rw [List.length_map]; unfold kK; rw [List.map_replicate]; rfl
    rw [e0]
    have h00 : (List.replicate code.length ([] : List OT))[0]? = some [] := by rw [List.getElem?_replicate, if_pos cg.pos]
    refine b_setKn g 2 (i := 0) (ks := []) (t := none) rfl (by rw [List.getElem?_map, h00]; rfl) x_int x_non (by simp) (by decide) ?_
    have e1 : (kK (List.replicate code.length [])).set 0 ([] ++ [none]) = kK ((List.replicate code.length []).set 0 ([] ++ [none])) := kK_set (ks := []) (t := none)
    rw [e1]
    have p0 : PInv rl.rooms.length code.length (List.replicate code.length []) := ⟨List.length_replicate, fun ks h => by rw [(List.mem_replicate.mp h).2]; exact List.nodup_nil, fun ks h t ht => by rw [(List.mem_replicate.mp h).2] at ht; cases ht⟩
    have noat : ∀ i t, ¬ At (List.replicate code.length ([] : List OT)) i t := fun i t ⟨ks, h1, h2⟩ => by
      rw [(List.mem_replicate.mp (List.mem_of_getElem? h1)).2] at h2; cases h2
    have p1 := p0.add (t := none) h00 (by simp) (fun x h => by cases h)
    refine b_new 4 (xa_cons (x_tup (xa_cons x_int (xa_cons x_non xa_nil))) xa_nil) ?_
    refine b_whileT (fun m ds1 => ∃ (K : List (List OT)) (W : WL) (x3 x5 x6 x7 x8 x9 : Option Ent), ds1 = [some (.d (codeD code)), some (.d rl.e), some (.m true (mKn k (kK K))), x3, some (.m true (mL k (W.map wD))), x5, x6, x7, x8, x9] ∧ PW code rl rl.rooms.length K W ∧ m = 2 * (521 * code.length - total K) + W.length)
      (2 * (521 * code.length - total ((List.replicate code.length ([] : List OT)).set 0 ([] ++ [none]))) + 1) ⟨_, [(0, none)], none, none, none, none, none, none, rfl, ⟨p1, fun x hx => ?_, (at_add h00).mpr (.inr ⟨rfl, rfl⟩), fun i t h => ?_, by rw [total_add h00]; exact Nat.le_add_left _ _⟩, rfl⟩ ?_
    · rw [List.mem_singleton.mp hx]; exact (at_add h00).mpr (.inr ⟨rfl, rfl⟩)
    · rcases (at_add h00).mp h with z | ⟨rfl, rfl⟩
      · exact absurd z (noat _ _)
      · exact .inl (List.mem_singleton.mpr rfl)
    · rintro m ds1 ⟨K, W, x3, x5, x6, x7, x8, x9, rfl, pw, rfl⟩
      refine ⟨!(W.map wD).isEmpty, xx_neNil (rest := []) g 4 2 rfl (wD_ok W) (by decide), fun hW => ?_, fun hW => ?_⟩
      · -- a turn
        have hne : W ≠ [] := fun e => by rw [e] at hW; cases hW
        obtain ⟨W0, w, rfl⟩ : ∃ W0 w, W = W0 ++ [w] := ⟨W.dropLast, W.getLast hne, (List.dropLast_concat_getLast hne).symm⟩
        obtain ⟨i, t⟩ := w
        have hat : At K i t := pw.wk (i, t) (List.mem_append_right _ (List.mem_singleton.mpr rfl))
        obtain ⟨ks0, hks0, hts⟩ := hat
        have hi : i < code.length := by rw [← pw.inv.len]; exact (List.getElem?_eq_some_iff.mp hks0).1
        obtain ⟨r, hr⟩ := get_some hi
        have okr : r.ok := cg.ok r (List.mem_of_getElem? hr)
        have okt : ∀ x, t = some x → x.ok rl.rooms.length := fun x e => pw.inv.okk _ (List.mem_of_getElem? hks0) x (by rw [← e]; exact hts)
        refine b_unp (xx_pop (l := W0.map wD) (d := wD (i, t)) (own := true) g 4 (by rw [List.map_append]; rfl)) ?_
        rintro d ds1 ⟨rfl, rfl⟩
        refine ⟨_, xg_tup g (xgs_cons (xg_name 5) (xgs_cons (xg_name 6) xgs_nil)), ?_⟩
        have pj0 : PJ rl.rooms.length code.length K W0 K W0 := PJ.refl pw.inv (fun x hx => pw.wk x (List.mem_append_left _ hx)) (by have := pw.wl; rw [List.length_append] at this; omega)
        refine b_forP (P := fun l => ∃ lo : List OT, l = lo.map tD ∧ (∀ y, y ∈ lo ↔ y ∈ allB rl r t))
          (fun l a ds1 => ∃ (lo : List OT) (K' : List (List OT)) (W' : WL) (x7 x8 : Option Ent), l = lo.map tD ∧ ds1 = [some (.d (codeD code)), some (.d rl.e), some (.m true (mKn k (kK K'))), x3, some (.m true (mL k (W'.map wD))), some (.d (dI i)), some (.d (tD t)), x7, x8, x9] ∧ PJ rl.rooms.length code.length K W0 K' W' ∧ ∀ b y, b < a → lo[b]? = some y → ∀ n ∈ succs r i, At K' n y)
          g ((xx_call g (c_all_behind hd) (by decide) (xa_cons (x_name 0 rfl) (xa_cons (x_name 1 rfl) (xa_cons (x_name 5 rfl) (xa_cons (x_name 6 rfl) xa_nil)))) ⟨code, rl, i, t, r, rfl, hr, okl, okr, okt, rfl⟩).mono fun d ds' ⟨⟨lo, h1, h2, h3⟩, h4⟩ => ⟨⟨_, h1, lo, rfl, h2⟩, h4⟩) ?_ ?_ ?_
        · rintro l ⟨lo, rfl, hlo⟩
          exact ⟨lo, K, W0, _, _, rfl, rfl, pj0, fun b y hb => absurd hb (Nat.not_lt_zero _)⟩
        · rintro l ⟨lo, rfl, hlo⟩ a d ds1 hd1 ⟨lo', K', W', x7', x8', el, rfl, pj, hdone⟩
          have elo : lo = lo' := tDs_inj el
          subst elo
          refine ⟨_, xg_name 7, ?_⟩
          rw [List.getElem?_map] at hd1
          cases hy : lo[a]? with
          | none => rw [hy] at hd1; cases hd1
          | some y =>
            rw [hy] at hd1
            cases hd1
            have oky : ∀ x, y = some x → x.ok rl.rooms.length := allB_ok okl okr okt y ((hlo y).mp (List.mem_of_getElem? hy))
            refine b_forP (P := fun l => ∃ ln : List Nat, l = ln.map dI ∧ (∀ n, n ∈ ln ↔ n ∈ succs r i))
              (fun l b ds1 => ∃ (ln : List Nat) (K'' : List (List OT)) (W'' : WL) (x8 : Option Ent), l = ln.map dI ∧ ds1 = [some (.d (codeD code)), some (.d rl.e), some (.m true (mKn k (kK K''))), x3, some (.m true (mL k (W''.map wD))), some (.d (dI i)), some (.d (tD t)), some (.d (tD y)), x8, x9] ∧ PJ rl.rooms.length code.length K W0 K'' W'' ∧ (∀ b y, b < a → lo[b]? = some y → ∀ n ∈ succs r i, At K'' n y) ∧ ∀ c n, c < b → ln[c]? = some n → At K'' n y)
              g ((xx_call g (c_rows_behind hd) (by decide) (xa_cons (x_name 0 rfl) (xa_cons (x_name 5 rfl) xa_nil)) ⟨code, i, r, rfl, hr, rfl⟩).mono fun d ds' ⟨⟨ln, h1, h2, h3⟩, h4⟩ => ⟨⟨_, h1, ln, rfl, h2⟩, h4⟩) ?_ ?_ ?_
            · rintro l ⟨ln, rfl, hln⟩
              exact ⟨ln, K', W', _, rfl, rfl, pj, hdone, fun c n hc => absurd hc (Nat.not_lt_zero _)⟩
            · rintro l ⟨ln, rfl, hln⟩ b d ds1 hd1 ⟨ln', K'', W'', x8'', el2, rfl, pj2, hdone2, hin⟩
              have eln : ln = ln' := dIs_inj el2
              subst eln
              refine ⟨_, xg_name 8, ?_⟩
              rw [List.getElem?_map] at hd1
              cases hn : ln[b]? with
              | none => rw [hn] at hd1; cases hd1
              | some n =>
                rw [hn] at hd1
                cases hd1
                have hnL : n < code.length := cg.suc i r hr n ((hln n).mp (List.mem_of_getElem? hn))
                obtain ⟨ks, hks⟩ := get_some (l := K'') (i := n) (by rw [pj2.inv.len]; exact hnL)
                have hkk : (kK K'')[n]? = some (ks.map tK) := by rw [List.getElem?_map, hks]; rfl
                have hkl : (ks.map tK).length < 100000 := by
                  have := keys_len hm (pj2.inv.nd _ (List.mem_of_getElem? hks)) (pj2.inv.okk _ (List.mem_of_getElem? hks))
                  rw [List.length_map]; omega
                have done : ∀ {K3 : List (List OT)}, (∀ a s, At K'' a s → At K3 a s) → At K3 n y → (∀ b y, b < a → lo[b]? = some y → ∀ n ∈ succs r i, At K3 n y) ∧ ∀ c n, c < b + 1 → ln[c]? = some n → At K3 n y := fun up hy3 => by
                  refine ⟨fun b y hb hy n hn => up _ _ (hdone2 b y hb hy n hn), fun c n' hc hc' => ?_⟩
                  by_cases q : c < b
                  · exact up _ _ (hin c n' q hc')
                  · have : c = b := by omega
                    subst this
                    rw [hn] at hc'
                    cases hc'
                    exact hy3
                refine b_if (t_c (q_niKn (t := tK y) g 2 rfl hkk (x_name 8 rfl) (XD.is (x_name 7 rfl) (keyD_t y).symm))) (fun q => ?_) (fun q => ?_)
                · have hny : y ∉ ks := fun z => by
                    have : decide (tK y ∈ ks.map tK) = true := decide_eq_true (mem_tK.mpr z)
                    rw [this] at q; cases q
                  refine b_setKn g 2 (i := n) (t := tK y) rfl hkk (x_name 8 rfl) (XD.is (x_name 7 rfl) (keyD_t y).symm) (fun z => hny (mem_tK.mp z)) hkl ?_
                  rw [kK_set]
                  have pj3 := pj2.add hm hks hny oky
                  refine b_app 4 rfl g (x_tup (xa_cons (x_name 8 rfl) (xa_cons (x_name 7 rfl) xa_nil))) ?_ ?_
                  · have ew : W''.map wD ++ [Dt.tup [dI n, tD y]] = (W'' ++ [(n, y)]).map wD := by rw [List.map_append]; rfl
                    rw [ew]
                    obtain ⟨d1, d2⟩ := done (K3 := K''.set n (ks ++ [y])) (fun a s h => (at_add hks).mpr (.inl h)) ((at_add hks).mpr (.inr ⟨rfl, rfl⟩))
                    exact b_nil (b_nil ⟨ln, _, W'' ++ [(n, y)], _, rfl, rfl, pj3, d1, d2⟩)
                  · rw [List.length_map]
                    have h1 := pj2.wl
                    have h2 := pj2.inv.total hm
                    have h3 := cg.few
                    omega
                · have hyy : y ∈ ks := by
                    have q' : (!decide (tK y ∈ ks.map tK)) = false := q
                    by_cases z : tK y ∈ ks.map tK
                    · exact mem_tK.mp z
                    · rw [decide_eq_false z] at q'; cases q'
                  obtain ⟨d1, d2⟩ := done (K3 := K'') (fun a s h => h) ⟨ks, hks, hyy⟩
                  exact b_nil (b_nil ⟨ln, _, W'', _, rfl, rfl, pj2, d1, d2⟩)
            · rintro l ⟨ln, rfl, hln⟩ ds1 ⟨ln', K'', W'', x8'', el2, rfl, pj2, hdone2, hin⟩
              have eln : ln = ln' := dIs_inj el2
              subst eln
              refine b_nil ⟨lo, K'', W'', _, _, rfl, rfl, pj2, fun b y' hb hy' n hn => ?_⟩
              by_cases q : b < a
              · exact hdone2 b y' q hy' n hn
              · have : b = a := by omega
                subst this
                rw [hy] at hy'
                cases hy'
                obtain ⟨c, hc⟩ := List.mem_iff_getElem?.mp ((hln n).mpr hn)
                exact hin c n (by rw [List.length_map]; exact (List.getElem?_eq_some_iff.mp hc).1) hc
        · rintro l ⟨lo, rfl, hlo⟩ ds1 ⟨lo', K', W', x7', x8', el, rfl, pj, hdone⟩
          have elo : lo = lo' := tDs_inj el
          subst elo
          have dn : ∀ y ∈ allB rl r t, ∀ n ∈ succs r i, At K' n y := fun y hy n hn => by
            obtain ⟨b, hb⟩ := List.mem_iff_getElem?.mp ((hlo y).mpr hy)
            exact hdone b y (by rw [List.length_map]; exact (List.getElem?_eq_some_iff.mp hb).1) hb n hn
          refine b_nil ⟨2 * (521 * code.length - total K') + W'.length, ?_, K', W', x3, _, _, x7', x8', x9, rfl, pw.next hr pj dn, rfl⟩
          have := pj.ms
          rw [List.length_append]
          simp only [List.length_cons, List.length_nil]
          omega
      · have hW0 : W = [] := by
          cases W with
          | nil => rfl
          | cons w W => cases hW
        subst hW0
        refine b_frzKn 2 rfl ?_
        have hkl : (kK K).length ≤ 50000 := by rw [List.length_map, pw.inv.len]; have := cg.few; omega
        refine b_retX (xr_lc "tokens" 9 ["code", "rule", "known", "row", "waiting", "at", "token", "there", "to", "tokens"] (C8.fnScope s_paper_of) (l := (kK K).map .dct) g (fun i d => ∃ (ks : List OT) (l' : List (List Int)), K[i]? = some ks ∧ d = .lst (l'.map eTu) ∧ l'.Perm ((ks.map tK).filterMap id)) (x_name 2 rfl) (by rw [List.length_map]; exact hkl) (fun i d hd1 => ?_)).xx ?_
        · rw [List.getElem?_map, List.getElem?_map] at hd1
          cases hk : K[i]? with
          | none => rw [hk] at hd1; cases hd1
          | some ks =>
            rw [hk] at hd1
            cases hd1
            have hkm := List.mem_of_getElem? hk
            have hlen := keys_len hm (pw.inv.nd ks hkm) (pw.inv.okk ks hkm)
            obtain ⟨lt, hl1, _⟩ := somes (ks := ks)
            refine XR.mono (xr_sortTu (bk_good g) hd.sorted (x_lcDict "token" 6 9 ["code", "rule", "known", "row", "waiting", "at", "token", "there", "to", "tokens"] (relS sc_pap (C8.fnScope s_paper_of)) (bk_good g) (ks := ks.map tK) rfl (by rw [List.length_map]; omega) (Nat.le_of_ble_eq_true rfl)) (fun t ht => ?_)) fun d ⟨l', e1, e2⟩ => ⟨ks, l', rfl, e1, e2⟩
            rw [hl1] at ht
            obtain ⟨z, _, rfl⟩ := List.mem_map.mp ht
            exact z.ne
        · rintro d ds' ⟨⟨l', rfl, h1, h2⟩, rfl⟩
          have key : ∀ (i : Nat) (d : Dt), l'[i]? = some d → ∃ (ks : List OT) (p : List Tok), K[i]? = some ks ∧ d = .lst (p.map Tok.e) ∧ (∀ t, t ∈ p ↔ some t ∈ ks) ∧ p.Nodup ∧ p.length ≤ 521 := fun i d hd1 => by
            obtain ⟨ks, l2, hk, e1, e2⟩ := h2 i d hd1
            obtain ⟨lt, hl1, hl2, hl3, hl4⟩ := somes (ks := ks)
            rw [hl1] at e2
            have hkm := List.mem_of_getElem? hk
            obtain ⟨p, rfl, hp⟩ := toks_same (ts := lt) fun x => e2.mem_iff
            obtain ⟨p2, hp2, e3⟩ := perm_map_back e2 lt rfl
            have ep : p = p2 := by
              have inj : ∀ {a b : List Tok}, a.map Tok.l = b.map Tok.l → a = b := by
                intro a
                induction a with
                | nil => intro b h; cases b with | nil => rfl | cons _ _ => cases h
                | cons y a ih =>
                  intro b h
                  cases b with
                  | nil => cases h
                  | cons z b =>
                    rw [List.map_cons, List.map_cons] at h
                    injection h with h1 h2
                    rw [ih h2, Tok.l_inj h1]
              exact inj e3
            subst ep
            exact ⟨ks, p, hk, by rw [e1, eTu_map], fun t => (hp t).trans (hl2 t), hp2.nodup_iff.mpr (hl3 (pw.inv.nd ks hkm)), by
              rw [hp2.length_eq]
              have := keys_len hm (pw.inv.nd ks hkm) (pw.inv.okk ks hkm)
              omega⟩
          have all : ∀ (n : Nat) (l : List Dt), (∀ (i : Nat) (d : Dt), l[i]? = some d → ∃ (ks : List OT) (p : List Tok), K[n + i]? = some ks ∧ d = .lst (p.map Tok.e) ∧ (∀ t, t ∈ p ↔ some t ∈ ks) ∧ p.Nodup ∧ p.length ≤ 521) →
              ∃ P : List (List Tok), l = P.map (fun p => .lst (p.map Tok.e)) ∧ ∀ (i : Nat) (p : List Tok), P[i]? = some p → ∃ ks, K[n + i]? = some ks ∧ (∀ t, t ∈ p ↔ some t ∈ ks) ∧ p.Nodup ∧ p.length ≤ 521 := by
            intro n l
            induction l generalizing n with
            | nil => intro _; exact ⟨[], rfl, fun i p h => by simp at h⟩
            | cons x r ih =>
              intro h
              obtain ⟨ks, p, g1, g2, g3⟩ := h 0 x rfl
              obtain ⟨P, e1, e2⟩ := ih (n + 1) fun i d hd1 => by
                have := h (i + 1) d hd1
                rwa [show n + (i + 1) = n + 1 + i by omega] at this
              refine ⟨p :: P, by rw [e1, g2]; rfl, fun i p' hp' => ?_⟩
              cases i with
              | zero => cases hp'; exact ⟨ks, g1, g3⟩
              | succ i =>
                have := e2 i p' hp'
                rwa [show n + 1 + i = n + (i + 1) by omega] at this
          obtain ⟨P, rfl, hP⟩ := all 0 l' fun i d hd1 => by rw [Nat.zero_add]; exact key i d hd1
          refine ⟨P, rfl, ⟨?_, fun p hp => ?_, K, pw.root, fun i t h => ?_, fun i t h => ?_⟩⟩
          · rw [List.length_map, List.length_map, List.length_map, pw.inv.len] at h1
            exact h1
          · obtain ⟨i, hi⟩ := List.mem_iff_getElem?.mp hp
            obtain ⟨ks, _, _, h3, h4⟩ := hP i p hi
            exact ⟨h3, h4⟩
          · rcases pw.cl i t h with z | z
            · cases z
            · exact z
          · obtain ⟨ks, hk, ht⟩ := h
            have hi : i < P.length := by
              rw [List.length_map, List.length_map, List.length_map] at h1
              rw [h1]; exact (List.getElem?_eq_some_iff.mp hk).1
            obtain ⟨p, hp⟩ := get_some hi
            obtain ⟨ks', k1, k2, _⟩ := hP i p hp
            rw [Nat.zero_add, hk] at k1
            cases k1
            exact ⟨p, hp, (k2 t).mpr ht⟩
end
end Uw
end
section
set_option Elab.async false
set_option linter.all false
set_option maxRecDepth 100000
set_option maxHeartbeats 4000000
namespace Uw
open PySem PySem.Spec PyProof.Rows L2 Evl
/-! programs, their lines: plain mathematics -/
inductive Pst where
  | opn (x : PySem.Str) | act (w x : PySem.Str) | cpy (x y : PySem.Str) | drp (x : PySem.Str) | tie (x y : PySem.Str)
def Pst.ws : Pst → List PySem.Str
  | .opn x => ["open", x]
  | .act w x => ["do", w, x]
  | .cpy x y => ["copy", x, y]
  | .drp x => ["drop", x]
  | .tie x y => ["tie", x, y]
inductive Stp where
  | pl (p : Pst) | le (x y : PySem.Str) (s : List Stp) | if_ (b : Int) (s t : List Stp) | wh (b : Int) (s : List Stp)
mutual
def Stp.e : Stp → Dt
  | .pl p => .tup (p.ws.map .str)
  | .le x y s => .tup [.str "lend", .str x, .str y, .lst (Stp.es s)]
  | .if_ b s t => .tup [.str "if", .int b, .lst (Stp.es s), .lst (Stp.es t)]
  | .wh b s => .tup [.str "while", .int b, .lst (Stp.es s)]
def Stp.es : List Stp → List Dt
  | [] => []
  | x :: r => Stp.e x :: Stp.es r
end
theorem es_map : ∀ l : List Stp, Stp.es l = l.map Stp.e
  | [] => by simp [Stp.es]
  | x :: r => by simp [Stp.es, es_map r]
inductive Line where
  | ws (l : List PySem.Str) | num (w : Bool) (z : PySem.Str)
def Line.text : Line → PySem.Str
  | .ws l => Txt.join " " l
  | .num true z => "while " ++ z
  | .num false z => "if " ++ z
def Line.nm : Line → List PySem.Str
  | .ws (h :: r) => if h = "do" then r.drop 1 else r
  | _ => []
def numS (b : Int) : PySem.Str := Str.ofString (toString b)
mutual
def Stp.lines : Stp → List Line
  | .pl p => [.ws p.ws]
  | .le x y s => .ws ["lend", x, y] :: (Stp.liness s ++ [.ws ["back"]])
  | .if_ b s t => .num false (numS b) :: (Stp.liness s ++ (.ws ["else"] :: (Stp.liness t ++ [.ws ["fi"]])))
  | .wh b s => .num true (numS b) :: (Stp.liness s ++ [.ws ["done"]])
def Stp.liness : List Stp → List Line
  | [] => []
  | x :: r => Stp.lines x ++ Stp.liness r
end
mutual
def Stp.ht : Stp → Nat
  | .pl _ => 0
  | .le _ _ s => Stp.hts s + 1
  | .if_ _ s t => max (Stp.hts s) (Stp.hts t) + 1
  | .wh _ s => Stp.hts s + 1
def Stp.hts : List Stp → Nat
  | [] => 0
  | x :: r => max (Stp.ht x) (Stp.hts r)
end
mutual
/-- how many lends -/
def Stp.nl : Stp → Nat
  | .pl _ => 0
  | .le _ _ s => Stp.nls s + 1
  | .if_ _ s t => Stp.nls s + Stp.nls t
  | .wh _ s => Stp.nls s
def Stp.nls : List Stp → Nat
  | [] => 0
  | x :: r => Stp.nl x + Stp.nls r
end
mutual
/-- rows, plain -/
def Stp.n : Stp → Nat
  | .pl _ => 1
  | .le _ _ s => Stp.ns s + 6
  | .if_ _ s t => Stp.ns s + Stp.ns t + 2
  | .wh _ s => Stp.ns s + 2
def Stp.ns : List Stp → Nat
  | [] => 0
  | x :: r => Stp.n x + Stp.ns r
end
/-- a word: short, without a blank -/
def Wd (x : PySem.Str) : Prop := 32 ∉ x.cps.toList ∧ x.length ≤ 100 ∧ PyData.strOk x = true
def Pst.ok (nm : List PySem.Str) : Pst → Prop
  | .opn x | .drp x => x ∈ nm
  | .act w x => Wd w ∧ x ∈ nm
  | .cpy x y | .tie x y => x ∈ nm ∧ y ∈ nm
mutual
def Stp.ok (nm : List PySem.Str) : Stp → Prop
  | .pl p => p.ok nm
  | .le x y s => x ∈ nm ∧ y ∈ nm ∧ Stp.oks nm s
  | .if_ b s t => b.natAbs.log2 < 1920 ∧ Stp.oks nm s ∧ Stp.oks nm t
  | .wh b s => b.natAbs.log2 < 1920 ∧ Stp.oks nm s
def Stp.oks (nm : List PySem.Str) : List Stp → Prop
  | [] => True
  | x :: r => Stp.ok nm x ∧ Stp.oks nm r
end
theorem oks_mem {nm : List PySem.Str} : ∀ {l : List Stp}, Stp.oks nm l → ∀ x ∈ l, x.ok nm
  | [], _, x, h => by cases h
  | y :: l, h, x, hx => by
    rw [Stp.oks] at h
    rcases List.mem_cons.mp hx with z | z
    · rw [z]; exact h.1
    · exact oks_mem h.2 x z
theorem hts_le {l : List Stp} {n : Nat} (h : Stp.hts l ≤ n) : ∀ x ∈ l, x.ht ≤ n := by
  induction l with
  | nil => intro x h; cases h
  | cons y l ih =>
    rw [Stp.hts] at h
    intro x hx
    rcases List.mem_cons.mp hx with z | z
    · rw [z]; omega
    · exact ih (by omega) x z
/-! words of a line -/
theorem tl_str (x : PySem.Str) : TL.tl x = x.cps.toList := rfl
theorem txt_words {l : List PySem.Str} (hne : l ≠ []) (h : ∀ x ∈ l, 32 ∉ x.cps.toList) : Txt.split (Txt.join " " l) " " = l := by
  have e1 : l = (l.map fun x => x.cps.toList).map SX.S := by
    rw [List.map_map]
    have : (SX.S ∘ fun x : PySem.Str => x.cps.toList) = id := by funext x; exact SX.S_tl x
    rw [this, List.map_id]
  have e2 : (" " : PySem.Str) = SX.S [32] := by decide
  have e3 : Txt.join " " l = SX.S (TL.joinL [32] (l.map fun x => x.cps.toList)) := by
    conv => lhs; rw [e1, e2]
    exact SX.join_S _ _
  rw [e3]
  conv => lhs; rw [e2]
  rw [SX.split_S (by simp) (by decide), SX.spl_join (c := 32) (sep := []) (parts := l.map fun x => x.cps.toList) (by simpa using hne) (fun p hp => by
    obtain ⟨x, hx, rfl⟩ := List.mem_map.mp hp
    exact h x hx)]
  exact e1.symm
theorem split_head {w z : PySem.Str} (h : 32 ∉ w.cps.toList) : ∃ r, Txt.split (w ++ " " ++ z) " " = w :: r := by
  have e2 : (" " : PySem.Str) = SX.S [32] := by decide
  have e3 : w ++ " " ++ z = SX.S (w.cps.toList ++ ([32] ++ z.cps.toList)) := by
    refine TL.ext_tl ?_
    rw [TL.tl_append, TL.tl_append]
    show (w.cps.toList ++ [32]) ++ z.cps.toList = w.cps.toList ++ ([32] ++ z.cps.toList)
    rw [List.append_assoc]
  rw [e3]
  conv => arg 1; intro r; lhs; rw [e2]
  rw [SX.split_S (by simp) (by decide), TL.spl_part1 (s := 32) (S := []) (acc := []) h]
  exact ⟨_, by rw [List.map_cons, List.nil_append, SX.S_tl]⟩
end Uw
end
section
set_option Elab.async false
set_option linter.all false
set_option maxRecDepth 100000
set_option maxHeartbeats 4000000
namespace Uw
open PySem PySem.Spec PyProof.Rows L2 Evl
section
variable {X : Cx} {k : Kw} {lv : Nat} {ds : EV} {e a b c : Expr} {pos : Pos} {rest : List Stmt} {N : EV → Prop} {R : Ent → EV → Prop}
/-- x.extend(e) -/
theorem b_ext (n : Nat) {x : PySem.Str} {p p2 p3 : Pos} {own : Bool} {l m : List Dt} (hx : ds[n]? = some (some (.m own (mL k l)))) (g : Good (yX X) k lv) (h : XD (yX X) k e ds (.lst m)) (mm : XB X k rest (ds.set n (some (.m own (mL k (l ++ m))))) N R)
    (hz : l.length + m.length ≤ 100000) (hN : X.N[n]? = some x := by rfl) (hv : Vis X.env.scope x := by first | exact .inl rfl | exact .inr (.inl rfl) | exact .inr (.inr rfl)) (h1 : (x == ("__debug__" : PySem.Str)) = false := by decide) (h2 : (x == ("__classdict__" : PySem.Str)) = false := by decide)
    (a1 : attributeBase (.Name x p) "extend" X.env (eval (.Name x p) X.env) = eval (.Name x p) X.env := by rfl)
    (a2 : ((((backTo p3 (starEach [e] X.env)).all fun x => !x.1) && (backToKw p3 (keywordEach [] X.env)).all fun x => x.1.isSome) && decide (([e].length + ([] : List Keyword).length + if ([] : List Keyword).isEmpty then 0 else 1) < 30)) = true := by rfl)
    (a3 : (p2.endLine == p3.line) = true := by rfl) (a4 : starEach [e] X.env = (false, eval e X.env) :: starEach [] X.env := by rfl)
    (hs : swapsWith (.Call (.Attribute (.Name x p) "extend" p2) [e] [] p3) none pos.line X.env = pure false := by rfl) : XB X k (.Expr (.Call (.Attribute (.Name x p) "extend" p2) [e] [] p3) pos :: rest) ds N R := by
  obtain ⟨te, pe, ee⟩ := h
  refine b_st (ps_expr (pe_bm PySem.F.plainAttrs_list PySem.F.slot_list_extend PySem.F.type_list_extend mt_extend (tE_slot hN hv h1 h2) (pa_cons (pe ()) pa_nil a4) a1 a2 a3 a4) hs) fun M G0 G σ H0 H D E nx r => ?_
  obtain ⟨q, xs, s1, s2, s3⟩ := E.getM hx
  refine ⟨.ref q, s1, .inl ⟨rfl, _, sq_of s2⟩, ee M G0 G σ H0 H E _ fun v H1 H1' E1 e1 r1 => ?_⟩
  cases r1
  rename_i b0 ys r1 r2
  obtain ⟨q', xs', t1, t2, t3⟩ := E1.getM hx
  rw [s1] at t1
  cases t1
  exact ⟨q, b0, xs', ys, rfl, rfl, t2, E1.wld.in_ _ _ r1, sz_of (by rw [t3.length, r2.length]; exact hz), nx σ H1 _ _ mm (E1.mutL hx s1 (t3.app r2)) e1.fz⟩
/-! a dict of texts, all of them True, that changes -/
def skv (ks : List PySem.Str) : List (Key × V) := ks.map fun s => (Sum.inr s, V.bl true)
def mSk (ks : List PySem.Str) : Mut where
  at_ v H0 H fp := ∃ p, v = .ref p ∧ fp = [p] ∧ H p = some (.dK (skv ks))
  keep := by
    rintro v H0 H H0' H' fp ⟨p, rfl, rfl, h⟩ e kp
    exact ⟨p, rfl, rfl, by rw [kp p List.mem_cons_self]; exact h⟩
theorem Env.getSk {M : List Addr × V} {G0 G H0 H : Hp} {σ : L2.St} (E : Env k M G0 G σ H0 H ds) {n : Nat} {own : Bool} {ks : List PySem.Str} (h : ds[n]? = some (some (.m own (mSk ks)))) : ∃ p, σ[n]? = some (some (.ref p)) ∧ H p = some (.dK (skv ks)) := by
  obtain ⟨F, f, _⟩ := E.ent
  obtain ⟨v, h1, ⟨p, rfl, _, h2⟩, _⟩ := f n _ h
  exact ⟨p, h1, h2⟩
def addS (ks : List PySem.Str) (s : PySem.Str) : List PySem.Str := if s ∈ ks then ks else ks ++ [s]
theorem put_skv {ks : List PySem.Str} {s : PySem.Str} : putK (skv ks) (Sum.inr s : Key) (V.bl true) = skv (addS ks s) := by
  unfold putK
  by_cases h : s ∈ ks
  · have h1 : (skv ks).any (fun kv => decide (kv.1 = Sum.inr s)) = true := by
      rw [skv, List.any_map]
      exact List.any_eq_true.mpr ⟨s, h, by simp⟩
    rw [if_pos h1, addS, if_pos h, skv, List.map_map]
    apply List.map_congr_left
    intro a _
    show (if (Sum.inr a : Key) = Sum.inr s then ((Sum.inr a : Key), V.bl true) else (Sum.inr a, V.bl true)) = _
    split <;> rfl
  · have h1 : (skv ks).any (fun kv => decide (kv.1 = Sum.inr s)) = false := by
      rw [skv, List.any_map]
      refine List.any_eq_false.mpr fun x hx => ?_
      simp only [Function.comp]
      intro z
      have := of_decide_eq_true z
      injection this with e
      exact h (by rw [← e]; exact hx)
    rw [h1, addS, if_neg h]
    simp [skv]
theorem b_newSk (n : Nat) {x : PySem.Str} {p p2 : Pos} (m : XB X k rest (ds.set n (some (.m true (mSk [])))) N R) (hd : X.N.Nodup := by exact Good.nd (Y := yX _) (by assumption) ()) (hN : X.N[n]? = some x := by rfl) (hl : Loc X.env.scope x := by first | exact .inl rfl | exact .inr rfl)
    (hs : swapsWith (.Dict [] [] p2) (some (.Name x p)) pos.line X.env = pure false := by rfl) (hf : X.fn x = true ∨ X.env.scope.names.lookup x = some .local := by first | exact .inr rfl | exact .inl rfl) : XB X k (.Assign [.Name x p] (.Dict [] [] p2) pos :: rest) ds N R := by
  refine b_st (ps_set hd hN hl pe_dnewK hs hf) fun M G0 G σ H0 H D E nx r => fun q hq => ?_
  refine nx _ H0 _ _ m (E.setM (fp := [q]) (fun b hb => ?_) (fun b hb => ?_) ⟨q, rfl, rfl, upd_same⟩) (Ex.refl _)
  · exact upd_ne fun z => hb (by rw [z]; exact List.mem_cons_self)
  · rw [List.mem_singleton.mp hb]; exact ⟨hq, by rw [upd_same]; exact fun z => nomatch z⟩
theorem b_putSk (g : Good (yX X) k lv) (n : Nat) {x : PySem.Str} {p p2 p4 : Pos} {j0 : Nat} {own : Bool} {ks : List PySem.Str} {s : PySem.Str} (hx : ds[n]? = some (some (.m own (mSk ks)))) (hi : XD (yX X) k a ds (.str s)) (hz : ks.length < 100000) (m : XB X k rest (ds.set n (some (.m own (mSk (addS ks s))))) N R)
    (hN : X.N[n]? = some x := by rfl) (hv : Vis X.env.scope x := by first | exact .inl rfl | exact .inr (.inl rfl) | exact .inr (.inr rfl)) (h1 : (x == ("__debug__" : PySem.Str)) = false := by decide) (h2 : (x == ("__classdict__" : PySem.Str)) = false := by decide)
    (hsw : swapsWith (.Constant (.bool true) j0 p4) (some (.Subscript (.Name x p) a p2)) pos.line X.env = pure false := by rfl) : XB X k (.Assign [.Subscript (.Name x p) a p2] (.Constant (.bool true) j0 p4) pos :: rest) ds N R := by
  obtain ⟨ta, pa, ea⟩ := hi
  refine b_st (ps_dput (by have z : X.A.units + 64 < cLine := hc64 g (); omega) (tE_slot (p := p) hN hv h1 h2) (pa ()) pe_bl hsw) fun M G0 G σ H0 H D E nx r => ?_
  obtain ⟨q, s1, s2⟩ := E.getSk hx
  refine ⟨.ref q, s1, ea M G0 G σ H0 H E _ fun y H1 H1' E1 w1 r1 => ?_⟩
  cases r1
  have s3 : H1' q = some (.dK (skv ks)) := w1.kp _ _ (by simp) s2
  refine ⟨q, _, rfl, DPut.k (k := Sum.inr s) s3 (sz_lt (by rw [skv, List.length_map]; exact hz)), ?_⟩
  rw [put_skv]
  refine nx σ H1 _ _ m (E1.mut hx s1 fun fp ⟨p', e1, e2, e3⟩ hf => ?_) w1.fz
  cases e1
  subst e2
  refine ⟨[q], fun b hb => .inl hb, fun b hb => ?_, fun b hb _ => ?_, fun b hb => ?_, q, rfl, rfl, upd_same⟩
  · rw [List.mem_singleton.mp hb, upd_same]; exact fun z => nomatch z
  · exact upd_ne fun z => hb (by rw [z]; exact List.mem_cons_self)
  · rw [List.mem_singleton.mp hb, upd_same]; exact fun z => nomatch z
theorem x_listSk {ι : Type} {Y : ι → Cx} (g : Good Y k lv) (n : Nat) {x : PySem.Str} {p p2 : Pos} {own : Bool} {ks : List PySem.Str} (hm : k.mg "list" = none) (hx : ds[n]? = some (some (.m own (mSk ks)))) (hN : ∀ i, (Y i).N[n]? = some x := by intro _; rfl) (hv : ∀ i, Vis (Y i).env.scope x := by intro _; first | exact .inl rfl | exact .inr (.inl rfl) | exact .inr (.inr rfl))
    (h1 : (x == ("__debug__" : PySem.Str)) = false := by decide) (h2 : (x == ("__classdict__" : PySem.Str)) = false := by decide) (hg : ∀ i, Gl (Y i) "list" := by intro _; rfl)
    (he : ∀ i, starEach [.Name x p2] (Y i).env = (false, eval (.Name x p2) (Y i).env) :: starEach [] (Y i).env := by intro _; rfl) (hpl : ∀ i, ((backTo pos (starEach [] (Y i).env)).any fun x => x.1) = false := by intro _; rfl) : XD Y k (.Call (.Name "list" p) [.Name x p2] [] pos) ds (.lst (ks.map .str)) := by
  refine ⟨_, fun i => pe_callTy (call_listD (g.ec i)) (hg i) (by rw [g.em i]; exact hm) (by decide +kernel) (pa_cons (tE_slot (hN i) (hv i) h1 h2) pa_nil (he i)) (by decide) (by decide) (he i) (hpl i), fun M G0 G σ H0 H E Q q => ?_⟩
  obtain ⟨p0, s1, s2⟩ := E.getSk hx
  refine ⟨.ref p0, s1, p0, _, rfl, .inl s2, fun o ho => ?_⟩
  have w := wld_new (o := .lst ((skv ks).map fun kv => kV kv.1)) E.wld.in_ ho
  refine q _ _ _ (E.step w) w (.lst upd_same ?_)
  rw [skv, List.map_map]
  exact RpA.ofStrs
end
section
variable {k : Kw}
def lnD (l : List Line) : Dt := .lst (l.map fun x => .str x.text)
def F_lines_of_step (h : Nat) : List Dt → (Dt → Prop) → Prop := fun ds R => ∃ (st : Stp) (nm : List PySem.Str), ds = [st.e] ∧ st.ok nm ∧ (∀ x ∈ nm, Wd x) ∧ st.ht ≤ h ∧ st.lines.length ≤ 1000 ∧ R = fun d => d = lnD st.lines
def F_lines_of (h : Nat) : List Dt → (Dt → Prop) → Prop := fun ds R => ∃ (l : List Stp) (nm : List PySem.Str), ds = [.lst (Stp.es l)] ∧ Stp.oks nm l ∧ (∀ x ∈ nm, Wd x) ∧ Stp.hts l ≤ h ∧ (Stp.liness l).length ≤ 1000 ∧ R = fun d => d = lnD (Stp.liness l)
theorem lnD_app (a b : List Line) : lnD (a ++ b) = .lst ((a.map fun x => .str x.text) ++ b.map fun x => .str x.text) := by rw [lnD, List.map_append]
theorem pst_len (p : Pst) : p.ws.length ≤ 3 := by cases p <;> exact Nat.le_of_ble_eq_true rfl
theorem pst_wd {nm : List PySem.Str} {p : Pst} (h : p.ok nm) (hw : ∀ x ∈ nm, Wd x) : ∀ x ∈ p.ws, Wd x := by
  have lit : Wd "open" ∧ Wd "do" ∧ Wd "copy" ∧ Wd "drop" ∧ Wd "tie" := by unfold Wd; decide +kernel
  obtain ⟨l1, l2, l3, l4, l5⟩ := lit
  cases p <;> simp only [Pst.ok] at h <;> intro x hx <;> simp only [Pst.ws, List.mem_cons, List.not_mem_nil, or_false] at hx
  · rcases hx with rfl | rfl
    · exact l1
    · exact hw _ h
  · rcases hx with rfl | rfl | rfl
    · exact l2
    · exact h.1
    · exact hw _ h.2
  · rcases hx with rfl | rfl | rfl
    · exact l3
    · exact hw _ h.1
    · exact hw _ h.2
  · rcases hx with rfl | rfl
    · exact l4
    · exact hw _ h
  · rcases hx with rfl | rfl | rfl
    · exact l5
    · exact hw _ h.1
    · exact hw _ h.2
theorem pst_head (p : Pst) : ∃ h r, p.ws = h :: r ∧ eqD (.str h) (.str "lend") = false ∧ eqD (.str h) (.str "if") = false ∧ eqD (.str h) (.str "while") = false ∧ eqD (.str h) (.str "do") = (match p with | .act _ _ => true | _ => false) := by
  cases p <;> exact ⟨_, _, rfl, rfl, rfl, rfl, rfl⟩
theorem sum_len {l : List PySem.Str} (h : ∀ x ∈ l, x.length ≤ 100) : (l.map fun x => x.length).sum ≤ 100 * l.length := by
  induction l with
  | nil => exact Nat.le_refl _
  | cons x r ih =>
    have h1 := h x List.mem_cons_self
    have h2 := ih fun y hy => h y (List.mem_cons_of_mem _ hy)
    simp only [List.map_cons, List.sum_cons, List.length_cons]
    omega
theorem numS_len {b : Int} (h : b.natAbs.log2 < 1920) : (numS b).length ≤ 1921 := int_text_len_1921 h
theorem join3 (a b c : PySem.Str) : Txt.join " " [a, b, c] = a ++ " " ++ b ++ " " ++ c := by
  have e : (" " : PySem.Str) = SX.S [32] := by decide
  have h : ∀ x : PySem.Str, x = SX.S x.cps.toList := fun x => (SX.S_tl x).symm
  rw [e]
  conv => lhs; rw [h a, h b, h c]
  conv => rhs; rw [h a, h b, h c]
  rw [show [SX.S a.cps.toList, SX.S b.cps.toList, SX.S c.cps.toList] = [a.cps.toList, b.cps.toList, c.cps.toList].map SX.S from rfl, SX.join_S, SX.S_cat, SX.S_cat, SX.S_cat, SX.S_cat]
  simp [TL.joinL]
theorem join1 (a : PySem.Str) : Txt.join " " [a] = a := by
  have e : (" " : PySem.Str) = SX.S [32] := by decide
  have h : ∀ x : PySem.Str, x = SX.S x.cps.toList := fun x => (SX.S_tl x).symm
  rw [e]
  conv => lhs; rw [h a]
  rw [show [SX.S a.cps.toList] = [a.cps.toList].map SX.S from rfl, SX.join_S]
  exact (h a).symm
theorem line_lend (x y : PySem.Str) : (Line.ws ["lend", x, y]).text = ("lend " : PySem.Str) ++ x ++ " " ++ y := by
  show Txt.join " " ["lend", x, y] = _
  rw [join3]
  have : ("lend" : PySem.Str) ++ " " = "lend " := by decide
  rw [this]
/-- the steps' lines, given the program's -/
theorem c_step_of {h lv : Nat} (hd : Hd k) (sub : ∀ h', h = h' + 1 → CalK k lv "lines_of" (spP k (F_lines_of h'))) : CalK k (lv + 1) "lines_of_step" (spP k (F_lines_of_step h)) := by
  refine defP (N := ["step"]) (ps := ["step"]) (st := s_lines_of_step) (hd.def_ 17 17 76 rfl rfl rfl) (fun _ _ _ _ _ _ us hl => match us, hl with | [_], _ => rfl) (by decide +kernel) (fun ds R h => ?_) (fun f cdv A outer s H E g ds R h => ?_)
  · obtain ⟨st, nm, rfl, _⟩ := h; rfl
  · obtain ⟨st, nm, rfl, ok, hw, hh, hlen, rfl⟩ := h
    cases st with
    | pl p =>
      obtain ⟨hd0, tl0, e0, q1, q2, q3, _⟩ := pst_head p
      have ex : (Stp.pl p).e = .tup (p.ws.map .str) := by rw [Stp.e]
      rw [ex]
      have at0 : atI (p.ws.map Dt.str) 0 = some (.str hd0) := by rw [e0]; exact atI_nat (j := 0) rfl
      refine b_ifF0 (t_c (q_eq (x_ixT g (x_name 0 rfl) x_int at0) x_str rfl)) ?_ q1
      refine b_ifF0 (t_c (q_eq (x_ixT g (x_name 0 rfl) x_int at0) x_str rfl)) ?_ q2
      refine b_ifF0 (t_c (q_eq (x_ixT g (x_name 0 rfl) x_int at0) x_str rfl)) ?_ q3
      have hwd := pst_wd (p := p) (nm := nm) (by rw [Stp.ok] at ok; exact ok) hw
      refine b_ret (x_lst (xa_cons (x_m_join g (l := p.ws) x_str (x_name 0 rfl) rfl ?_) xa_nil)) ?_
      · have h1 := sum_len (l := p.ws) fun x hx => (hwd x hx).2.1
        have h2 := pst_len p
        have h3 : (" " : PySem.Str).length = 1 := by decide
        rw [h3]
        omega
      · show _ = lnD (Stp.lines (.pl p))
        rw [Stp.lines]; rfl
    | le x y s =>
      rw [Stp.ok] at ok
      rw [Stp.ht] at hh
      obtain ⟨h', rfl⟩ : ∃ h', h = h' + 1 := ⟨h - 1, by omega⟩
      rw [Stp.lines] at hlen
      simp only [List.length_cons, List.length_append, List.length_nil] at hlen
      have ex : (Stp.le x y s).e = .tup [.str "lend", .str x, .str y, .lst (Stp.es s)] := by rw [Stp.e]
      rw [ex]
      have wx := (hw x ok.1).2.1
      have wy := (hw y ok.2.1).2.1
      have l1 : ("lend " : PySem.Str).length = 5 := by decide
      have l2 : (" " : PySem.Str).length = 1 := by decide
      have la : ∀ a b : PySem.Str, (a ++ b).length = a.length + b.length := fun a b => by rw [← SX.S_tl a, ← SX.S_tl b, SX.S_cat, SX.S_len, SX.S_len, SX.S_len, List.length_append]
      refine b_ifT (t_c (q_eq (x_ixT g (x_name 0 rfl) x_int rfl) x_str rfl)) ?_
      refine b_ret (x_catL (x_catL (x_lst (xa_cons (x_adds (x_adds (x_adds x_str (x_ixT g (x_name 0 rfl) x_int rfl) (by rw [l1]; omega)) x_str (by rw [la, l1, l2]; omega)) (x_ixT g (x_name 0 rfl) x_int rfl) (by rw [la, la, l1, l2]; omega)) xa_nil)) (x_call g (sub h' rfl) (Nat.le_refl _) (xa_cons (x_ixT g (x_name 0 rfl) x_int rfl) xa_nil) ⟨s, nm, rfl, ok.2.2, hw, by omega, by omega, rfl⟩) ?_) (x_lst (xa_cons x_str xa_nil)) ?_) ?_
      · rw [List.length_map]; simp only [List.length_cons, List.length_nil]; omega
      · simp only [List.length_append, List.length_map, List.length_cons, List.length_nil]; omega
      · show _ = lnD (Stp.lines (.le x y s))
        rw [Stp.lines]
        simp only [lnD, List.map_cons, List.map_append, List.map_nil, List.cons_append, List.nil_append, List.append_assoc]
        rw [show (Line.ws ["back"]).text = "back" from join1 _, line_lend]
    | if_ b s t =>
      rw [Stp.ok] at ok
      rw [Stp.ht] at hh
      obtain ⟨h', rfl⟩ : ∃ h', h = h' + 1 := ⟨h - 1, by omega⟩
      rw [Stp.lines] at hlen
      simp only [List.length_cons, List.length_append, List.length_nil] at hlen
      have ex : (Stp.if_ b s t).e = .tup [.str "if", .int b, .lst (Stp.es s), .lst (Stp.es t)] := by rw [Stp.e]
      rw [ex]
      have l1 : ("if " : PySem.Str).length = 3 := by decide
      have l3 := numS_len ok.1
      refine b_ifF0 (t_c (q_eq (x_ixT g (x_name 0 rfl) x_int rfl) x_str rfl)) ?_
      refine b_ifT (t_c (q_eq (x_ixT g (x_name 0 rfl) x_int rfl) x_str rfl)) ?_
      refine b_ret (x_catL (x_catL (x_catL (x_catL (x_lst (xa_cons (x_adds x_str (x_strI g hd.str (x_ixT g (x_name 0 rfl) x_int rfl) ok.1) (by rw [l1]; show 3 + (numS b).length ≤ _; omega)) xa_nil)) (x_call g (sub h' rfl) (Nat.le_refl _) (xa_cons (x_ixT g (x_name 0 rfl) x_int rfl) xa_nil) ⟨s, nm, rfl, ok.2.1, hw, by omega, by omega, rfl⟩) ?_) (x_lst (xa_cons x_str xa_nil)) ?_) (x_call g (sub h' rfl) (Nat.le_refl _) (xa_cons (x_ixT g (x_name 0 rfl) x_int rfl) xa_nil) ⟨t, nm, rfl, ok.2.2, hw, by omega, by omega, rfl⟩) ?_) (x_lst (xa_cons x_str xa_nil)) ?_) ?_
      · rw [List.length_map]; simp only [List.length_cons, List.length_nil]; omega
      · simp only [List.length_append, List.length_map, List.length_cons, List.length_nil]; omega
      · simp only [List.length_append, List.length_map, List.length_cons, List.length_nil]; omega
      · simp only [List.length_append, List.length_map, List.length_cons, List.length_nil]; omega
      · show _ = lnD (Stp.lines (.if_ b s t))
        rw [Stp.lines]
        simp only [lnD, List.map_cons, List.map_append, List.map_nil, List.cons_append, List.nil_append, List.append_assoc]
        rw [show (Line.ws ["else"]).text = "else" from join1 _, show (Line.ws ["fi"]).text = "fi" from join1 _]
        rfl
    | wh b s =>
      rw [Stp.ok] at ok
      rw [Stp.ht] at hh
      obtain ⟨h', rfl⟩ : ∃ h', h = h' + 1 := ⟨h - 1, by omega⟩
      rw [Stp.lines] at hlen
      simp only [List.length_cons, List.length_append, List.length_nil] at hlen
      have ex : (Stp.wh b s).e = .tup [.str "while", .int b, .lst (Stp.es s)] := by rw [Stp.e]
      rw [ex]
      have l1 : ("while " : PySem.Str).length = 6 := by decide
      have l3 := numS_len ok.1
      refine b_ifF0 (t_c (q_eq (x_ixT g (x_name 0 rfl) x_int rfl) x_str rfl)) ?_
      refine b_ifF0 (t_c (q_eq (x_ixT g (x_name 0 rfl) x_int rfl) x_str rfl)) ?_
      refine b_ifT (t_c (q_eq (x_ixT g (x_name 0 rfl) x_int rfl) x_str rfl)) ?_
      refine b_ret (x_catL (x_catL (x_lst (xa_cons (x_adds x_str (x_strI g hd.str (x_ixT g (x_name 0 rfl) x_int rfl) ok.1) (by rw [l1]; show 6 + (numS b).length ≤ _; omega)) xa_nil)) (x_call g (sub h' rfl) (Nat.le_refl _) (xa_cons (x_ixT g (x_name 0 rfl) x_int rfl) xa_nil) ⟨s, nm, rfl, ok.2, hw, by omega, by omega, rfl⟩) ?_) (x_lst (xa_cons x_str xa_nil)) ?_) ?_
      · rw [List.length_map]; simp only [List.length_cons, List.length_nil]; omega
      · simp only [List.length_append, List.length_map, List.length_cons, List.length_nil]; omega
      · show _ = lnD (Stp.lines (.wh b s))
        rw [Stp.lines]
        simp only [lnD, List.map_cons, List.map_append, List.map_nil, List.cons_append, List.nil_append, List.append_assoc]
        rw [show (Line.ws ["done"]).text = "done" from join1 _]
        rfl
theorem liness_app (a b : List Stp) : Stp.liness (a ++ b) = Stp.liness a ++ Stp.liness b := by
  induction a with
  | nil => simp [Stp.liness]
  | cons x r ih => rw [List.cons_append, Stp.liness, Stp.liness, ih, List.append_assoc]
theorem c_lines_by {h lv : Nat} (hd : Hd k) (sub : CalK k lv "lines_of_step" (spP k (F_lines_of_step h))) : CalK k (lv + 1) "lines_of" (spP k (F_lines_of h)) := by
  refine defP (N := ["program", "lines", "step"]) (ps := ["program"]) (st := s_lines_of) (hd.def_ 18 18 77 rfl rfl rfl) (fun _ _ _ _ _ _ us hl => match us, hl with | [_], _ => rfl) (by decide +kernel) (fun ds R h => ?_) (fun f cdv A outer s H E g ds R h => ?_)
  · obtain ⟨st, nm, rfl, _⟩ := h; rfl
  · obtain ⟨l, nm, rfl, ok, hw, hh, hlen, rfl⟩ := h
    refine b_new 1 xa_nil ?_
    refine b_forD (l := Stp.es l) (fun i ds1 => ∃ x2, ds1 = [some (.d (.lst (Stp.es l))), some (.m true (mL k ((Stp.liness (l.take i)).map fun x => .str x.text))), x2]) 2 g (x_name 0 rfl) (.inl rfl) ⟨none, by rw [List.take_zero, Stp.liness]; rfl⟩ ?_ ?_
    · rintro i d ds1 hd1 ⟨x2, rfl⟩
      rw [es_map, List.getElem?_map] at hd1
      cases hx : l[i]? with
      | none => rw [hx] at hd1; cases hd1
      | some st =>
        rw [hx] at hd1
        cases hd1
        have hm := List.mem_of_getElem? hx
        have e1 : l.take (i + 1) = l.take i ++ [st] := by rw [List.take_succ, hx]; rfl
        have e2 : Stp.liness (l.take (i + 1)) = Stp.liness (l.take i) ++ st.lines := by rw [e1, liness_app, Stp.liness, Stp.liness, List.append_nil]
        have e3 : Stp.liness l = Stp.liness (l.take (i + 1)) ++ Stp.liness (l.drop (i + 1)) := by rw [← liness_app, List.take_append_drop]
        have e4 := congrArg List.length e3
        rw [e2, List.length_append, List.length_append] at e4
        refine b_ext (m := st.lines.map fun x => .str x.text) 1 rfl g (x_call g sub (Nat.le_refl _) (xa_cons (x_name 2 rfl) xa_nil) ⟨st, nm, rfl, oks_mem ok st hm, hw, hts_le hh st hm, by omega, rfl⟩) ?_ (by rw [List.length_map, List.length_map]; omega)
        refine b_nil ⟨some (.d st.e), ?_⟩
        rw [e2, List.map_append]; rfl
    · rintro ds1 ⟨x2, rfl⟩
      refine b_frz 1 rfl (b_ret (x_name 1 rfl) ?_)
      show _ = lnD (Stp.liness l)
      rw [es_map, List.length_map, List.take_length]; rfl
theorem c_lines_of (hd : Hd k) : ∀ h : Nat, CalK k (2 * h + 2) "lines_of" (spP k (F_lines_of h))
  | 0 => c_lines_by hd (c_step_of (lv := 0) hd fun h' e => by cases e)
  | h + 1 => c_lines_by hd (c_step_of (lv := 2 * h + 2) hd fun h' e => by cases e; exact c_lines_of hd h)
end
end Uw
end
section
set_option Elab.async false
set_option linter.all false
set_option maxRecDepth 100000
set_option maxHeartbeats 4000000
namespace Uw
open PySem PySem.Spec PyProof.Rows L2 Evl
def LineOk : Line → Prop
  | .ws l => l ≠ [] ∧ (∀ x ∈ l, Wd x) ∧ l.length ≤ 3 ∧ ∃ h r, l = h :: r ∧ h ≠ "if" ∧ h ≠ "while"
  | .num _ z => z.length ≤ 2000
theorem joinL_len : ∀ ps : List (List Nat), (TL.joinL [32] ps).length ≤ (ps.map List.length).sum + ps.length
  | [] => Nat.le_refl _
  | [p] => by simp [TL.joinL]
  | p :: q :: r => by
    have ih := joinL_len (q :: r)
    simp only [TL.joinL, List.length_append, List.map_cons, List.sum_cons, List.length_cons, List.length_nil] at ih ⊢
    omega
theorem join_len (l : List PySem.Str) : (Txt.join " " l).length ≤ (l.map fun x => x.length).sum + l.length := by
  have e1 : l = (l.map fun x => x.cps.toList).map SX.S := by
    rw [List.map_map]
    have : (SX.S ∘ fun x : PySem.Str => x.cps.toList) = id := by funext x; exact SX.S_tl x
    rw [this, List.map_id]
  have e2 : (" " : PySem.Str) = SX.S [32] := by decide
  have e3 : Txt.join " " l = SX.S (TL.joinL [32] (l.map fun x => x.cps.toList)) := by
    conv => lhs; rw [e1, e2]
    exact SX.join_S _ _
  rw [e3, SX.S_len]
  have h := joinL_len (l.map fun x => x.cps.toList)
  rw [List.map_map, List.length_map] at h
  have e4 : (List.length ∘ fun x : PySem.Str => x.cps.toList) = fun x => x.length := by
    funext x
    show x.cps.toList.length = x.cps.size
    simp
  rw [e4] at h
  exact h
section
variable {k : Kw}
def F_names_in : List Dt → (Dt → Prop) → Prop := fun ds R => ∃ ln : Line, ds = [.str ln.text] ∧ LineOk ln ∧ R = fun d => d = .lst (ln.nm.map .str)
theorem c_names_in (hd : Hd k) : CalK k 1 "names_in" (spP k F_names_in) := by
  refine defP (N := ["line", "words"]) (ps := ["line"]) (st := s_names_in) (hd.def_ 19 19 78 rfl rfl rfl) (fun _ _ _ _ _ _ us hl => match us, hl with | [_], _ => rfl) (by decide +kernel) (fun ds R h => ?_) (fun f cdv A outer s H E g ds R h => ?_)
  · obtain ⟨ln, rfl, _⟩ := h; rfl
  · obtain ⟨ln, rfl, ok, rfl⟩ := h
    have la : ∀ a b : PySem.Str, (a ++ b).length = a.length + b.length := fun a b => by rw [← SX.S_tl a, ← SX.S_tl b, SX.S_cat, SX.S_len, SX.S_len, SX.S_len, List.length_append]
    cases ln with
    | num w z =>
      have hz : z.length ≤ 2000 := ok
      have key : ∀ hw : PySem.Str, ∀ r, (Line.num w z).text = hw → (hw.length ≤ 90000) → Txt.split hw " " = (if w then ("while" : PySem.Str) else ("if" : PySem.Str)) :: r → XB (bX k ["line", "words"] "names_in" s_names_in f cdv A outer s H E) k (C8.fnBody s_names_in) (sd [.str (Line.num w z).text] ++ List.replicate 1 none) (fun _ => Dt.non = .lst ((Line.num w z).nm.map .str)) (rD fun d => d = .lst ((Line.num w z).nm.map .str)) := by
        intro hw r e1 e2 e3
        rw [e1]
        refine b_asg 1 (x_m_split (x_name 0 rfl) x_str (by decide) e2) ?_
        rw [e3]
        cases w with
        | true =>
          refine b_ifT (t_c (q_inS g (l := ["if", "while"]) (x_ixL g (x_name 1 rfl) x_int (atI_nat (j := 0) rfl)) (x_tup (xa_cons x_str (xa_cons x_str xa_nil))))) ?_
          exact b_ret (x_lst xa_nil) rfl
        | false =>
          refine b_ifT (t_c (q_inS g (l := ["if", "while"]) (x_ixL g (x_name 1 rfl) x_int (atI_nat (j := 0) rfl)) (x_tup (xa_cons x_str (xa_cons x_str xa_nil))))) ?_
          exact b_ret (x_lst xa_nil) rfl
      cases w with
      | true =>
        obtain ⟨r, hr⟩ := split_head (w := "while") (z := z) (by decide)
        have e : ("while" : PySem.Str) ++ " " = "while " := by decide
        rw [e] at hr
        exact key _ r rfl (by show ("while " ++ z : PySem.Str).length ≤ _; rw [la]; have : ("while " : PySem.Str).length = 6 := by decide
                              omega) hr
      | false =>
        obtain ⟨r, hr⟩ := split_head (w := "if") (z := z) (by decide)
        have e : ("if" : PySem.Str) ++ " " = "if " := by decide
        rw [e] at hr
        exact key _ r rfl (by show ("if " ++ z : PySem.Str).length ≤ _; rw [la]; have : ("if " : PySem.Str).length = 3 := by decide
                              omega) hr
    | ws l =>
      obtain ⟨h1, h2, h3, h0, r0, rfl, h4, h5⟩ := ok
      refine b_asg 1 (x_m_split (x_name 0 rfl) x_str (by decide) ?_) ?_
      · have z1 := join_len (h0 :: r0)
        have z2 := sum_len (l := h0 :: r0) fun x hx => (h2 x hx).2.1
        show (Txt.join " " (h0 :: r0)).length ≤ _
        omega
      rw [show Txt.split (Line.ws (h0 :: r0)).text " " = h0 :: r0 from txt_words h1 fun x hx => (h2 x hx).1]
      refine b_ifF0 (t_c (q_inS g (l := ["if", "while"]) (x_ixL g (x_name 1 rfl) x_int (atI_nat (j := 0) rfl)) (x_tup (xa_cons x_str (xa_cons x_str xa_nil))))) ?_ ?_
      · refine b_if (t_c (q_eq (x_ixL g (x_name 1 rfl) x_int (atI_nat (j := 0) rfl)) x_str rfl)) (fun q => ?_) (fun q => ?_)
        · have e : h0 = "do" := of_decide_eq_true q
          refine b_ret (x_slL g (x_name 1 rfl) (xo_some x_int) xo_none) ?_
          show Dt.lst (cutD ((h0 :: r0).map .str) (some 2) none) = Dt.lst ((if h0 = "do" then r0.drop 1 else r0).map .str)
          rw [if_pos e]
          rcases r0 with _ | ⟨a, _ | ⟨b, _ | ⟨c, r⟩⟩⟩
          · rfl
          · rfl
          · rfl
          · simp at h3
        · have e : ¬ h0 = "do" := of_decide_eq_false q
          refine b_nil (b_ret (x_slL g (x_name 1 rfl) (xo_some x_int) xo_none) ?_)
          show Dt.lst (cutD ((h0 :: r0).map .str) (some 1) none) = Dt.lst ((if h0 = "do" then r0.drop 1 else r0).map .str)
          rw [if_neg e]
          rcases r0 with _ | ⟨a, _ | ⟨b, _ | ⟨c, r⟩⟩⟩
          · rfl
          · rfl
          · rfl
          · simp at h3
      · show (["if", "while"] : List PySem.Str).any (· == h0) = false
        simp only [List.any_cons, List.any_nil, Bool.or_false, Bool.or_eq_false_iff]
        refine ⟨beq_eq_false_iff_ne.mpr fun e => h4 e.symm, beq_eq_false_iff_ne.mpr fun e => h5 e.symm⟩
/-! the names of a program -/
theorem sub_lenS {α : Type} [DecidableEq α] : ∀ {l U : List α}, l.Nodup → (∀ x ∈ l, x ∈ U) → l.length ≤ U.length
  | [], _, _, _ => Nat.zero_le _
  | x :: l, U, h, hs => by
    rw [List.nodup_cons] at h
    have hx : x ∈ U := hs x List.mem_cons_self
    have ih := sub_lenS (l := l) (U := U.erase x) h.2 fun y hy => (List.mem_erase_of_ne (fun e => h.1 (by rw [← e]; exact hy))).mpr (hs y (List.mem_cons_of_mem _ hy))
    rw [List.length_erase_of_mem hx] at ih
    have : 0 < U.length := List.length_pos_of_mem hx
    rw [List.length_cons]
    omega
theorem addS_mem {ks : List PySem.Str} {s x : PySem.Str} : x ∈ addS ks s ↔ x ∈ ks ∨ x = s := by
  unfold addS
  split
  · constructor
    · exact .inl
    · rintro (h | h)
      · exact h
      · rw [h]; assumption
  · simp
theorem addS_nd {ks : List PySem.Str} {s : PySem.Str} (h : ks.Nodup) : (addS ks s).Nodup := by
  unfold addS
  split
  · exact h
  · rw [List.nodup_append]
    exact ⟨h, by simp, fun y hy z hz e => ‹¬ s ∈ ks› (by rw [← (List.mem_singleton.mp hz), ← e]; exact hy)⟩
theorem lines_ok {nm : List PySem.Str} (hw : ∀ x ∈ nm, Wd x) : ∀ (n : Nat), (∀ st : Stp, st.ht ≤ n → st.ok nm → ∀ ln ∈ st.lines, LineOk ln ∧ ∀ x ∈ ln.nm, x ∈ nm) ∧ ∀ l : List Stp, Stp.hts l ≤ n → Stp.oks nm l → ∀ ln ∈ Stp.liness l, LineOk ln ∧ ∀ x ∈ ln.nm, x ∈ nm := by
  have one : ∀ (w : PySem.Str), Wd w → w ≠ "if" → w ≠ "while" → LineOk (.ws [w]) ∧ ∀ x ∈ (Line.ws [w]).nm, x ∈ nm := fun w h h1 h2 => ⟨⟨by simp, fun x hx => by rw [List.mem_singleton.mp hx]; exact h, Nat.le_of_ble_eq_true rfl, w, [], rfl, h1, h2⟩, fun x hx => by
    simp only [Line.nm, List.drop_nil, ite_self] at hx; cases hx⟩
  have wb : Wd "back" ∧ Wd "else" ∧ Wd "fi" ∧ Wd "done" ∧ Wd "lend" := by unfold Wd; decide +kernel
  intro n
  have lst : ∀ n, (∀ st : Stp, st.ht ≤ n → st.ok nm → ∀ ln ∈ st.lines, LineOk ln ∧ ∀ x ∈ ln.nm, x ∈ nm) → ∀ l : List Stp, Stp.hts l ≤ n → Stp.oks nm l → ∀ ln ∈ Stp.liness l, LineOk ln ∧ ∀ x ∈ ln.nm, x ∈ nm := by
    intro n hs l
    induction l with
    | nil => intro _ _ ln h; rw [Stp.liness] at h; cases h
    | cons x r ih =>
      intro hh ho ln hl
      rw [Stp.hts] at hh
      rw [Stp.oks] at ho
      rw [Stp.liness] at hl
      rcases List.mem_append.mp hl with z | z
      · exact hs x (by omega) ho.1 ln z
      · exact ih (by omega) ho.2 ln z
  have pl : ∀ p : Pst, p.ok nm → LineOk (.ws p.ws) ∧ ∀ x ∈ (Line.ws p.ws).nm, x ∈ nm := fun p hp => by
    have hwd := pst_wd hp hw
    obtain ⟨h, r, e, _⟩ := pst_head p
    refine ⟨⟨by rw [e]; simp, hwd, pst_len p, ?_⟩, ?_⟩
    · cases p <;> exact ⟨_, _, rfl, by decide, by decide⟩
    · cases p <;> simp only [Pst.ok] at hp <;> intro x hx
      · have : x ∈ [_] := hx
        rw [List.mem_singleton.mp this]; exact hp
      · have : x ∈ [_] := hx
        rw [List.mem_singleton.mp this]; exact hp.2
      · have : x ∈ [_, _] := hx
        simp only [List.mem_cons, List.not_mem_nil, or_false] at this
        rcases this with rfl | rfl
        · exact hp.1
        · exact hp.2
      · have : x ∈ [_] := hx
        rw [List.mem_singleton.mp this]; exact hp
      · have : x ∈ [_, _] := hx
        simp only [List.mem_cons, List.not_mem_nil, or_false] at this
        rcases this with rfl | rfl
        · exact hp.1
        · exact hp.2
  have num : ∀ (w : Bool) (b : Int), b.natAbs.log2 < 1920 → LineOk (.num w (numS b)) ∧ ∀ x ∈ (Line.num w (numS b)).nm, x ∈ nm := fun w b h => ⟨by have := numS_len h; show (numS b).length ≤ 2000; omega, fun x hx => by cases hx⟩
  have lend : ∀ x y, x ∈ nm → y ∈ nm → LineOk (.ws ["lend", x, y]) ∧ ∀ z ∈ (Line.ws ["lend", x, y]).nm, z ∈ nm := fun x y hx hy => ⟨⟨by simp, fun z hz => by
      simp only [List.mem_cons, List.not_mem_nil, or_false] at hz
      rcases hz with rfl | rfl | rfl
      · exact wb.2.2.2.2
      · exact hw _ hx
      · exact hw _ hy, Nat.le_of_ble_eq_true rfl, _, _, rfl, by decide, by decide⟩, fun z hz => by
      have : z ∈ [x, y] := hz
      simp only [List.mem_cons, List.not_mem_nil, or_false] at this
      rcases this with rfl | rfl
      · exact hx
      · exact hy⟩
  have stp : ∀ n, (∀ m, m < n → ∀ st : Stp, st.ht ≤ m → st.ok nm → ∀ ln ∈ st.lines, LineOk ln ∧ ∀ x ∈ ln.nm, x ∈ nm) → ∀ st : Stp, st.ht ≤ n → st.ok nm → ∀ ln ∈ st.lines, LineOk ln ∧ ∀ x ∈ ln.nm, x ∈ nm := by
    intro n ih st hh ho ln hl
    cases st with
    | pl p =>
      rw [Stp.ok] at ho
      rw [Stp.lines] at hl
      rw [List.mem_singleton.mp hl]; exact pl p ho
    | le x y s =>
      rw [Stp.ok] at ho
      rw [Stp.ht] at hh
      rw [Stp.lines] at hl
      simp only [List.mem_cons, List.mem_append, List.not_mem_nil, or_false] at hl
      rcases hl with rfl | z | rfl
      · exact lend x y ho.1 ho.2.1
      · exact lst (n - 1) (ih (n - 1) (by omega)) s (by omega) ho.2.2 ln z
      · exact one _ wb.1 (by decide) (by decide)
    | if_ b s t =>
      rw [Stp.ok] at ho
      rw [Stp.ht] at hh
      rw [Stp.lines] at hl
      simp only [List.mem_cons, List.mem_append, List.not_mem_nil, or_false] at hl
      rcases hl with rfl | z | rfl | z | rfl
      · exact num _ _ ho.1
      · exact lst (n - 1) (ih (n - 1) (by omega)) s (by omega) ho.2.1 ln z
      · exact one _ wb.2.1 (by decide) (by decide)
      · exact lst (n - 1) (ih (n - 1) (by omega)) t (by omega) ho.2.2 ln z
      · exact one _ wb.2.2.1 (by decide) (by decide)
    | wh b s =>
      rw [Stp.ok] at ho
      rw [Stp.ht] at hh
      rw [Stp.lines] at hl
      simp only [List.mem_cons, List.mem_append, List.not_mem_nil, or_false] at hl
      rcases hl with rfl | z | rfl
      · exact num _ _ ho.1
      · exact lst (n - 1) (ih (n - 1) (by omega)) s (by omega) ho.2 ln z
      · exact one _ wb.2.2.2.1 (by decide) (by decide)
  have all : ∀ n, ∀ st : Stp, st.ht ≤ n → st.ok nm → ∀ ln ∈ st.lines, LineOk ln ∧ ∀ x ∈ ln.nm, x ∈ nm := fun n => Nat.strongRecOn n fun n ih => stp n ih
  exact ⟨all n, lst n (all n)⟩
def F_names_of : List Dt → (Dt → Prop) → Prop := fun ds R => ∃ (l : List Stp) (nm : List PySem.Str), ds = [.lst (Stp.es l)] ∧ Stp.oks nm l ∧ (∀ x ∈ nm, Wd x) ∧ Stp.hts l ≤ 3 ∧ (Stp.liness l).length ≤ 1000 ∧ nm.length ≤ 10 ∧
  R = fun d => ∃ ns : List PySem.Str, d = .lst (ns.map .str) ∧ ns.Nodup ∧ ∀ x, x ∈ ns ↔ ∃ ln ∈ Stp.liness l, x ∈ ln.nm
theorem c_names_of (hd : Hd k) : CalK k 9 "names_of" (spP k F_names_of) := by
  refine defP (N := ["program", "names", "line", "name"]) (ps := ["program"]) (st := s_names_of) (hd.def_ 20 20 79 rfl rfl rfl) (fun _ _ _ _ _ _ us hl => match us, hl with | [_], _ => rfl) (by decide +kernel) (fun ds R h => ?_) (fun f cdv A outer s H E g ds R h => ?_)
  · obtain ⟨l, nm, rfl, _⟩ := h; rfl
  · obtain ⟨l, nm, rfl, ok, hw, hh, hlen, hnm, rfl⟩ := h
    have hlo := (lines_ok hw 3).2 l hh ok
    refine b_newSk 1 ?_
    refine b_forD (l := (Stp.liness l).map fun x => .str x.text) (fun i ds1 => ∃ (ks : List PySem.Str) (x2 x3 : Option Ent), ds1 = [some (.d (.lst (Stp.es l))), some (.m true (mSk ks)), x2, x3] ∧ ks.Nodup ∧ (∀ x ∈ ks, x ∈ nm) ∧ ∀ x, x ∈ ks ↔ ∃ ln ∈ (Stp.liness l).take i, x ∈ ln.nm) 2 g
      (x_call g (c_lines_of hd 3) (by decide) (xa_cons (x_name 0 rfl) xa_nil) ⟨l, nm, rfl, ok, hw, hh, hlen, rfl⟩) (.inl rfl) ⟨[], none, none, rfl, List.nodup_nil, fun x h => absurd h List.not_mem_nil, fun x => ⟨fun h => absurd h List.not_mem_nil, fun ⟨ln, h, _⟩ => absurd h List.not_mem_nil⟩⟩ ?_ ?_
    · rintro i d ds1 hd1 ⟨ks, x2, x3, rfl, hnd, hsub, hmem⟩
      rw [List.getElem?_map] at hd1
      cases hx : (Stp.liness l)[i]? with
      | none => rw [hx] at hd1; cases hd1
      | some ln =>
        rw [hx] at hd1
        cases hd1
        have hln := List.mem_of_getElem? hx
        obtain ⟨o1, o2⟩ := hlo ln hln
        refine b_forD (l := ln.nm.map .str) (fun j ds1 => ∃ (ks' : List PySem.Str) (x3 : Option Ent), ds1 = [some (.d (.lst (Stp.es l))), some (.m true (mSk ks')), some (.d (.str ln.text)), x3] ∧ ks'.Nodup ∧ (∀ x ∈ ks', x ∈ nm) ∧ ∀ x, x ∈ ks' ↔ x ∈ ks ∨ x ∈ ln.nm.take j) 3 g
          (x_call g (c_names_in hd) (by decide) (xa_cons (x_name 2 rfl) xa_nil) ⟨ln, rfl, o1, rfl⟩) (.inl rfl) ⟨ks, _, rfl, hnd, hsub, fun x => by simp⟩ ?_ ?_
        · rintro j d ds1 hd1 ⟨ks', x3', rfl, hnd', hsub', hmem'⟩
          rw [List.getElem?_map] at hd1
          cases hy : ln.nm[j]? with
          | none => rw [hy] at hd1; cases hd1
          | some y =>
            rw [hy] at hd1
            cases hd1
            have hyn := o2 y (List.mem_of_getElem? hy)
            refine b_putSk g 1 rfl (x_name 3 rfl) (by have := sub_lenS hnd' hsub'; omega) ?_
            refine b_nil ⟨_, _, rfl, addS_nd hnd', fun x hx => ?_, fun x => ?_⟩
            · rcases addS_mem.mp hx with z | z
              · exact hsub' x z
              · rw [z]; exact hyn
            · rw [addS_mem, hmem', List.take_succ, hy]
              simp only [Option.toList_some, List.mem_append, List.mem_singleton]
              constructor
              · rintro ((h | h) | h)
                · exact .inl h
                · exact .inr (.inl h)
                · exact .inr (.inr h)
              · rintro (h | h | h)
                · exact .inl (.inl h)
                · exact .inl (.inr h)
                · exact .inr h
        · rintro ds1 ⟨ks', x3', rfl, hnd', hsub', hmem'⟩
          refine b_nil ⟨ks', _, _, rfl, hnd', hsub', fun x => ?_⟩
          rw [hmem', List.length_map, List.take_length, List.take_succ, hx, hmem]
          simp only [Option.toList_some, List.mem_append, List.mem_singleton]
          constructor
          · rintro (⟨ln', h1, h2⟩ | h)
            · exact ⟨ln', .inl h1, h2⟩
            · exact ⟨ln, .inr rfl, h⟩
          · rintro ⟨ln', h1 | rfl, h2⟩
            · exact .inl ⟨ln', h1, h2⟩
            · exact .inr h2
    · rintro ds1 ⟨ks, x2, x3, rfl, hnd, hsub, hmem⟩
      refine b_ret (x_listSk g 1 hd.list rfl) ⟨ks, rfl, hnd, fun x => ?_⟩
      rw [hmem, List.length_map, List.take_length]
end
end Uw
end
section
set_option Elab.async false
set_option linter.all false
set_option maxRecDepth 100000
set_option maxHeartbeats 4000000
namespace Uw
open PySem PySem.Spec PyProof.Rows L2 Evl
/-! the marker -/
abbrev mC (k : Kw) : Addr := He.ga k.K "Marker"
def slv : Nat → List PySem.Str → List (Key × V)
  | _, [] => []
  | i, s :: r => (Sum.inr s, V.int (i : Int)) :: slv (i + 1) r
theorem slv_val {s : PySem.Str} : ∀ {ns : List PySem.Str} {i : Nat}, s ∈ ns → valV (slv i ns) (Sum.inr s : Key) = some (V.int ((i + ixOf s ns : Nat) : Int))
  | [], _, h => by cases h
  | x :: r, i, h => by
    unfold ixOf
    by_cases q : x = s
    · rw [if_pos q]
      simp [slv, valV, q]
    · rw [if_neg q]
      have h' : s ∈ r := by
        rcases List.mem_cons.mp h with z | z
        · exact absurd z.symm q
        · exact z
      have ih := slv_val (i := i + 1) h'
      have e : valV (slv i (x :: r)) (Sum.inr s : Key) = valV (slv (i + 1) r) (Sum.inr s : Key) := by
        unfold valV
        rw [slv, List.find?_cons]
        have : decide ((Sum.inr x : Key) = Sum.inr s) = false := by
          simp
          exact q
        rw [this]
      rw [e, ih]
      congr 3
      omega
theorem slv_put {s : PySem.Str} : ∀ {ns : List PySem.Str} {i : Nat}, s ∉ ns → putK (slv i ns) (Sum.inr s : Key) (V.int ((i + ns.length : Nat) : Int)) = slv i (ns ++ [s]) := by
  intro ns i h
  have h1 : ∀ (ns : List PySem.Str) (i : Nat), s ∉ ns → (slv i ns).any (fun kv => decide (kv.1 = (Sum.inr s : Key))) = false := by
    intro ns
    induction ns with
    | nil => intro i _; rfl
    | cons x r ih =>
      intro i h
      rw [slv, List.any_cons, ih (i + 1) fun z => h (List.mem_cons_of_mem _ z), Bool.or_false]
      simp
      exact fun e => h (by rw [e]; exact List.mem_cons_self)
  have h2 : ∀ (ns : List PySem.Str) (i : Nat), slv i ns ++ [((Sum.inr s : Key), V.int ((i + ns.length : Nat) : Int))] = slv i (ns ++ [s]) := by
    intro ns
    induction ns with
    | nil => intro i; simp [slv]
    | cons x r ih =>
      intro i
      rw [List.cons_append, slv, slv, List.cons_append, ← ih (i + 1), show i + (x :: r).length = i + 1 + r.length by rw [List.length_cons]; omega]
  unfold putK
  rw [h1 ns i h]
  exact h2 ns i
theorem slv_len : ∀ (ns : List PySem.Str) (i : Nat), (slv i ns).length = ns.length
  | [], _ => rfl
  | x :: r, i => by rw [slv, List.length_cons, List.length_cons, slv_len r]
/-- what a marker holds -/
structure MkF (fs : List (PySem.Str × V)) (d : Addr) (line : Int) (lent : Nat) : Prop where
  s : fs.lookup ("slots" : PySem.Str) = some (V.ref d)
  l : fs.lookup ("line" : PySem.Str) = some (V.int line)
  e : fs.lookup ("lent" : PySem.Str) = some (V.int (lent : Int))
  few : fs.length < 10
  n : ∀ m : PySem.Str, m = "next_line" ∨ m = "marked" ∨ m = "marked_step" → fs.lookup m = none
def mMk (k : Kw) (ns : List PySem.Str) (line : Int) (lent : Nat) : Mut where
  at_ v H0 H fp := ∃ p dx d fs, v = .ref p ∧ fp = [p, d] ∧ p ≠ d ∧ H p = some (.ins (mC k) dx fs) ∧ MkF fs d line lent ∧ H d = some (.dK (slv 0 ns))
  keep := by
    rintro v H0 H H0' H' fp ⟨p, dx, d, fs, rfl, rfl, h1, h2, h3, h4⟩ e kp
    exact ⟨p, dx, d, fs, rfl, rfl, h1, by rw [kp p List.mem_cons_self]; exact h2, h3, by rw [kp d (List.mem_cons_of_mem _ List.mem_cons_self)]; exact h4⟩
theorem putF_len (f : PySem.Str) (v : V) : ∀ fs : List (PySem.Str × V), (fs.lookup f).isSome → (putF f v fs).length = fs.length
  | [], h => by cases h
  | (x, w) :: r, h => by
    by_cases q : f = x
    · subst q
      simp [putF]
    · have h' : (r.lookup f).isSome := by
        rw [List.lookup_cons] at h
        have : (f == x) = false := beq_eq_false_iff_ne.mpr q
        rw [this] at h
        exact h
      have ih := putF_len f v r h'
      have q' : ¬ x = f := fun e => q e.symm
      simp [putF, q, q', ih]
theorem putF_ok (f : PySem.Str) (v : V) (fs : List (PySem.Str × V)) (h : (fs.lookup f).isSome) : (putF f v fs).length = fs.length := putF_len f v fs h
section
variable {k : Kw} {M : List Addr × V} {G0 G H0 H : Hp} {σ : L2.St} {ds : EV}
theorem Env.getMk (E : Env k M G0 G σ H0 H ds) {n : Nat} {own : Bool} {ns : List PySem.Str} {line : Int} {lent : Nat} (h : ds[n]? = some (some (.m own (mMk k ns line lent)))) :
    ∃ p dx d fs, σ[n]? = some (some (.ref p)) ∧ p ≠ d ∧ H p = some (.ins (mC k) dx fs) ∧ MkF fs d line lent ∧ H d = some (.dK (slv 0 ns)) := by
  obtain ⟨F, f, _⟩ := E.ent
  obtain ⟨v, h1, ⟨p, dx, d, fs, rfl, _, h2, h3, h4, h5⟩, _⟩ := f n _ h
  exact ⟨p, dx, d, fs, h1, h2, h3, h4, h5⟩
end
variable {k : Kw} in
theorem Hd.cls (hd : Hd k) : Cls k.K (mC k) := He.cls_ok (hd.says.fact 106 rfl)
variable {k : Kw} in
theorem Hd.nSlots (hd : Hd k) : NoAttr k.K (mC k) "slots" := He.noat_ok (hd.says.fact 111 rfl)
variable {k : Kw} in
theorem Hd.nLine (hd : Hd k) : NoAttr k.K (mC k) "line" := He.noat_ok (hd.says.fact 112 rfl)
variable {k : Kw} in
theorem Hd.nLent (hd : Hd k) : NoAttr k.K (mC k) "lent" := He.noat_ok (hd.says.fact 113 rfl)
section
variable {ι : Type} {Y : ι → Cx} {k : Kw} {lv : Nat} {ds : EV} {e : Expr} {pos : Pos}
theorem x_fldI (g : Good Y k lv) (hd : Hd k) (n : Nat) {x f : PySem.Str} {p : Pos} {own : Bool} {ns : List PySem.Str} {line i : Int} {lent : Nat} (hx : ds[n]? = some (some (.m own (mMk k ns line lent)))) (hf : (f = "line" ∧ i = line) ∨ (f = "lent" ∧ i = (lent : Int)))
    (hN : ∀ i, (Y i).N[n]? = some x := by intro _; rfl) (hv : ∀ i, Vis (Y i).env.scope x := by intro _; first | exact .inl rfl | exact .inr (.inl rfl) | exact .inr (.inr rfl)) (h1 : (x == ("__debug__" : PySem.Str)) = false := by decide) (h2 : (x == ("__classdict__" : PySem.Str)) = false := by decide)
    (ha : ∀ i, attributeBase (.Name x p) f (Y i).env (eval (.Name x p) (Y i).env) = eval (.Name x p) (Y i).env := by intro _; rfl) : XD Y k (.Attribute (.Name x p) f pos) ds (.int i) := by
  refine ⟨tFld k.K (tVar n) f, fun i => by have z := pe_fld (X := Y i) (f := f) (pos := pos) (tE_slot (hN i) (hv i) h1 h2) (ha i); rw [g.eK i] at z; exact z, fun M G0 G σ H0 H E Q q => ?_⟩
  obtain ⟨p0, dx, d, fs, s1, s2, s3, s4, s5⟩ := E.getMk hx
  rcases hf with ⟨rfl, rfl⟩ | ⟨rfl, rfl⟩
  · exact ⟨_, s1, p0, _, dx, fs, _, rfl, s3, hd.cls, hd.nLine, s4.l, q _ _ _ E (Wld.refl E.wld.in_) (.int _)⟩
  · exact ⟨_, s1, p0, _, dx, fs, _, rfl, s3, hd.cls, hd.nLent, s4.e, q _ _ _ E (Wld.refl E.wld.in_) (.int _)⟩
theorem x_slotOf (g : Good Y k lv) (hd : Hd k) (n : Nat) {x s : PySem.Str} {p pa : Pos} {own : Bool} {ns : List PySem.Str} {line : Int} {lent : Nat} (hx : ds[n]? = some (some (.m own (mMk k ns line lent)))) (he : XD Y k e ds (.str s)) (hs : s ∈ ns)
    (hN : ∀ i, (Y i).N[n]? = some x := by intro _; rfl) (hv : ∀ i, Vis (Y i).env.scope x := by intro _; first | exact .inl rfl | exact .inr (.inl rfl) | exact .inr (.inr rfl)) (h1 : (x == ("__debug__" : PySem.Str)) = false := by decide) (h2 : (x == ("__classdict__" : PySem.Str)) = false := by decide)
    (ha : ∀ i, attributeBase (.Name x p) "slots" (Y i).env (eval (.Name x p) (Y i).env) = eval (.Name x p) (Y i).env := by intro _; rfl) (hn : NoSl e := by exact fun _ _ => rfl) : XD Y k (.Subscript (.Attribute (.Name x p) "slots" pa) e pos) ds (dI (ixOf s ns)) := by
  obtain ⟨te, pe, ee⟩ := he
  refine ⟨tDGet (tFld k.K (tVar n) "slots") te, fun i => pe_dget (by have := hc64 g i; omega) (by have z := pe_fld (X := Y i) (f := "slots") (pos := pa) (tE_slot (hN i) (hv i) h1 h2) (ha i); rw [g.eK i] at z; exact z) (pe i) hn, fun M G0 G σ H0 H E Q q => ?_⟩
  obtain ⟨p0, dx, d, fs, s1, s2, s3, s4, s5⟩ := E.getMk hx
  refine ⟨_, s1, p0, _, dx, fs, _, rfl, s3, hd.cls, hd.nSlots, s4.s, ee M G0 G σ H0 H E _ fun y H1 H1' E1 w1 r1 => ?_⟩
  cases r1
  have s6 : H1' d = some (.dK (slv 0 ns)) := w1.kp _ _ (by simp) s5
  have hg := DGet.k (k := Sum.inr s) s6
  rw [slv_val hs, Nat.zero_add] at hg
  exact ⟨d, _, rfl, hg, q _ _ _ E1 w1 (.int _)⟩
end
section
variable {X : Cx} {k : Kw} {lv : Nat} {ds : EV} {e : Expr} {pos : Pos} {rest : List Stmt} {N : EV → Prop} {R : Ent → EV → Prop}
theorem Env.mutMk {M : List Addr × V} {G0 G H0 H : Hp} {σ : L2.St} (E : Env k M G0 G σ H0 H ds) {n : Nat} {own : Bool} {ns : List PySem.Str} {line line' : Int} {lent lent' : Nat} (hx : ds[n]? = some (some (.m own (mMk k ns line lent)))) {p dx : Addr} {fs fs' : List (PySem.Str × V)} (hp : σ[n]? = some (some (.ref p))) (hi : H p = some (.ins (mC k) dx fs)) (hf : ∀ d, MkF fs d line lent → MkF fs' d line' lent') :
    Env k M G0 G σ H0 (upd H p (.ins (mC k) dx fs')) (ds.set n (some (.m own (mMk k ns line' lent')))) :=
  E.mut hx hp fun fp ⟨p', dx', d, fs0, e1, e2, e3, e4, e5, e6⟩ hf0 => by
    cases e1
    subst e2
    rw [hi] at e4
    cases e4
    refine ⟨[p, d], fun b hb => .inl hb, fun b hb => ?_, fun b hb _ => ?_, fun b hb => ?_, p, dx, d, fs', rfl, rfl, e3, upd_same, hf d e5, by rw [upd_ne (fun z => e3 z.symm)]; exact e6⟩
    · by_cases z : b = p
      · rw [z, upd_same]; exact fun z => nomatch z
      · rw [upd_ne z]; exact (hf0 b hb).2
    · exact upd_ne fun z => hb (by rw [z]; exact List.mem_cons_self)
    · by_cases z : b = p
      · rw [z, upd_same]; exact fun z => nomatch z
      · rw [upd_ne z]; exact (hf0 b hb).2
theorem MkF.put {fs : List (PySem.Str × V)} {d : Addr} {line : Int} {lent : Nat} (h : MkF fs d line lent) : (∀ i : Int, MkF (putF "line" (.int i) fs) d i lent) ∧ ∀ j : Nat, MkF (putF "lent" (.int (j : Int)) fs) d line j := by
  refine ⟨fun i => ⟨?_, ?_, ?_, ?_, fun m hm => ?_⟩, fun j => ⟨?_, ?_, ?_, ?_, fun m hm => ?_⟩⟩
  · rw [lookup_putF, if_neg (by decide)]; exact h.s
  · rw [lookup_putF, if_pos rfl]
  · rw [lookup_putF, if_neg (by decide)]; exact h.e
  · rw [putF_len _ _ _ (by rw [h.l]; rfl)]; exact h.few
  · rw [lookup_putF, if_neg (by rcases hm with rfl | rfl | rfl <;> decide)]; exact h.n m hm
  · rw [lookup_putF, if_neg (by decide)]; exact h.s
  · rw [lookup_putF, if_neg (by decide)]; exact h.l
  · rw [lookup_putF, if_pos rfl]
  · rw [putF_len _ _ _ (by rw [h.e]; rfl)]; exact h.few
  · rw [lookup_putF, if_neg (by rcases hm with rfl | rfl | rfl <;> decide)]; exact h.n m hm
/-- self.line += 1 -/
theorem b_line (g : Good (yX X) k lv) (hd : Hd k) (n : Nat) {x : PySem.Str} {p p2 p3 : Pos} {j0 : Nat} {own : Bool} {ns : List PySem.Str} {line : Int} {lent : Nat} (hx : ds[n]? = some (some (.m own (mMk k ns line lent)))) (m : XB X k rest (ds.set n (some (.m own (mMk k ns (line + 1) lent)))) N R)
    (hN : X.N[n]? = some x := by rfl) (hv : Vis X.env.scope x := by first | exact .inl rfl | exact .inr (.inl rfl) | exact .inr (.inr rfl)) (h1 : (x == ("__debug__" : PySem.Str)) = false := by decide) (h2 : (x == ("__classdict__" : PySem.Str)) = false := by decide) :
    XB X k (.AugAssign (.Attribute (.Name x p) "line" p2) .Add (.Constant (.int 1) j0 p3) pos :: rest) ds N R := by
  refine b_st (t := sFldAug k.K (tVar n) (tC (.int 1)) rAdd "line") (by have z := ps_fldaug (X := X) (f := "line") (pos := pos) (tpos := p2) (tE_slot (p := p) hN hv h1 h2) (pe_int (i := 1) (j := j0) (pos := p3)) in_add; rw [show X.K = k.K from g.eK ()] at z; exact z) fun M G0 G σ H0 H D E nx r => ?_
  obtain ⟨p0, dx, d, fs, s1, s2, s3, s4, s5⟩ := E.getMk hx
  exact ⟨_, s1, p0, _, dx, fs, _, rfl, s3, hd.cls, hd.nLine, s4.l, _, _, rfl, rfl, dx, fs, s3, by have := s4.few; omega, nx σ H0 _ _ m (E.mutMk hx s1 s3 fun d h => h.put.1 _) (Ex.refl _)⟩
/-- self.lent += 1 -/
theorem b_lent (g : Good (yX X) k lv) (hd : Hd k) (n : Nat) {x : PySem.Str} {p p2 p3 : Pos} {j0 : Nat} {own : Bool} {ns : List PySem.Str} {line : Int} {lent : Nat} (hx : ds[n]? = some (some (.m own (mMk k ns line lent)))) (m : XB X k rest (ds.set n (some (.m own (mMk k ns line (lent + 1))))) N R)
    (hN : X.N[n]? = some x := by rfl) (hv : Vis X.env.scope x := by first | exact .inl rfl | exact .inr (.inl rfl) | exact .inr (.inr rfl)) (h1 : (x == ("__debug__" : PySem.Str)) = false := by decide) (h2 : (x == ("__classdict__" : PySem.Str)) = false := by decide) :
    XB X k (.AugAssign (.Attribute (.Name x p) "lent" p2) .Add (.Constant (.int 1) j0 p3) pos :: rest) ds N R := by
  refine b_st (t := sFldAug k.K (tVar n) (tC (.int 1)) rAdd "lent") (by have z := ps_fldaug (X := X) (f := "lent") (pos := pos) (tpos := p2) (tE_slot (p := p) hN hv h1 h2) (pe_int (i := 1) (j := j0) (pos := p3)) in_add; rw [show X.K = k.K from g.eK ()] at z; exact z) fun M G0 G σ H0 H D E nx r => ?_
  obtain ⟨p0, dx, d, fs, s1, s2, s3, s4, s5⟩ := E.getMk hx
  exact ⟨_, s1, p0, _, dx, fs, _, rfl, s3, hd.cls, hd.nLent, s4.e, _, _, rfl, rfl, dx, fs, s3, by have := s4.few; omega, nx σ H0 _ _ m (E.mutMk hx s1 s3 fun d h => h.put.2 (lent + 1)) (Ex.refl _)⟩
abbrev MetK (k : Kw) (lv : Nat) (m : PySem.Str) (F : Mut → List Dt → (Dt → Mut → Prop) → Prop) : Prop := C8.Met k.P k.w k.K k.mg k.base lv (mC k) m (spM k F) []
/-- self.m() -/
theorem xx_meth0 (n : Nat) {x m : PySem.Str} {p pa : Pos} {own : Bool} {ns : List PySem.Str} {line : Int} {lent : Nat} {F : Mut → List Dt → (Dt → Mut → Prop) → Prop} {Rr : Dt → Mut → Prop} {j : Nat} {pl : Sem Bool} (hx : ds[n]? = some (some (.m own (mMk k ns line lent)))) (g : Good (yX X) k lv) (c : MetK k j m F) (hj : j ≤ lv) (hm : m = "next_line" ∨ m = "marked" ∨ m = "marked_step") (hF : F (mMk k ns line lent) [] Rr)
    (hN : X.N[n]? = some x := by rfl) (hv : Vis X.env.scope x := by first | exact .inl rfl | exact .inr (.inl rfl) | exact .inr (.inr rfl)) (h1 : (x == ("__debug__" : PySem.Str)) = false := by decide) (h2 : (x == ("__classdict__" : PySem.Str)) = false := by decide)
    (ht : eval (.Call (.Attribute (.Name x p) m pa) [] [] pos) X.env = (do let ov ← eval (.Name x p) X.env; standAt pa.atName; let (f, first) ← holding [ov] (getMethod ov m pl); callWith pos f first (backTo pos (starEach [] X.env)) (backToKw pos (keywordEach [] X.env))) := by rfl) :
    XX (yX X) k (.Call (.Attribute (.Name x p) m pa) [] [] pos) ds (fun d ds' => ∃ u', Rr d u' ∧ ds' = ds.set n (some (.m own u'))) := by
  have c' : C8.Met X.prog X.w X.K X.mg X.base j (mC k) m (spM k F) [] := by rw [show X.prog = k.P from g.eP (), show X.w = k.w from g.ew (), show X.K = k.K from g.eK (), show X.mg = k.mg from g.em (), show X.base = k.base from g.eb ()]; exact c
  refine xx_of (te := tMeth (mC k) m (spM k F) [] C8.E0 (tVar n) tNil) (fun _ => C8.pe_mt0 (pl := pl) c' (g.hr ()) hj (tE_slot hN hv h1 h2) ht) fun M G0 G σ H0 H E Q q => ?_
  obtain ⟨p0, dx, d, fs, s1, s2, s3, s4, s5⟩ := E.getMk hx
  obtain ⟨v1, fp1, k1, k2, k3, k4⟩ := E.call (H0' := H0) (H' := H) hx
  rw [s1] at k1
  cases k1
  exact ⟨_, s1, p0, dx, fs, rfl, s3, s4.n m hm, H0, _, [], fp1, _, [], Rr, rfl, E.wld.in_, .nil, k2, k3, hF, fun d u' hr r H2 H2' fp' w rr hu hf => q r H2 H2' d _ ⟨u', hr, rfl⟩ (k4 H2 H2' u' fp' w hu hf) w.fz rr⟩
/-- self.m(e) -/
theorem xx_meth1 (n : Nat) {x m : PySem.Str} {p pa : Pos} {own : Bool} {ns : List PySem.Str} {line : Int} {lent : Nat} {d0 : Dt} {F : Mut → List Dt → (Dt → Mut → Prop) → Prop} {Rr : Dt → Mut → Prop} {j : Nat} {pl : Sem Bool} (hx : ds[n]? = some (some (.m own (mMk k ns line lent)))) (g : Good (yX X) k lv) (c : MetK k j m F) (hj : j ≤ lv) (hm : m = "next_line" ∨ m = "marked" ∨ m = "marked_step") (he : XD (yX X) k e ds d0) (hF : F (mMk k ns line lent) [d0] Rr)
    (hN : X.N[n]? = some x := by rfl) (hv : Vis X.env.scope x := by first | exact .inl rfl | exact .inr (.inl rfl) | exact .inr (.inr rfl)) (h1 : (x == ("__debug__" : PySem.Str)) = false := by decide) (h2 : (x == ("__classdict__" : PySem.Str)) = false := by decide)
    (hst : starEach [e] X.env = (false, eval e X.env) :: starEach [] X.env := by rfl) (hpl : (backTo pos (starEach [] X.env)).any (fun x => x.1) = false := by rfl)
    (ht : eval (.Call (.Attribute (.Name x p) m pa) [e] [] pos) X.env = (do let ov ← eval (.Name x p) X.env; standAt pa.atName; let (f, first) ← holding [ov] (getMethod ov m pl); callWith pos f first (backTo pos (starEach [e] X.env)) (backToKw pos (keywordEach [] X.env))) := by rfl) :
    XX (yX X) k (.Call (.Attribute (.Name x p) m pa) [e] [] pos) ds (fun d ds' => ∃ u', Rr d u' ∧ ds' = ds.set n (some (.m own u'))) := by
  obtain ⟨te, pe, ee⟩ := he
  have c' : C8.Met X.prog X.w X.K X.mg X.base j (mC k) m (spM k F) [] := by rw [show X.prog = k.P from g.eP (), show X.w = k.w from g.ew (), show X.K = k.K from g.eK (), show X.mg = k.mg from g.em (), show X.base = k.base from g.eb ()]; exact c
  refine xx_of (te := tMeth (mC k) m (spM k F) [] C8.E0 (tVar n) (tCons te tNil)) (fun _ => C8.pe_mt (pl := pl) c' (g.hr ()) hj (tE_slot hN hv h1 h2) (pa_cons (pe ()) pa_nil hst) hst hpl ht) fun M G0 G σ H0 H E Q q => ?_
  obtain ⟨p0, dx, d, fs, s1, s2, s3, s4, s5⟩ := E.getMk hx
  refine ⟨_, s1, p0, dx, fs, rfl, s3, s4.n m hm, ee M G0 G σ H0 H E _ fun y H1 H1' E1 w1 r1 => ?_⟩
  obtain ⟨v1, fp1, k1, k2, k3, k4⟩ := E1.call (H0' := H0) (H' := H) hx
  rw [s1] at k1
  cases k1
  exact ⟨H1, _, [y], fp1, _, [d0], Rr, rfl, E1.wld.in_, .cons r1 .nil, k2, k3, hF, fun d u' hr r H2 H2' fp' w rr hu hf => q r H2 H2' d _ ⟨u', hr, rfl⟩ (k4 H2 H2' u' fp' w hu hf) (w1.fz.trans w.fz) rr⟩
end
section
variable {k : Kw}
/-- a method by its body -/
theorem metM {m q : PySem.Str} {st : Stmt} {N ps : List PySem.Str} {lv i j : Nat} {F : Mut → List Dt → (Dt → Mut → Prop) → Prop} (hd : Hd k) (h : fn[i]? = some ⟨("Marker", some m), m, q, C8.fnArgs st, C8.fnBody st, C8.fnScope st⟩) (hm : fa[j]? = some (.meth "Marker" m)) (b : BindsN st m q ps) (S : C8.scC N ps (C8.fnScope st) = true) (len : ∀ u ds R, F u ds R → ds.length + 1 = ps.length)
    (body : ∀ f cdv A outer s H E, Good (yX (bX k N q st f cdv A outer s H E)) k lv → ∀ u ds R, F u ds R → XB (bX k N q st f cdv A outer s H E) k (C8.fnBody st) (some (.m false u) :: sd ds ++ List.replicate (N.length - (ds.length + 1)) none)
      (fun ds' => ∃ u', ds'[0]? = some (some (.m false u')) ∧ R .non u') (rM R)) : MetK k (lv + 1) m F := by
  obtain ⟨fd, FF, e⟩ := hd.fun_ i h
  refine C8.met0 hd.cls (He.meth_ok (hd.says.fact j hm)) FF (FF.binds e b) (C8.fnScope_by S) (fun vs H Q E h => ?_) fun cdv A outer s H vs Q E hr h => ⟨_, ps_tB, ?_⟩
  · obtain ⟨G0, v, vs', fp, u, ds, R, rfl, h1, h2, h3, h4, h5, h6⟩ := h
    rw [List.length_cons, h2.length]
    exact len u ds R h5
  · obtain ⟨G0, v, vs', fp, u, ds, R, rfl, h1, h2, h3, h4, h5, h6⟩ := h
    refine body _ cdv A outer s H E (bX_good S hr) u ds R h5 (fp, v) G0 H _ G0 H _ (start_envM h1 h2 h3 h4) (fun σ' H0' H' ds' n E' _ => ?_) (fun v σ' H0' H' d ds' fp2 rr E' r hf => ?_)
    · obtain ⟨u', hu, hR⟩ := n
      obtain ⟨fp', b1, b2⟩ := E'.back hu
      exact h6 .non u' hR .non H0' H' fp' E'.wld .non b1 b2
    · cases d with
      | d d =>
        obtain ⟨u', hu, hR⟩ := rr
        obtain ⟨fp', b1, b2⟩ := E'.back hu
        exact h6 d u' hR v H0' H' fp' E'.wld r b1 b2
      | m _ _ => exact rr.elim
end
end Uw
end
section
set_option Elab.async false
set_option linter.all false
set_option maxRecDepth 100000
set_option maxHeartbeats 4000000
namespace Uw
open PySem PySem.Spec PyProof.Rows L2 Evl
/-! marked programs -/
inductive MS where
  | pl (r : Row) | le (l : Int) (a b c : Nat) (s : List MS) (m : Int) | if_ (l b : Int) (s : List MS) (m : Int) (t : List MS) | wh (l b : Int) (s : List MS) (m : Int)
mutual
def MS.e : MS → Dt
  | .pl r => r.e
  | .le l a b c s m => .tup [.str "lend", .int l, .tup [dI a, dI b, dI c], .lst (MS.es s), .int m]
  | .if_ l b s m t => .tup [.str "if", .int l, .int b, .lst (MS.es s), .int m, .lst (MS.es t)]
  | .wh l b s m => .tup [.str "while", .int l, .int b, .lst (MS.es s), .int m]
def MS.es : List MS → List Dt
  | [] => []
  | x :: r => MS.e x :: MS.es r
end
theorem mes_map : ∀ l : List MS, MS.es l = l.map MS.e
  | [] => by simp [MS.es]
  | x :: r => by simp [MS.es, mes_map r]
mutual
def MS.n : MS → Nat
  | .pl _ => 1
  | .le _ _ _ _ s _ => MS.ns s + 6
  | .if_ _ _ s _ t => MS.ns s + MS.ns t + 2
  | .wh _ _ s _ => MS.ns s + 2
def MS.ns : List MS → Nat
  | [] => 0
  | x :: r => MS.n x + MS.ns r
end
mutual
def MS.ht : MS → Nat
  | .pl _ => 0
  | .le _ _ _ _ s _ => MS.hts s + 1
  | .if_ _ _ s _ t => max (MS.hts s) (MS.hts t) + 1
  | .wh _ _ s _ => MS.hts s + 1
def MS.hts : List MS → Nat
  | [] => 0
  | x :: r => max (MS.ht x) (MS.hts r)
end
def Row.plain : Row → Prop
  | .tst _ _ _ | .jmp _ _ | .fin _ => False
  | _ => True
mutual
def MS.ok : MS → Prop
  | .pl r => r.ok ∧ r.plain
  | .le _ a b c s _ => a < 3 ∧ b < 3 ∧ c < 3 ∧ MS.oks s
  | .if_ _ _ s _ t => MS.oks s ∧ MS.oks t
  | .wh _ _ s _ => MS.oks s
def MS.oks : List MS → Prop
  | [] => True
  | x :: r => MS.ok x ∧ MS.oks r
end
theorem ixOf_lt {s : PySem.Str} {ns : List PySem.Str} (h : s ∈ ns) : ixOf s ns < ns.length := (List.getElem?_eq_some_iff.mp (ixOf_at h).1).1
theorem stp_pos (st : Stp) : 1 ≤ st.n := by cases st <;> rw [Stp.n] <;> omega
theorem ns_len : ∀ l : List Stp, l.length ≤ Stp.ns l
  | [] => Nat.zero_le _
  | x :: r => by
    have h1 := ns_len r
    have h2 := stp_pos x
    rw [Stp.ns, List.length_cons]
    omega
theorem ns_app (a b : List Stp) : Stp.ns (a ++ b) = Stp.ns a + Stp.ns b := by
  induction a with
  | nil => simp [Stp.ns]
  | cons x r ih => rw [List.cons_append, Stp.ns, Stp.ns, ih, Nat.add_assoc]
theorem nls_app (a b : List Stp) : Stp.nls (a ++ b) = Stp.nls a + Stp.nls b := by
  induction a with
  | nil => simp [Stp.nls]
  | cons x r ih => rw [List.cons_append, Stp.nls, Stp.nls, ih, Nat.add_assoc]
theorem hts_app (a b : List Stp) : Stp.hts (a ++ b) = max (Stp.hts a) (Stp.hts b) := by
  induction a with
  | nil => simp [Stp.hts]
  | cons x r ih => rw [List.cons_append, Stp.hts, Stp.hts, ih]; omega
theorem mns_app (a b : List MS) : MS.ns (a ++ b) = MS.ns a + MS.ns b := by
  induction a with
  | nil => simp [MS.ns]
  | cons x r ih => rw [List.cons_append, MS.ns, MS.ns, ih, Nat.add_assoc]
theorem mhts_app (a b : List MS) : MS.hts (a ++ b) = max (MS.hts a) (MS.hts b) := by
  induction a with
  | nil => simp [MS.hts]
  | cons x r ih => rw [List.cons_append, MS.hts, MS.hts, ih]; omega
theorem moks_app {a b : List MS} (ha : MS.oks a) (hb : MS.oks b) : MS.oks (a ++ b) := by
  induction a with
  | nil => exact hb
  | cons x r ih => rw [List.cons_append]; rw [MS.oks] at ha ⊢; exact ⟨ha.1, ih ha.2⟩
section
variable {k : Kw}
abbrev FM := Mut → List Dt → (Dt → Mut → Prop) → Prop
def F_next_line (k : Kw) : FM := fun u ds R => ∃ (ns : List PySem.Str) (line : Int) (lent : Nat), u = mMk k ns line lent ∧ ds = [] ∧ R = fun d u' => d = .int line ∧ u' = mMk k ns (line + 1) lent
theorem c_next_line (hd : Hd k) : MetK k 1 "next_line" (F_next_line k) := by
  refine metM (N := ["self"]) (ps := ["self"]) (q := "Marker.next_line") (st := s_Marker_next_line) (i := 22) (j := 108) hd rfl rfl (fun _ _ _ _ _ _ us hl => match us, hl with | [_], _ => rfl) (by decide +kernel) (fun u ds R h => ?_) (fun f cdv A outer s H E g u ds R h => ?_)
  · obtain ⟨ns, line, lent, rfl, rfl, _⟩ := h; rfl
  · obtain ⟨ns, line, lent, rfl, rfl, rfl⟩ := h
    refine b_line g hd 0 rfl ?_
    refine b_ret (x_sub (x_fldI g hd 0 rfl (.inl ⟨rfl, rfl⟩)) x_int) ?_
    exact ⟨_, rfl, congrArg Dt.int (by omega), rfl⟩
def F_marked_step (k : Kw) (h : Nat) : FM := fun u ds R => ∃ (ns : List PySem.Str) (line : Int) (lent : Nat) (st : Stp), u = mMk k ns line lent ∧ ds = [st.e] ∧ ns.length ≤ 2 ∧ st.ok ns ∧ st.ht ≤ h ∧ lent + st.nl ≤ 3 ∧ st.n ≤ 1000 ∧
  R = fun d u' => ∃ (ms : MS) (line' : Int), d = ms.e ∧ ms.ok ∧ ms.n = st.n ∧ ms.ht = st.ht ∧ u' = mMk k ns line' (lent + st.nl)
def F_marked (k : Kw) (h : Nat) : FM := fun u ds R => ∃ (ns : List PySem.Str) (line : Int) (lent : Nat) (l : List Stp), u = mMk k ns line lent ∧ ds = [.lst (Stp.es l)] ∧ ns.length ≤ 2 ∧ Stp.oks ns l ∧ Stp.hts l ≤ h ∧ lent + Stp.nls l ≤ 3 ∧ Stp.ns l ≤ 1000 ∧
  R = fun d u' => ∃ (l' : List MS) (line' : Int), d = .lst (MS.es l') ∧ MS.oks l' ∧ MS.ns l' = Stp.ns l ∧ MS.hts l' = Stp.hts l ∧ u' = mMk k ns line' (lent + Stp.nls l)
theorem c_marked_by {h lv : Nat} (hd : Hd k) (sub : MetK k lv "marked_step" (F_marked_step k h)) : MetK k (lv + 1) "marked" (F_marked k h) := by
  refine metM (N := ["self", "steps", "found", "step"]) (ps := ["self", "steps"]) (q := "Marker.marked") (st := s_Marker_marked) (i := 23) (j := 109) hd rfl rfl (fun _ _ _ _ _ _ us hl => match us, hl with | [_, _], _ => rfl) (by decide +kernel) (fun u ds R h => ?_) (fun f cdv A outer s H E g u ds R h => ?_)
  · obtain ⟨ns, line, lent, l, rfl, rfl, _⟩ := h; rfl
  · obtain ⟨ns, line, lent, l, rfl, rfl, h2, ok, hh, hlent, hn, rfl⟩ := h
    refine b_new 2 xa_nil ?_
    refine b_forD (l := Stp.es l) (fun i ds1 => ∃ (l' : List MS) (line' : Int) (x3 : Option Ent), ds1 = [some (.m false (mMk k ns line' (lent + Stp.nls (l.take i)))), some (.d (.lst (Stp.es l))), some (.m true (mL k (MS.es l'))), x3] ∧ MS.oks l' ∧ MS.ns l' = Stp.ns (l.take i) ∧ MS.hts l' = Stp.hts (l.take i) ∧ l'.length = i) 3 g (x_name 1 rfl) (.inl rfl)
      ⟨[], line, none, by rw [List.take_zero, Stp.nls, MS.es]; rfl, trivial, rfl, rfl, rfl⟩ ?_ ?_
    · rintro i d ds1 hd1 ⟨l', line', x3, rfl, o1, o2, o3, o4⟩
      rw [es_map, List.getElem?_map] at hd1
      cases hx : l[i]? with
      | none => rw [hx] at hd1; cases hd1
      | some st =>
        rw [hx] at hd1
        cases hd1
        have hm := List.mem_of_getElem? hx
        have e1 : l.take (i + 1) = l.take i ++ [st] := by rw [List.take_succ, hx]; rfl
        have e2 : Stp.nls (l.take (i + 1)) = Stp.nls (l.take i) + st.nl := by rw [e1, nls_app]; simp [Stp.nls]
        have e3 : Stp.ns (l.take (i + 1)) = Stp.ns (l.take i) + st.n := by rw [e1, ns_app]; simp [Stp.ns]
        have e3' : Stp.hts (l.take (i + 1)) = max (Stp.hts (l.take i)) st.ht := by rw [e1, hts_app]; simp [Stp.hts]
        have e4 : Stp.nls l = Stp.nls (l.take (i + 1)) + Stp.nls (l.drop (i + 1)) := by rw [← nls_app, List.take_append_drop]
        have e5 : Stp.ns l = Stp.ns (l.take (i + 1)) + Stp.ns (l.drop (i + 1)) := by rw [← ns_app, List.take_append_drop]
        have hil := (List.getElem?_eq_some_iff.mp hx).1
        have hlen := ns_len l
        refine b_appX 2 rfl g (xx_meth1 0 rfl g sub (Nat.le_refl _) (.inr (.inr rfl)) (x_name 3 rfl) ⟨ns, line', _, st, rfl, rfl, h2, oks_mem ok st hm, hts_le hh st hm, by omega, by omega, rfl⟩) ?_ (by rw [mes_map, List.length_map, o4]; omega)
        rintro d ds2 ⟨u', ⟨ms, line2, rfl, m1, m2, m3, rfl⟩, rfl⟩
        refine ⟨rfl, b_nil ⟨l' ++ [ms], line2, some (.d st.e), ?_, moks_app o1 ⟨m1, trivial⟩, ?_, ?_, by simp [o4]⟩⟩
        · rw [e2, mes_map (l' ++ [ms]), List.map_append, ← mes_map, ← Nat.add_assoc]; rfl
        · rw [mns_app, o2, e3]; simp [MS.ns, m2]
        · rw [mhts_app, o3, e3']; simp [MS.hts, m3]
    · rintro ds1 ⟨l', line', x3, rfl, o1, o2, o3, o4⟩
      rw [es_map, List.length_map, List.take_length] at *
      refine b_frz 2 rfl (b_ret (x_name 2 rfl) ?_)
      exact ⟨_, rfl, l', line', rfl, o1, o2, o3, rfl⟩
theorem c_mstep_by {h lv : Nat} (hd : Hd k) (hlv : 1 ≤ lv) (sub : ∀ h', h = h' + 1 → MetK k lv "marked" (F_marked k h')) : MetK k (lv + 1) "marked_step" (F_marked_step k h) := by
  refine metM (N := ["self", "step", "line", "slots", "body", "some", "middle", "others", "name"]) (ps := ["self", "step"]) (q := "Marker.marked_step") (st := s_Marker_marked_step) (i := 24) (j := 110) hd rfl rfl (fun _ _ _ _ _ _ us hl => match us, hl with | [_, _], _ => rfl) (by decide +kernel) (fun u ds R h => ?_) (fun f cdv A outer s H E g u ds R h => ?_)
  · obtain ⟨ns, line, lent, l, rfl, rfl, _⟩ := h; rfl
  · obtain ⟨ns, line, lent, st, rfl, rfl, h2, ok, hh, hlent, hn, rfl⟩ := h
    refine b_asgX 2 (xx_meth0 0 rfl g (c_next_line hd) hlv (.inl rfl) ⟨ns, line, lent, rfl, rfl, rfl⟩) ?_
    rintro d ds2 ⟨u', ⟨rfl, rfl⟩, rfl⟩
    have ix : ∀ {x}, x ∈ ns → ixOf x ns < 3 := fun h => by have := ixOf_lt h; omega
    cases st with
    | pl p =>
      rw [Stp.ok] at ok
      have en : (Stp.pl p).nl = 0 := by rw [Stp.nl]
      have em : (Stp.pl p).n = 1 := by rw [Stp.n]
      have eh : (Stp.pl p).ht = 0 := by rw [Stp.ht]
      have ex : (Stp.pl p).e = .tup (p.ws.map .str) := by rw [Stp.e]
      rw [ex, en, em, eh]
      cases p with
      | act w x =>
        refine b_ifF0 (t_c (q_eq (x_ixT g (x_name 1 rfl) x_int rfl) x_str rfl)) ?_
        refine b_ifF0 (t_c (q_eq (x_ixT g (x_name 1 rfl) x_int rfl) x_str rfl)) ?_
        refine b_ifF0 (t_c (q_eq (x_ixT g (x_name 1 rfl) x_int rfl) x_str rfl)) ?_
        refine b_ifT (t_c (q_eq (x_ixT g (x_name 1 rfl) x_int rfl) x_str rfl)) ?_
        refine b_ret (x_tup (xa_cons x_str (xa_cons (x_name 2 rfl) (xa_cons (x_slotOf g hd 0 rfl (x_ixT g (x_name 1 rfl) x_int rfl) ok.2) (xa_cons (x_ixT g (x_name 1 rfl) x_int rfl) xa_nil))))) ?_
        exact ⟨_, rfl, .pl (.act line (ixOf x ns) w), _, by rw [MS.e]; rfl, ⟨⟨ix ok.2, ok.1.2.1, ok.1.2.2⟩, trivial⟩, by rw [MS.n], by rw [MS.ht], rfl⟩
      | opn x =>
        refine b_ifF0 (t_c (q_eq (x_ixT g (x_name 1 rfl) x_int rfl) x_str rfl)) ?_
        refine b_ifF0 (t_c (q_eq (x_ixT g (x_name 1 rfl) x_int rfl) x_str rfl)) ?_
        refine b_ifF0 (t_c (q_eq (x_ixT g (x_name 1 rfl) x_int rfl) x_str rfl)) ?_
        refine b_ifF0 (t_c (q_eq (x_ixT g (x_name 1 rfl) x_int rfl) x_str rfl)) ?_
        refine b_ret (x_catA (l := [.str "open", .int line]) (m := [dI (ixOf x ns)]) g (x_tup (xa_cons (x_ixT g (x_name 1 rfl) x_int rfl) (xa_cons (x_name 2 rfl) xa_nil))) (x_tuple g hd.tuple (XD.is (x_lc "name" 8 ["self", "step", "line", "slots", "body", "some", "middle", "others", "name"] (C8.fnScope s_Marker_marked_step) g (l := [.str x]) [some (dI (ixOf x ns))] (x_slT g (x_name 1 rfl) (xo_some x_int) xo_none) (.inr rfl) (Nat.le_of_ble_eq_true rfl) rfl (fun i d hi => ?_) isT_nil) rfl)) (Nat.le_of_ble_eq_true rfl)) ?_
        · match i, hi with
          | 0, hi => cases hi; exact ⟨_, rfl, .inl ⟨rfl, _, rfl, x_slotOf (bk_good g) hd 0 rfl (x_name 8 rfl) ok⟩⟩
        · exact ⟨_, rfl, .pl (.opn line (ixOf x ns)), _, by rw [MS.e]; rfl, ⟨ix ok, trivial⟩, by rw [MS.n], by rw [MS.ht], rfl⟩
      | drp x =>
        refine b_ifF0 (t_c (q_eq (x_ixT g (x_name 1 rfl) x_int rfl) x_str rfl)) ?_
        refine b_ifF0 (t_c (q_eq (x_ixT g (x_name 1 rfl) x_int rfl) x_str rfl)) ?_
        refine b_ifF0 (t_c (q_eq (x_ixT g (x_name 1 rfl) x_int rfl) x_str rfl)) ?_
        refine b_ifF0 (t_c (q_eq (x_ixT g (x_name 1 rfl) x_int rfl) x_str rfl)) ?_
        refine b_ret (x_catA (l := [.str "drop", .int line]) (m := [dI (ixOf x ns)]) g (x_tup (xa_cons (x_ixT g (x_name 1 rfl) x_int rfl) (xa_cons (x_name 2 rfl) xa_nil))) (x_tuple g hd.tuple (XD.is (x_lc "name" 8 ["self", "step", "line", "slots", "body", "some", "middle", "others", "name"] (C8.fnScope s_Marker_marked_step) g (l := [.str x]) [some (dI (ixOf x ns))] (x_slT g (x_name 1 rfl) (xo_some x_int) xo_none) (.inr rfl) (Nat.le_of_ble_eq_true rfl) rfl (fun i d hi => ?_) isT_nil) rfl)) (Nat.le_of_ble_eq_true rfl)) ?_
        · match i, hi with
          | 0, hi => cases hi; exact ⟨_, rfl, .inl ⟨rfl, _, rfl, x_slotOf (bk_good g) hd 0 rfl (x_name 8 rfl) ok⟩⟩
        · exact ⟨_, rfl, .pl (.drp line (ixOf x ns)), _, by rw [MS.e]; rfl, ⟨ix ok, trivial⟩, by rw [MS.n], by rw [MS.ht], rfl⟩
      | cpy x y =>
        refine b_ifF0 (t_c (q_eq (x_ixT g (x_name 1 rfl) x_int rfl) x_str rfl)) ?_
        refine b_ifF0 (t_c (q_eq (x_ixT g (x_name 1 rfl) x_int rfl) x_str rfl)) ?_
        refine b_ifF0 (t_c (q_eq (x_ixT g (x_name 1 rfl) x_int rfl) x_str rfl)) ?_
        refine b_ifF0 (t_c (q_eq (x_ixT g (x_name 1 rfl) x_int rfl) x_str rfl)) ?_
        refine b_ret (x_catA (l := [.str "copy", .int line]) (m := [dI (ixOf x ns), dI (ixOf y ns)]) g (x_tup (xa_cons (x_ixT g (x_name 1 rfl) x_int rfl) (xa_cons (x_name 2 rfl) xa_nil))) (x_tuple g hd.tuple (XD.is (x_lc "name" 8 ["self", "step", "line", "slots", "body", "some", "middle", "others", "name"] (C8.fnScope s_Marker_marked_step) g (l := [.str x, .str y]) [some (dI (ixOf x ns)), some (dI (ixOf y ns))] (x_slT g (x_name 1 rfl) (xo_some x_int) xo_none) (.inr rfl) (Nat.le_of_ble_eq_true rfl) rfl (fun i d hi => ?_) isT_nil) rfl)) (Nat.le_of_ble_eq_true rfl)) ?_
        · match i, hi with
          | 0, hi => cases hi; exact ⟨_, rfl, .inl ⟨rfl, _, rfl, x_slotOf (bk_good g) hd 0 rfl (x_name 8 rfl) ok.1⟩⟩
          | 1, hi => cases hi; exact ⟨_, rfl, .inl ⟨rfl, _, rfl, x_slotOf (bk_good g) hd 0 rfl (x_name 8 rfl) ok.2⟩⟩
        · exact ⟨_, rfl, .pl (.cpy line (ixOf x ns) (ixOf y ns)), _, by rw [MS.e]; rfl, ⟨⟨ix ok.1, ix ok.2⟩, trivial⟩, by rw [MS.n], by rw [MS.ht], rfl⟩
      | tie x y =>
        refine b_ifF0 (t_c (q_eq (x_ixT g (x_name 1 rfl) x_int rfl) x_str rfl)) ?_
        refine b_ifF0 (t_c (q_eq (x_ixT g (x_name 1 rfl) x_int rfl) x_str rfl)) ?_
        refine b_ifF0 (t_c (q_eq (x_ixT g (x_name 1 rfl) x_int rfl) x_str rfl)) ?_
        refine b_ifF0 (t_c (q_eq (x_ixT g (x_name 1 rfl) x_int rfl) x_str rfl)) ?_
        refine b_ret (x_catA (l := [.str "tie", .int line]) (m := [dI (ixOf x ns), dI (ixOf y ns)]) g (x_tup (xa_cons (x_ixT g (x_name 1 rfl) x_int rfl) (xa_cons (x_name 2 rfl) xa_nil))) (x_tuple g hd.tuple (XD.is (x_lc "name" 8 ["self", "step", "line", "slots", "body", "some", "middle", "others", "name"] (C8.fnScope s_Marker_marked_step) g (l := [.str x, .str y]) [some (dI (ixOf x ns)), some (dI (ixOf y ns))] (x_slT g (x_name 1 rfl) (xo_some x_int) xo_none) (.inr rfl) (Nat.le_of_ble_eq_true rfl) rfl (fun i d hi => ?_) isT_nil) rfl)) (Nat.le_of_ble_eq_true rfl)) ?_
        · match i, hi with
          | 0, hi => cases hi; exact ⟨_, rfl, .inl ⟨rfl, _, rfl, x_slotOf (bk_good g) hd 0 rfl (x_name 8 rfl) ok.1⟩⟩
          | 1, hi => cases hi; exact ⟨_, rfl, .inl ⟨rfl, _, rfl, x_slotOf (bk_good g) hd 0 rfl (x_name 8 rfl) ok.2⟩⟩
        · exact ⟨_, rfl, .pl (.tie line (ixOf x ns) (ixOf y ns)), _, by rw [MS.e]; rfl, ⟨⟨ix ok.1, ix ok.2⟩, trivial⟩, by rw [MS.n], by rw [MS.ht], rfl⟩
    | le x y b =>
      rw [Stp.ok] at ok
      rw [Stp.ht] at hh ⊢
      rw [Stp.nl] at hlent ⊢
      rw [Stp.n] at hn ⊢
      obtain ⟨h', rfl⟩ : ∃ h', h = h' + 1 := ⟨h - 1, by omega⟩
      have ex : (Stp.le x y b).e = .tup [.str "lend", .str x, .str y, .lst (Stp.es b)] := by rw [Stp.e]
      rw [ex]
      refine b_ifT (t_c (q_eq (x_ixT g (x_name 1 rfl) x_int rfl) x_str rfl)) ?_
      refine b_asg 3 (x_tup (xa_cons (x_slotOf g hd 0 rfl (x_ixT g (x_name 1 rfl) x_int rfl) ok.1) (xa_cons (x_slotOf g hd 0 rfl (x_ixT g (x_name 1 rfl) x_int rfl) ok.2.1) (xa_cons (x_fldI g hd 0 rfl (.inr ⟨rfl, rfl⟩)) xa_nil)))) ?_
      refine b_lent g hd 0 rfl ?_
      refine b_asgX 4 (xx_meth1 0 rfl g (sub h' rfl) (Nat.le_refl _) (.inr (.inl rfl)) (x_ixT g (x_name 1 rfl) x_int rfl) ⟨ns, _, _, b, rfl, rfl, h2, ok.2.2, by omega, by omega, by omega, rfl⟩) ?_
      rintro d ds2 ⟨u', ⟨l', line', rfl, m1, m2, m3, rfl⟩, rfl⟩
      refine b_retX (xx_tup (Po := fun l ds' => l = [.str "lend", .int line, .tup [dI (ixOf x ns), dI (ixOf y ns), dI lent], .lst (MS.es l'), .int line'] ∧ ∃ li : Int, ds'[0]? = some (some (.m false (mMk k ns li (lent + 1 + Stp.nls b))))) (xxa_cons x_str.xx fun d ds1 h => ?_) fun l ds' h => by rw [h.1]; exact Nat.le_of_ble_eq_true rfl) ?_
      · obtain ⟨rfl, rfl⟩ := h
        refine xxa_cons (x_name 2 rfl).xx fun d ds1 h => ?_
        obtain ⟨rfl, rfl⟩ := h
        refine xxa_cons (x_name 3 rfl).xx fun d ds1 h => ?_
        obtain ⟨rfl, rfl⟩ := h
        refine xxa_cons (x_name 4 rfl).xx fun d ds1 h => ?_
        obtain ⟨rfl, rfl⟩ := h
        refine xxa_cons (xx_meth0 0 rfl g (c_next_line hd) hlv (.inl rfl) ⟨ns, line', _, rfl, rfl, rfl⟩) fun d ds1 h => ?_
        obtain ⟨u', ⟨rfl, rfl⟩, rfl⟩ := h
        exact fun M G0 G σ H0 H E Q q => xxa_nil M G0 G σ H0 H E Q fun vs H1 H1' l ds' ⟨e1, e2⟩ => q vs H1 H1' l ds' ⟨by rw [e1], by rw [e2]; exact ⟨_, rfl⟩⟩
      · rintro d ds' ⟨l, rfl, rfl, li, hli⟩
        exact ⟨_, hli, .le line (ixOf x ns) (ixOf y ns) lent l' line', li, by rw [MS.e], ⟨ix ok.1, ix ok.2.1, by omega, m1⟩, by rw [MS.n, m2], by rw [MS.ht, m3], by rw [show lent + (Stp.nls b + 1) = lent + 1 + Stp.nls b by omega]⟩
    | if_ b s1 t =>
      rw [Stp.ok] at ok
      rw [Stp.ht] at hh ⊢
      rw [Stp.nl] at hlent ⊢
      rw [Stp.n] at hn ⊢
      obtain ⟨h', rfl⟩ : ∃ h', h = h' + 1 := ⟨h - 1, by omega⟩
      have ex : (Stp.if_ b s1 t).e = .tup [.str "if", .int b, .lst (Stp.es s1), .lst (Stp.es t)] := by rw [Stp.e]
      rw [ex]
      refine b_ifF0 (t_c (q_eq (x_ixT g (x_name 1 rfl) x_int rfl) x_str rfl)) ?_
      refine b_ifT (t_c (q_eq (x_ixT g (x_name 1 rfl) x_int rfl) x_str rfl)) ?_
      refine b_asgX 5 (xx_meth1 0 rfl g (sub h' rfl) (Nat.le_refl _) (.inr (.inl rfl)) (x_ixT g (x_name 1 rfl) x_int rfl) ⟨ns, _, _, s1, rfl, rfl, h2, ok.2.1, by omega, by omega, by omega, rfl⟩) ?_
      rintro d ds2 ⟨u', ⟨l1, line1, rfl, m1, m2, m3, rfl⟩, rfl⟩
      refine b_asgX 6 (xx_meth0 0 rfl g (c_next_line hd) hlv (.inl rfl) ⟨ns, line1, _, rfl, rfl, rfl⟩) ?_
      rintro d ds2 ⟨u', ⟨rfl, rfl⟩, rfl⟩
      refine b_asgX 7 (xx_meth1 0 rfl g (sub h' rfl) (Nat.le_refl _) (.inr (.inl rfl)) (x_ixT g (x_name 1 rfl) x_int rfl) ⟨ns, _, _, t, rfl, rfl, h2, ok.2.2, by omega, by omega, by omega, rfl⟩) ?_
      rintro d ds2 ⟨u', ⟨l2, line2, rfl, k1, k2, k3, rfl⟩, rfl⟩
      refine b_exprX (xx_meth0 0 rfl g (c_next_line hd) hlv (.inl rfl) ⟨ns, line2, _, rfl, rfl, rfl⟩) ?_
      rintro d ds2 ⟨u', ⟨rfl, rfl⟩, rfl⟩
      refine b_ret (x_tup (xa_cons x_str (xa_cons (x_name 2 rfl) (xa_cons (x_ixT g (x_name 1 rfl) x_int rfl) (xa_cons (x_name 5 rfl) (xa_cons (x_name 6 rfl) (xa_cons (x_name 7 rfl) xa_nil))))))) ?_
      exact ⟨_, rfl, .if_ line b l1 line1 l2, _, by rw [MS.e], ⟨m1, k1⟩, by rw [MS.n, m2, k2], by rw [MS.ht, m3, k3], by rw [Nat.add_assoc]⟩
    | wh b s1 =>
      rw [Stp.ok] at ok
      rw [Stp.ht] at hh ⊢
      rw [Stp.nl] at hlent ⊢
      rw [Stp.n] at hn ⊢
      obtain ⟨h', rfl⟩ : ∃ h', h = h' + 1 := ⟨h - 1, by omega⟩
      have ex : (Stp.wh b s1).e = .tup [.str "while", .int b, .lst (Stp.es s1)] := by rw [Stp.e]
      rw [ex]
      refine b_ifF0 (t_c (q_eq (x_ixT g (x_name 1 rfl) x_int rfl) x_str rfl)) ?_
      refine b_ifF0 (t_c (q_eq (x_ixT g (x_name 1 rfl) x_int rfl) x_str rfl)) ?_
      refine b_ifT (t_c (q_eq (x_ixT g (x_name 1 rfl) x_int rfl) x_str rfl)) ?_
      refine b_asgX 4 (xx_meth1 0 rfl g (sub h' rfl) (Nat.le_refl _) (.inr (.inl rfl)) (x_ixT g (x_name 1 rfl) x_int rfl) ⟨ns, _, _, s1, rfl, rfl, h2, ok.2, by omega, by omega, by omega, rfl⟩) ?_
      rintro d ds2 ⟨u', ⟨l', line', rfl, m1, m2, m3, rfl⟩, rfl⟩
      refine b_retX (xx_tup (Po := fun l ds' => l = [.str "while", .int line, .int b, .lst (MS.es l'), .int line'] ∧ ∃ li : Int, ds'[0]? = some (some (.m false (mMk k ns li (lent + Stp.nls s1))))) (xxa_cons x_str.xx fun d ds1 h => ?_) fun l ds' h => by rw [h.1]; exact Nat.le_of_ble_eq_true rfl) ?_
      · obtain ⟨rfl, rfl⟩ := h
        refine xxa_cons (x_name 2 rfl).xx fun d ds1 h => ?_
        obtain ⟨rfl, rfl⟩ := h
        refine xxa_cons (x_ixT g (x_name 1 rfl) x_int rfl).xx fun d ds1 h => ?_
        obtain ⟨rfl, rfl⟩ := h
        refine xxa_cons (x_name 4 rfl).xx fun d ds1 h => ?_
        obtain ⟨rfl, rfl⟩ := h
        refine xxa_cons (xx_meth0 0 rfl g (c_next_line hd) hlv (.inl rfl) ⟨ns, line', _, rfl, rfl, rfl⟩) fun d ds1 h => ?_
        obtain ⟨u', ⟨rfl, rfl⟩, rfl⟩ := h
        exact fun M G0 G σ H0 H E Q q => xxa_nil M G0 G σ H0 H E Q fun vs H1 H1' l ds' ⟨e1, e2⟩ => q vs H1 H1' l ds' ⟨by rw [e1], by rw [e2]; exact ⟨_, rfl⟩⟩
      · rintro d ds' ⟨l, rfl, rfl, li, hli⟩
        exact ⟨_, hli, .wh line b l' line', li, by rw [MS.e], m1, by rw [MS.n, m2], by rw [MS.ht, m3], rfl⟩
theorem c_marked (hd : Hd k) : ∀ h : Nat, MetK k (2 * h + 3) "marked" (F_marked k h)
  | 0 => c_marked_by hd (c_mstep_by (lv := 1) hd (Nat.le_refl _) fun h' e => by cases e)
  | h + 1 => c_marked_by hd (c_mstep_by (lv := 2 * h + 3) hd (by omega) fun h' e => by cases e; exact c_marked hd h)
end
end Uw
end
section
set_option Elab.async false
set_option linter.all false
set_option maxRecDepth 100000
set_option maxHeartbeats 4000000
namespace Uw
open PySem PySem.Spec PyProof.Rows L2 Evl
/-! segments of rows: plain mathematics -/
def RowAt (s n : Nat) (new : List Row) (j : Nat) (r : Row) : Prop := r.ok ∧ match r with
  | .tst _ _ t => s + j < t ∧ t ≤ s + n
  | .jmp _ t => (s + j < t ∧ t ≤ s + n) ∨ (s ≤ t ∧ t < s + j ∧ ∃ l b, new[t - s]? = some (.tst l b (s + j + 1)))
  | .fin _ => False
  | _ => True
def Seg (s : Nat) (new : List Row) : Prop := ∀ (j : Nat) (r : Row), new[j]? = some r → RowAt s new.length new j r
theorem seg_emb {S o : Nat} {a big : List Row} (h : Seg (S + o) a) (he : ∀ j, j < a.length → big[o + j]? = a[j]?) (hl : o + a.length ≤ big.length) : ∀ (j : Nat) (r : Row), a[j]? = some r → RowAt S big.length big (o + j) r := by
  intro j r hj
  have hlt := (List.getElem?_eq_some_iff.mp hj).1
  obtain ⟨h1, h2⟩ := h j r hj
  refine ⟨h1, ?_⟩
  cases r with
  | tst l b t =>
    have h2' : S + o + j < t ∧ t ≤ S + o + a.length := h2
    show S + (o + j) < t ∧ t ≤ S + big.length
    omega
  | jmp l t =>
    have h2' : (S + o + j < t ∧ t ≤ S + o + a.length) ∨ (S + o ≤ t ∧ t < S + o + j ∧ ∃ l b, a[t - (S + o)]? = some (.tst l b (S + o + j + 1))) := h2
    show (S + (o + j) < t ∧ t ≤ S + big.length) ∨ (S ≤ t ∧ t < S + (o + j) ∧ ∃ l b, big[t - S]? = some (.tst l b (S + (o + j) + 1)))
    rcases h2' with h | ⟨p1, p2, l', b', p3⟩
    · left; omega
    · right
      refine ⟨by omega, by omega, l', b', ?_⟩
      have e := he (t - (S + o)) (by omega)
      rw [show o + (t - (S + o)) = t - S by omega] at e
      rw [e, p3, show S + o + j = S + (o + j) by omega]
  | fin l => exact h2
  | _ => trivial
theorem seg_nil (s : Nat) : Seg s [] := fun j r h => by simp at h
theorem seg_one {s : Nat} {r : Row} (h : r.ok) (hp : r.plain) : Seg s [r] := fun j r' hj => by
  cases j with
  | zero =>
    cases hj
    refine ⟨h, ?_⟩
    cases r <;> first | exact hp.elim | trivial
  | succ j => simp at hj
theorem seg_app {s : Nat} {a b : List Row} (ha : Seg s a) (hb : Seg (s + a.length) b) : Seg s (a ++ b) := by
  intro j r hj
  by_cases q : j < a.length
  · rw [List.getElem?_append_left q] at hj
    have := seg_emb (S := s) (o := 0) (big := a ++ b) ha (fun j hj => by rw [Nat.zero_add, List.getElem?_append_left hj]) (by rw [List.length_append]; omega) j r hj
    rwa [Nat.zero_add] at this
  · rw [List.getElem?_append_right (by omega)] at hj
    have := seg_emb (S := s) (o := a.length) (big := a ++ b) hb (fun j hj => by rw [List.getElem?_append_right (by omega)]; congr 1; omega) (by rw [List.length_append]; omega) _ r hj
    rwa [show a.length + (j - a.length) = j by omega] at this
theorem seg_if {s : Nat} {a b : List Row} {l1 bd l2 : Int} (ha : Seg (s + 1) a) (hb : Seg (s + 1 + a.length + 1) b) :
    Seg s (.tst l1 bd (s + 1 + a.length + 1) :: (a ++ (.jmp l2 (s + 1 + a.length + 1 + b.length) :: b))) := by
  intro j r hj
  have hL : (Row.tst l1 bd (s + 1 + a.length + 1) :: (a ++ (.jmp l2 (s + 1 + a.length + 1 + b.length) :: b))).length = a.length + b.length + 2 := by
    simp only [List.length_cons, List.length_append]; omega
  cases j with
  | zero => cases hj; exact ⟨trivial, by show s + 0 < _ ∧ _ ≤ s + _; omega⟩
  | succ j =>
    rw [List.getElem?_cons_succ] at hj
    by_cases q : j < a.length
    · rw [List.getElem?_append_left q] at hj
      have := seg_emb (S := s) (o := 1) (big := Row.tst l1 bd (s + 1 + a.length + 1) :: (a ++ (.jmp l2 (s + 1 + a.length + 1 + b.length) :: b))) ha (fun j hj => by rw [show 1 + j = j + 1 from Nat.add_comm _ _, List.getElem?_cons_succ, List.getElem?_append_left hj]) (by omega) j r hj
      rwa [show 1 + j = j + 1 from Nat.add_comm _ _] at this
    · rw [List.getElem?_append_right (by omega)] at hj
      by_cases q2 : j = a.length
      · subst q2
        rw [Nat.sub_self] at hj
        cases hj
        exact ⟨trivial, .inl (by omega)⟩
      · obtain ⟨i, hi⟩ : ∃ i, j - a.length = i + 1 := ⟨j - a.length - 1, by omega⟩
        rw [hi, List.getElem?_cons_succ] at hj
        have := seg_emb (S := s) (o := a.length + 2) (big := Row.tst l1 bd (s + 1 + a.length + 1) :: (a ++ (.jmp l2 (s + 1 + a.length + 1 + b.length) :: b))) (by rw [show s + (a.length + 2) = s + 1 + a.length + 1 by omega]; exact hb)
          (fun j hj => by rw [show a.length + 2 + j = (a.length + (j + 1)) + 1 by omega, List.getElem?_cons_succ, List.getElem?_append_right (by omega), show a.length + (j + 1) - a.length = j + 1 by omega, List.getElem?_cons_succ]) (by omega) i r hj
        rwa [show a.length + 2 + i = j + 1 by omega] at this
theorem seg_wh {s : Nat} {b : List Row} {l1 bd l2 : Int} (hb : Seg (s + 1) b) : Seg s (.tst l1 bd (s + 1 + b.length + 1) :: (b ++ [.jmp l2 s])) := by
  intro j r hj
  have hL : (Row.tst l1 bd (s + 1 + b.length + 1) :: (b ++ [.jmp l2 s])).length = b.length + 2 := by
    simp only [List.length_cons, List.length_append, List.length_nil]
  cases j with
  | zero => cases hj; exact ⟨trivial, by show s + 0 < _ ∧ _ ≤ s + _; omega⟩
  | succ j =>
    rw [List.getElem?_cons_succ] at hj
    by_cases q : j < b.length
    · rw [List.getElem?_append_left q] at hj
      have := seg_emb (S := s) (o := 1) (big := Row.tst l1 bd (s + 1 + b.length + 1) :: (b ++ [.jmp l2 s])) hb (fun j hj => by rw [show 1 + j = j + 1 from Nat.add_comm _ _, List.getElem?_cons_succ, List.getElem?_append_left hj]) (by omega) j r hj
      rwa [show 1 + j = j + 1 from Nat.add_comm _ _] at this
    · rw [List.getElem?_append_right (by omega)] at hj
      have q2 : j = b.length := by
        have := (List.getElem?_eq_some_iff.mp hj).1
        simp at this
        omega
      subst q2
      rw [Nat.sub_self] at hj
      cases hj
      refine ⟨trivial, .inr ⟨by omega, by omega, l1, bd, ?_⟩⟩
      rw [Nat.sub_self, show s + (b.length + 1) + 1 = s + 1 + b.length + 1 by omega]; rfl
theorem seg_whT {s : Nat} {a b : List Row} {l1 bd l2 : Int} (ha : Seg (s + 1) a) (hb : Seg (s + 1 + a.length + 1) b) :
    Seg s (.tst l1 bd (s + 1 + a.length + 1 + b.length + 1) :: (a ++ (.tst l1 bd (s + 1 + a.length + 1 + b.length + 1) :: (b ++ [.jmp l2 (s + 1 + a.length)])))) := by
  have hw := seg_wh (s := s + 1 + a.length) (l1 := l1) (bd := bd) (l2 := l2) hb
  have hab := seg_app ha hw
  intro j r hj
  cases j with
  | zero =>
    cases hj
    refine ⟨trivial, ?_⟩
    simp only [List.length_cons, List.length_append, List.length_nil]
    omega
  | succ j =>
    rw [List.getElem?_cons_succ] at hj
    have := seg_emb (S := s) (o := 1) (big := Row.tst l1 bd (s + 1 + a.length + 1 + b.length + 1) :: (a ++ (.tst l1 bd (s + 1 + a.length + 1 + b.length + 1) :: (b ++ [.jmp l2 (s + 1 + a.length)])))) hab (fun j hj => by rw [show 1 + j = j + 1 from Nat.add_comm _ _, List.getElem?_cons_succ]) (by rw [List.length_cons]; omega) j r hj
    rwa [show 1 + j = j + 1 from Nat.add_comm _ _] at this
mutual
/-- rows, turned -/
def MS.t : MS → Nat
  | .pl _ => 1
  | .le _ _ _ _ s _ => MS.ts s + 6
  | .if_ _ _ s _ t => MS.ts s + MS.ts t + 2
  | .wh _ _ s _ => MS.ts s + MS.ns s + 3
def MS.ts : List MS → Nat
  | [] => 0
  | x :: r => MS.t x + MS.ts r
end
def MS.w (turn : Bool) (x : MS) : Nat := if turn then x.t else x.n
def MS.wsum (turn : Bool) (l : List MS) : Nat := if turn then MS.ts l else MS.ns l
theorem mt_le : ∀ n : Nat, (∀ x : MS, x.ht ≤ n → x.t ≤ (n + 1) * x.n) ∧ ∀ l : List MS, MS.hts l ≤ n → MS.ts l ≤ (n + 1) * MS.ns l := by
  have lst : ∀ n, (∀ x : MS, x.ht ≤ n → x.t ≤ (n + 1) * x.n) → ∀ l : List MS, MS.hts l ≤ n → MS.ts l ≤ (n + 1) * MS.ns l := by
    intro n hs l
    induction l with
    | nil => intro _; simp [MS.ts]
    | cons x r ih =>
      intro hh
      rw [MS.hts] at hh
      rw [MS.ts, MS.ns, Nat.mul_add]
      have h1 := hs x (by omega)
      have h2 := ih (by omega)
      omega
  have mono : ∀ n (a : Nat), (n + 1) * a ≤ (n + 2) * a := fun n a => Nat.mul_le_mul_right _ (by omega)
  have stp : ∀ n, (∀ m, m < n → ∀ x : MS, x.ht ≤ m → x.t ≤ (m + 1) * x.n) → ∀ x : MS, x.ht ≤ n → x.t ≤ (n + 1) * x.n := by
    intro n ih x hh
    cases x with
    | pl r => rw [MS.t, MS.n]; omega
    | le l a b c s m =>
      rw [MS.ht] at hh
      rw [MS.t, MS.n, Nat.mul_add]
      obtain ⟨n', rfl⟩ : ∃ n', n = n' + 1 := ⟨n - 1, by omega⟩
      have h1 := lst n' (ih n' (by omega)) s (by omega)
      have h2 := mono n' (MS.ns s)
      have h3 : 6 ≤ (n' + 1 + 1) * 6 := by omega
      rw [show n' + 2 = n' + 1 + 1 by omega] at h2
      omega
    | if_ l b s m t =>
      rw [MS.ht] at hh
      rw [MS.t, MS.n, Nat.mul_add, Nat.mul_add]
      obtain ⟨n', rfl⟩ : ∃ n', n = n' + 1 := ⟨n - 1, by omega⟩
      have h1 := lst n' (ih n' (by omega)) s (by omega)
      have h2 := lst n' (ih n' (by omega)) t (by omega)
      have h3 := mono n' (MS.ns s)
      have h4 := mono n' (MS.ns t)
      rw [show n' + 2 = n' + 1 + 1 by omega] at h3 h4
      omega
    | wh l b s m =>
      rw [MS.ht] at hh
      rw [MS.t, MS.n, Nat.mul_add]
      obtain ⟨n', rfl⟩ : ∃ n', n = n' + 1 := ⟨n - 1, by omega⟩
      have h1 := lst n' (ih n' (by omega)) s (by omega)
      have h2 : (n' + 1 + 1) * MS.ns s = (n' + 1) * MS.ns s + MS.ns s := by rw [Nat.succ_mul]
      omega
  have all : ∀ n, ∀ x : MS, x.ht ≤ n → x.t ≤ (n + 1) * x.n := fun n => Nat.strongRecOn n fun n ih => stp n ih
  exact fun n => ⟨all n, lst n (all n)⟩
theorem nt_le : ∀ n : Nat, (∀ x : MS, x.ht ≤ n → x.n ≤ x.t) ∧ ∀ l : List MS, MS.hts l ≤ n → MS.ns l ≤ MS.ts l := by
  have lst : ∀ n, (∀ x : MS, x.ht ≤ n → x.n ≤ x.t) → ∀ l : List MS, MS.hts l ≤ n → MS.ns l ≤ MS.ts l := by
    intro n hs l
    induction l with
    | nil => intro _; simp [MS.ns]
    | cons x r ih =>
      intro hh
      rw [MS.hts] at hh
      rw [MS.ts, MS.ns]
      have h1 := hs x (by omega)
      have h2 := ih (by omega)
      omega
  have stp : ∀ n, (∀ m, m < n → ∀ x : MS, x.ht ≤ m → x.n ≤ x.t) → ∀ x : MS, x.ht ≤ n → x.n ≤ x.t := by
    intro n ih x hh
    cases x with
    | pl r => rw [MS.t, MS.n]; exact Nat.le_refl _
    | le l a b c s m =>
      rw [MS.ht] at hh
      rw [MS.t, MS.n]
      have h1 := lst (n - 1) (ih (n - 1) (by omega)) s (by omega)
      omega
    | if_ l b s m t =>
      rw [MS.ht] at hh
      rw [MS.t, MS.n]
      have h1 := lst (n - 1) (ih (n - 1) (by omega)) s (by omega)
      have h2 := lst (n - 1) (ih (n - 1) (by omega)) t (by omega)
      omega
    | wh l b s m =>
      rw [MS.ht] at hh
      rw [MS.t, MS.n]
      have h1 := lst (n - 1) (ih (n - 1) (by omega)) s (by omega)
      omega
  have all : ∀ n, ∀ x : MS, x.ht ≤ n → x.n ≤ x.t := fun n => Nat.strongRecOn n fun n ih => stp n ih
  exact fun n => ⟨all n, lst n (all n)⟩
end Uw
end
section
set_option Elab.async false
set_option linter.all false
set_option maxRecDepth 100000
set_option maxHeartbeats 4000000
namespace Uw
open PySem PySem.Spec PyProof.Rows L2 Evl
section
variable {k : Kw}
/-- rows put behind those that stand -/
def PutR (k : Kw) (l : List Dt) (n : Nat) : Dt → Mut → Prop := fun d u' => d = .non ∧ ∃ new : List Row, u' = mL k (l ++ new.map Row.e) ∧ Seg l.length new ∧ new.length = n
def F_put_steps (k : Kw) (h : Nat) : FM := fun u ds R => ∃ (l : List Dt) (ms : List MS) (turn : Bool), u = mL k l ∧ ds = [.lst (MS.es ms), .bl turn] ∧ MS.oks ms ∧ MS.hts ms ≤ h ∧ l.length + MS.wsum turn ms ≤ 5000 ∧ MS.ns ms ≤ 5000 ∧ R = PutR k l (MS.wsum turn ms)
/-- one block -/
def F_put1 (k : Kw) (h : Nat) (P : MS → Prop) : FM := fun u ds R => ∃ (l : List Dt) (x : MS) (turn : Bool), u = mL k l ∧ ds = [x.e, .bl turn] ∧ P x ∧ x.ok ∧ x.ht ≤ h ∧ l.length + x.w turn ≤ 5000 ∧ R = PutR k l (x.w turn)
def isLe : MS → Prop
  | .le _ _ _ _ _ _ => True
  | _ => False
def isIf : MS → Prop
  | .if_ _ _ _ _ _ => True
  | _ => False
def isWh : MS → Prop
  | .wh _ _ _ _ => True
  | _ => False
theorem setmid {α : Type} {a b : List α} {x y : α} {n : Nat} (h : n = a.length) : (a ++ x :: b).set n y = a ++ y :: b := by
  subst h
  induction a with
  | nil => rfl
  | cons z a ih => rw [List.cons_append, List.length_cons, List.set_cons_succ, ih]; rfl
theorem mns_mem {x : MS} : ∀ {l : List MS}, x ∈ l → x.n ≤ MS.ns l
  | [], h => by cases h
  | y :: l, h => by
    rw [MS.ns]
    rcases List.mem_cons.mp h with z | z
    · rw [z]; omega
    · have := mns_mem z; omega
theorem lit_ok : (("lend" : PySem.Str).length ≤ 100 ∧ PyData.strOk ("lend" : PySem.Str) = true) ∧ ("back" : PySem.Str).length ≤ 100 ∧ PyData.strOk ("back" : PySem.Str) = true := by decide +kernel
theorem c_put_lend_by {h lv : Nat} (hd : Hd k) (sub : ∀ h', h = h' + 1 → CalK k lv "put_steps" (spM k (F_put_steps k h'))) : CalK k (lv + 1) "put_lend" (spM k (F_put1 k h isLe)) := by
  refine defM (N := ["rows", "block", "turn", "one", "other", "kept"]) (ps := ["rows", "block", "turn"]) (st := s_put_lend) (hd.def_ 25 21 80 rfl rfl rfl) (fun _ _ _ _ _ _ us hl => match us, hl with | [_, _, _], _ => rfl) (by decide +kernel) (fun u ds R h => ?_) (fun f cdv A outer s H E g u ds R h => ?_)
  · obtain ⟨l, x, turn, rfl, rfl, _⟩ := h; rfl
  · obtain ⟨l, x, turn, rfl, rfl, hx, ok, hh, hlen, rfl⟩ := h
    cases x with
    | pl r => exact hx.elim
    | if_ _ _ _ _ _ => exact hx.elim
    | wh _ _ _ _ => exact hx.elim
    | le ln a b c body m =>
      rw [MS.ok] at ok
      rw [MS.ht] at hh
      obtain ⟨h', rfl⟩ : ∃ h', h = h' + 1 := ⟨h - 1, by omega⟩
      have ex : (MS.le ln a b c body m).e = .tup [.str "lend", .int ln, .tup [dI a, dI b, dI c], .lst (MS.es body), .int m] := by rw [MS.e]
      have ew : (MS.le ln a b c body m).w turn = MS.wsum turn body + 6 := by
        unfold MS.w MS.wsum; cases turn <;> simp [MS.t, MS.n]
      have en : MS.ns body ≤ MS.wsum turn body := by
        unfold MS.wsum; cases turn
        · exact Nat.le_refl _
        · exact (nt_le (MS.hts body)).2 body (Nat.le_refl _)
      rw [ex]
      rw [ew] at hlen ⊢
      obtain ⟨⟨k1, k2⟩, k3, k4⟩ := lit_ok
      refine b_unp (x_ixT (d := .tup [dI a, dI b, dI c]) g (x_name 1 rfl) x_int rfl).xx ?_
      rintro d ds1 ⟨rfl, rfl⟩
      refine ⟨_, xg_tup g (xgs_cons (xg_name 3) (xgs_cons (xg_name 4) (xgs_cons (xg_name 5) xgs_nil))), ?_⟩
      refine b_app 0 rfl g (x_tup (xa_cons x_str (xa_cons (x_ixT g (x_name 1 rfl) x_int rfl) (xa_cons (x_name 5 rfl) (xa_cons (x_name 3 rfl) xa_nil))))) ?_ (by omega)
      refine b_app 0 rfl g (x_tup (xa_cons x_str (xa_cons (x_ixT g (x_name 1 rfl) x_int rfl) (xa_cons (x_name 5 rfl) (xa_cons x_str xa_nil))))) ?_ (by rw [List.length_append]; simp only [List.length_cons, List.length_nil]; omega)
      refine b_app 0 rfl g (x_tup (xa_cons x_str (xa_cons (x_ixT g (x_name 1 rfl) x_int rfl) (xa_cons (x_name 4 rfl) (xa_cons (x_name 5 rfl) xa_nil))))) ?_ (by rw [List.length_append, List.length_append]; simp only [List.length_cons, List.length_nil]; omega)
      let hdR : List Row := [.cpy ln c a, .act ln c "lend", .cpy ln b c]
      have e3 : l ++ [Dt.tup [.str "copy", .int ln, dI c, dI a]] ++ [Dt.tup [.str "do", .int ln, dI c, .str "lend"]] ++ [Dt.tup [.str "copy", .int ln, dI b, dI c]] = l ++ hdR.map Row.e := by
        rw [List.append_assoc, List.append_assoc]; rfl
      rw [e3]
      have hl3 : (l ++ hdR.map Row.e).length = l.length + 3 := by rw [List.length_append]; rfl
      refine b_exprX (xx_callM 0 rfl g (sub h' rfl) (Nat.le_refl _) (xa_cons (x_ixT g (x_name 1 rfl) x_int rfl) (xa_cons (x_name 2 rfl) xa_nil)) ⟨_, body, turn, rfl, rfl, ok.2.2.2, by omega, by rw [hl3]; omega, by omega, rfl⟩) ?_
      rintro d ds2 ⟨u', ⟨rfl, new, rfl, hseg, hn⟩, rfl⟩
      rw [hl3] at hseg
      have hl4 : (l ++ hdR.map Row.e ++ new.map Row.e).length = l.length + 3 + new.length := by rw [List.length_append, hl3, List.length_map]
      refine b_app 0 rfl g (x_tup (xa_cons x_str (xa_cons (x_ixT g (x_name 1 rfl) x_int rfl) (xa_cons (x_name 5 rfl) (xa_cons x_str xa_nil))))) ?_ (by rw [hl4]; omega)
      refine b_app 0 rfl g (x_tup (xa_cons x_str (xa_cons (x_ixT g (x_name 1 rfl) x_int rfl) (xa_cons (x_name 4 rfl) xa_nil)))) ?_ (by rw [List.length_append, hl4]; simp only [List.length_cons, List.length_nil]; omega)
      refine b_app 0 rfl g (x_tup (xa_cons x_str (xa_cons (x_ixT g (x_name 1 rfl) x_int rfl) (xa_cons (x_name 5 rfl) xa_nil)))) ?_ (by rw [List.length_append, List.length_append, hl4]; simp only [List.length_cons, List.length_nil]; omega)
      let tlR : List Row := [.act m c "back", .drp m b, .drp m c]
      refine b_nil ⟨_, rfl, rfl, hdR ++ new ++ tlR, ?_, ?_, ?_⟩
      · congr 1
        rw [List.map_append, List.map_append]
        simp only [List.append_assoc]
        rfl
      · have s1 : Seg l.length hdR := seg_app (a := [.cpy ln c a]) (seg_one ⟨ok.2.2.1, ok.1⟩ trivial) (seg_app (a := [.act ln c "lend"]) (seg_one ⟨ok.2.2.1, k1, k2⟩ trivial) (seg_one ⟨ok.2.1, ok.2.2.1⟩ trivial))
        have s2 : Seg (l.length + (hdR ++ new).length) tlR := seg_app (a := [.act m c "back"]) (seg_one ⟨ok.2.2.1, k3, k4⟩ trivial) (seg_app (a := [.drp m b]) (seg_one ok.2.1 trivial) (seg_one ok.2.2.1 trivial))
        exact seg_app (seg_app s1 hseg) s2
      · show (hdR ++ new ++ tlR).length = _
        rw [List.length_append, List.length_append, hn]
        show 3 + _ + 3 = _
        omega
theorem c_put_if_by {h lv : Nat} (hd : Hd k) (sub : ∀ h', h = h' + 1 → CalK k lv "put_steps" (spM k (F_put_steps k h'))) : CalK k (lv + 1) "put_if" (spM k (F_put1 k h isIf)) := by
  refine defM (N := ["rows", "block", "turn", "head", "middle"]) (ps := ["rows", "block", "turn"]) (st := s_put_if) (hd.def_ 26 22 81 rfl rfl rfl) (fun _ _ _ _ _ _ us hl => match us, hl with | [_, _, _], _ => rfl) (by decide +kernel) (fun u ds R h => ?_) (fun f cdv A outer s H E g u ds R h => ?_)
  · obtain ⟨l, x, turn, rfl, rfl, _⟩ := h; rfl
  · obtain ⟨l, x, turn, rfl, rfl, hx, ok, hh, hlen, rfl⟩ := h
    cases x with
    | pl r => exact hx.elim
    | le _ _ _ _ _ _ => exact hx.elim
    | wh _ _ _ _ => exact hx.elim
    | if_ ln bd s1 m t =>
      rw [MS.ok] at ok
      rw [MS.ht] at hh
      obtain ⟨h', rfl⟩ : ∃ h', h = h' + 1 := ⟨h - 1, by omega⟩
      have ex : (MS.if_ ln bd s1 m t).e = .tup [.str "if", .int ln, .int bd, .lst (MS.es s1), .int m, .lst (MS.es t)] := by rw [MS.e]
      have ew : (MS.if_ ln bd s1 m t).w turn = MS.wsum turn s1 + MS.wsum turn t + 2 := by
        unfold MS.w MS.wsum; cases turn <;> simp [MS.t, MS.n]
      have en1 : MS.ns s1 ≤ MS.wsum turn s1 := by
        unfold MS.wsum; cases turn
        · exact Nat.le_refl _
        · exact (nt_le (MS.hts s1)).2 s1 (Nat.le_refl _)
      have en2 : MS.ns t ≤ MS.wsum turn t := by
        unfold MS.wsum; cases turn
        · exact Nat.le_refl _
        · exact (nt_le (MS.hts t)).2 t (Nat.le_refl _)
      rw [ex]
      rw [ew] at hlen ⊢
      refine b_asg 3 (x_lenM g 0 rfl hd.len) ?_
      refine b_app 0 rfl g (x_tup (xa_cons x_str (xa_cons (x_ixT g (x_name 1 rfl) x_int rfl) (xa_cons (x_ixT g (x_name 1 rfl) x_int rfl) (xa_cons x_int xa_nil))))) ?_ (by omega)
      have hl1 : (l ++ [Dt.tup [.str "test", .int ln, .int bd, .int 0]]).length = l.length + 1 := by rw [List.length_append]; rfl
      refine b_exprX (xx_callM 0 rfl g (sub h' rfl) (Nat.le_refl _) (xa_cons (x_ixT g (x_name 1 rfl) x_int rfl) (xa_cons (x_name 2 rfl) xa_nil)) ⟨_, s1, turn, rfl, rfl, ok.1, by omega, by rw [hl1]; omega, by omega, rfl⟩) ?_
      rintro d ds2 ⟨u', ⟨rfl, a, rfl, sa, ha⟩, rfl⟩
      rw [hl1] at sa
      have hl2 : (l ++ [Dt.tup [.str "test", .int ln, .int bd, .int 0]] ++ a.map Row.e).length = l.length + 1 + a.length := by rw [List.length_append, hl1, List.length_map]
      refine b_asg 4 (x_lenM g 0 rfl hd.len) ?_
      refine b_app 0 rfl g (x_tup (xa_cons x_str (xa_cons (x_ixT g (x_name 1 rfl) x_int rfl) (xa_cons x_int xa_nil)))) ?_ (by rw [hl2]; omega)
      have hl3 : (l ++ [Dt.tup [.str "test", .int ln, .int bd, .int 0]] ++ a.map Row.e ++ [Dt.tup [.str "jump", .int m, .int 0]]).length = l.length + 1 + a.length + 1 := by rw [List.length_append, hl2]; rfl
      refine b_setI (j := l.length) 0 rfl (x_tup (xa_cons x_str (xa_cons (x_ixT g (x_name 1 rfl) x_int rfl) (xa_cons (x_ixT g (x_name 1 rfl) x_int rfl) (xa_cons (x_lenM g 0 rfl hd.len) xa_nil))))) (x_name 3 rfl) (ixN_nat (by rw [hl3]; omega)) ?_
      have e1 : (l ++ [Dt.tup [.str "test", .int ln, .int bd, .int 0]] ++ a.map Row.e ++ [Dt.tup [.str "jump", .int m, .int 0]]).set l.length (.tup [.str "test", .int ln, .int bd, .int ((l ++ [Dt.tup [.str "test", .int ln, .int bd, .int 0]] ++ a.map Row.e ++ [Dt.tup [.str "jump", .int m, .int 0]]).length : Int)]) = l ++ (Row.tst ln bd (l.length + 1 + a.length + 1)).e :: (a.map Row.e ++ [Dt.tup [.str "jump", .int m, .int 0]]) := by
        rw [hl3, List.append_assoc, List.append_assoc, List.singleton_append, setmid rfl]; rfl
      rw [e1]
      have hl4 : (l ++ (Row.tst ln bd (l.length + 1 + a.length + 1)).e :: (a.map Row.e ++ [Dt.tup [.str "jump", .int m, .int 0]])).length = l.length + 1 + a.length + 1 := by
        simp only [List.length_append, List.length_cons, List.length_map, List.length_nil]; omega
      refine b_exprX (xx_callM 0 rfl g (sub h' rfl) (Nat.le_refl _) (xa_cons (x_ixT g (x_name 1 rfl) x_int rfl) (xa_cons (x_name 2 rfl) xa_nil)) ⟨_, t, turn, rfl, rfl, ok.2, by omega, by rw [hl4]; omega, by omega, rfl⟩) ?_
      rintro d ds2 ⟨u', ⟨rfl, b, rfl, sb, hb⟩, rfl⟩
      rw [hl4] at sb
      have hl5 : (l ++ (Row.tst ln bd (l.length + 1 + a.length + 1)).e :: (a.map Row.e ++ [Dt.tup [.str "jump", .int m, .int 0]]) ++ b.map Row.e).length = l.length + 1 + a.length + 1 + b.length := by rw [List.length_append, hl4, List.length_map]
      refine b_setI (j := l.length + 1 + a.length) 0 rfl (x_tup (xa_cons x_str (xa_cons (x_ixT g (x_name 1 rfl) x_int rfl) (xa_cons (x_lenM g 0 rfl hd.len) xa_nil)))) (x_name 4 rfl) (by rw [hl2]; exact ixN_nat (by rw [hl5]; omega)) ?_
      have e2 : (l ++ (Row.tst ln bd (l.length + 1 + a.length + 1)).e :: (a.map Row.e ++ [Dt.tup [.str "jump", .int m, .int 0]]) ++ b.map Row.e).set (l.length + 1 + a.length) (.tup [.str "jump", .int m, .int ((l ++ (Row.tst ln bd (l.length + 1 + a.length + 1)).e :: (a.map Row.e ++ [Dt.tup [.str "jump", .int m, .int 0]]) ++ b.map Row.e).length : Int)]) =
          l ++ (Row.tst ln bd (l.length + 1 + a.length + 1) :: (a ++ (Row.jmp m (l.length + 1 + a.length + 1 + b.length) :: b))).map Row.e := by
        rw [hl5]
        have e3 : l ++ (Row.tst ln bd (l.length + 1 + a.length + 1)).e :: (a.map Row.e ++ [Dt.tup [.str "jump", .int m, .int 0]]) ++ b.map Row.e = (l ++ (Row.tst ln bd (l.length + 1 + a.length + 1)).e :: a.map Row.e) ++ Dt.tup [.str "jump", .int m, .int 0] :: b.map Row.e := by
          simp only [List.append_assoc, List.cons_append, List.nil_append]
        rw [e3, setmid (by simp only [List.length_append, List.length_cons, List.length_map]; omega)]
        simp only [List.map_cons, List.map_append, List.append_assoc, List.cons_append]
        rfl
      rw [e2]
      refine b_nil ⟨_, rfl, rfl, _, rfl, seg_if sa sb, ?_⟩
      simp only [List.length_cons, List.length_append]
      omega
theorem c_put_while_by {h lv : Nat} (hd : Hd k) (sub : ∀ h', h = h' + 1 → CalK k lv "put_steps" (spM k (F_put_steps k h'))) : CalK k (lv + 1) "put_while" (spM k (F_put1 k h isWh)) := by
  refine defM (N := ["rows", "block", "turn", "first", "head"]) (ps := ["rows", "block", "turn"]) (st := s_put_while) (hd.def_ 27 23 82 rfl rfl rfl) (fun _ _ _ _ _ _ us hl => match us, hl with | [_, _, _], _ => rfl) (by decide +kernel) (fun u ds R h => ?_) (fun f cdv A outer s H E g u ds R h => ?_)
  · obtain ⟨l, x, turn, rfl, rfl, _⟩ := h; rfl
  · obtain ⟨l, x, turn, rfl, rfl, hx, ok, hh, hlen, rfl⟩ := h
    cases x with
    | pl r => exact hx.elim
    | le _ _ _ _ _ _ => exact hx.elim
    | if_ _ _ _ _ _ => exact hx.elim
    | wh ln bd s1 m =>
      rw [MS.ok] at ok
      rw [MS.ht] at hh
      obtain ⟨h', rfl⟩ : ∃ h', h = h' + 1 := ⟨h - 1, by omega⟩
      have ex : (MS.wh ln bd s1 m).e = .tup [.str "while", .int ln, .int bd, .lst (MS.es s1), .int m] := by rw [MS.e]
      have en1 : MS.ns s1 ≤ MS.ts s1 := (nt_le (MS.hts s1)).2 s1 (Nat.le_refl _)
      rw [ex]
      refine b_asg 3 (x_lenM g 0 rfl hd.len) ?_
      -- the loop itself, from the rows that stand
      have loop : ∀ (l2 : List Dt) (j3 : Nat) (x4 : Option Ent) (Fin : Mut → Prop), l2.length + MS.ns s1 + 2 ≤ 5000 → j3 ≤ l2.length → (∀ (b : List Row), Seg (l2.length + 1) b → b.length = MS.ns s1 → Fin (mL k ((l2 ++ (Row.tst ln bd (l2.length + 1 + b.length + 1) :: (b ++ [Row.jmp m l2.length])).map Row.e).set j3 (Row.tst ln bd (l2.length + 1 + b.length + 1)).e))) →
          XB (bX k ["rows", "block", "turn", "first", "head"] "put_while" s_put_while f cdv A outer s H E) k ((C8.fnBody s_put_while).drop 2) [some (.m false (mL k l2)), some (.d (.tup [.str "while", .int ln, .int bd, .lst (MS.es s1), .int m])), some (.d (.bl turn)), some (.d (dI j3)), x4] (fun ds' => ∃ u', ds'[0]? = some (some (.m false u')) ∧ Fin u') (rM fun d u' => d = .non ∧ Fin u') := by
        intro l2 j3 x4 Fin hb2 hj3 hfin
        refine b_asg 4 (x_lenM g 0 rfl hd.len) ?_
        refine b_app 0 rfl g (x_tup (xa_cons x_str (xa_cons (x_ixT g (x_name 1 rfl) x_int rfl) (xa_cons (x_ixT g (x_name 1 rfl) x_int rfl) (xa_cons x_int xa_nil))))) ?_ (by omega)
        have hl1 : (l2 ++ [Dt.tup [.str "test", .int ln, .int bd, .int 0]]).length = l2.length + 1 := by rw [List.length_append]; rfl
        refine b_exprX (xx_callM 0 rfl g (sub h' rfl) (Nat.le_refl _) (xa_cons (x_ixT g (x_name 1 rfl) x_int rfl) (xa_cons x_bl xa_nil)) ⟨_, s1, false, rfl, rfl, ok, by omega, by rw [hl1]; show _ + MS.ns s1 ≤ _; omega, by omega, rfl⟩) ?_
        rintro d ds2 ⟨u', ⟨rfl, b, rfl, sb, hb⟩, rfl⟩
        have hb : b.length = MS.ns s1 := hb
        rw [hl1] at sb
        have hl2 : (l2 ++ [Dt.tup [.str "test", .int ln, .int bd, .int 0]] ++ b.map Row.e).length = l2.length + 1 + b.length := by rw [List.length_append, hl1, List.length_map]
        refine b_app 0 rfl g (x_tup (xa_cons x_str (xa_cons (x_ixT g (x_name 1 rfl) x_int rfl) (xa_cons (x_name 4 rfl) xa_nil)))) ?_ (by rw [hl2]; omega)
        have hl3 : (l2 ++ [Dt.tup [.str "test", .int ln, .int bd, .int 0]] ++ b.map Row.e ++ [(Row.jmp m l2.length).e]).length = l2.length + 1 + b.length + 1 := by rw [List.length_append, hl2]; rfl
        refine b_setI (l := l2 ++ [Dt.tup [.str "test", .int ln, .int bd, .int 0]] ++ b.map Row.e ++ [(Row.jmp m l2.length).e]) (j := l2.length) 0 rfl (x_tup (xa_cons x_str (xa_cons (x_ixT g (x_name 1 rfl) x_int rfl) (xa_cons (x_ixT g (x_name 1 rfl) x_int rfl) (xa_cons (x_lenM (l := l2 ++ [Dt.tup [.str "test", .int ln, .int bd, .int 0]] ++ b.map Row.e ++ [(Row.jmp m l2.length).e]) g 0 rfl hd.len) xa_nil))))) (x_name 4 rfl) (ixN_nat (by rw [hl3]; omega)) ?_
        have e1 : (l2 ++ [Dt.tup [.str "test", .int ln, .int bd, .int 0]] ++ b.map Row.e ++ [(Row.jmp m l2.length).e]).set l2.length (.tup [.str "test", .int ln, .int bd, .int ((l2 ++ [Dt.tup [.str "test", .int ln, .int bd, .int 0]] ++ b.map Row.e ++ [(Row.jmp m l2.length).e]).length : Int)]) = l2 ++ (Row.tst ln bd (l2.length + 1 + b.length + 1) :: (b ++ [Row.jmp m l2.length])).map Row.e := by
          rw [hl3, List.append_assoc, List.append_assoc, List.singleton_append, setmid rfl, List.map_cons, List.map_append]; rfl
        rw [e1]
        have hl4 : (l2 ++ (Row.tst ln bd (l2.length + 1 + b.length + 1) :: (b ++ [Row.jmp m l2.length])).map Row.e).length = l2.length + 1 + b.length + 1 := by
          simp only [List.length_append, List.length_cons, List.length_map, List.length_nil]; omega
        refine b_setI (l := l2 ++ (Row.tst ln bd (l2.length + 1 + b.length + 1) :: (b ++ [Row.jmp m l2.length])).map Row.e) (j := j3) 0 rfl (x_tup (xa_cons x_str (xa_cons (x_ixT g (x_name 1 rfl) x_int rfl) (xa_cons (x_ixT g (x_name 1 rfl) x_int rfl) (xa_cons (x_lenM (l := l2 ++ (Row.tst ln bd (l2.length + 1 + b.length + 1) :: (b ++ [Row.jmp m l2.length])).map Row.e) g 0 rfl hd.len) xa_nil))))) (x_name 3 rfl) (ixN_nat (by rw [hl4]; omega)) ?_
        rw [hl4]
        exact b_nil ⟨_, rfl, hfin b sb hb⟩
      cases turn with
      | false =>
        have ew : (MS.wh ln bd s1 m).w false = MS.ns s1 + 2 := by unfold MS.w; simp [MS.n]
        rw [ew] at hlen ⊢
        refine b_ifF0 (t_v (x_name 2 rfl)) ?_
        refine SX.mono (loop l l.length none (fun u' => ∃ new : List Row, u' = mL k (l ++ new.map Row.e) ∧ Seg l.length new ∧ new.length = MS.ns s1 + 2) (by omega) (Nat.le_refl _) fun b sb hb => ?_) fun ds' ⟨u', h1, h2⟩ => ⟨u', h1, rfl, h2⟩
        refine ⟨_, ?_, seg_wh (l1 := ln) (bd := bd) (l2 := m) sb, by simp only [List.length_cons, List.length_append, List.length_nil]; omega⟩
        rw [List.map_cons, setmid rfl]
      | true =>
        have ew : (MS.wh ln bd s1 m).w true = MS.ts s1 + MS.ns s1 + 3 := by unfold MS.w; simp [MS.t]
        rw [ew] at hlen ⊢
        refine b_ifT (t_v (x_name 2 rfl)) ?_
        refine b_app 0 rfl g (x_tup (xa_cons x_str (xa_cons (x_ixT g (x_name 1 rfl) x_int rfl) (xa_cons (x_ixT g (x_name 1 rfl) x_int rfl) (xa_cons x_int xa_nil))))) ?_ (by omega)
        have hl1 : (l ++ [Dt.tup [.str "test", .int ln, .int bd, .int 0]]).length = l.length + 1 := by rw [List.length_append]; rfl
        refine b_exprX (xx_callM 0 rfl g (sub h' rfl) (Nat.le_refl _) (xa_cons (x_ixT g (x_name 1 rfl) x_int rfl) (xa_cons x_bl xa_nil)) ⟨_, s1, true, rfl, rfl, ok, by omega, by rw [hl1]; show _ + MS.ts s1 ≤ _; omega, by omega, rfl⟩) ?_
        rintro d ds2 ⟨u', ⟨rfl, a, rfl, sa, ha⟩, rfl⟩
        have ha : a.length = MS.ts s1 := ha
        rw [hl1] at sa
        have hl2 : (l ++ [Dt.tup [.str "test", .int ln, .int bd, .int 0]] ++ a.map Row.e).length = l.length + 1 + a.length := by rw [List.length_append, hl1, List.length_map]
        refine b_nil ?_
        refine SX.mono (loop _ l.length none (fun u' => ∃ new : List Row, u' = mL k (l ++ new.map Row.e) ∧ Seg l.length new ∧ new.length = MS.ts s1 + MS.ns s1 + 3) (by rw [hl2]; omega) (by rw [hl2]; omega) fun b sb hb => ?_) fun ds' ⟨u', h1, h2⟩ => ⟨u', h1, rfl, h2⟩
        rw [hl2] at sb ⊢
        refine ⟨_, ?_, seg_whT (l1 := ln) (bd := bd) (l2 := m) sa sb, by simp only [List.length_cons, List.length_append, List.length_nil]; omega⟩
        congr 1
        rw [List.append_assoc, List.append_assoc, List.singleton_append, setmid rfl]
        simp only [List.map_cons, List.map_append, List.append_assoc, List.cons_append]
theorem mtag (x : MS) : ∃ (hd : PySem.Str) (r : List Dt), x.e = .tup (.str hd :: r) ∧ eqD (.str hd) (.str "lend") = (match x with | .le _ _ _ _ _ _ => true | _ => false) ∧ (x.ok → eqD (.str hd) (.str "if") = (match x with | .if_ _ _ _ _ _ => true | _ => false)) ∧ (x.ok → eqD (.str hd) (.str "while") = (match x with | .wh _ _ _ _ => true | _ => false)) := by
  cases x with
  | pl r =>
    have : (MS.pl r).e = r.e := by rw [MS.e]
    rw [this]
    cases r <;> exact ⟨_, _, rfl, rfl, fun _ => rfl, fun _ => rfl⟩
  | le l a b c s m => exact ⟨_, _, by rw [MS.e], rfl, fun _ => rfl, fun _ => rfl⟩
  | if_ l b s m t => exact ⟨_, _, by rw [MS.e], rfl, fun _ => rfl, fun _ => rfl⟩
  | wh l b s m => exact ⟨_, _, by rw [MS.e], rfl, fun _ => rfl, fun _ => rfl⟩
theorem moks_mem : ∀ {l : List MS}, MS.oks l → ∀ x ∈ l, x.ok
  | [], _, x, h => by cases h
  | y :: l, h, x, hx => by
    rw [MS.oks] at h
    rcases List.mem_cons.mp hx with z | z
    · rw [z]; exact h.1
    · exact moks_mem h.2 x z
theorem mhts_le {l : List MS} {n : Nat} (h : MS.hts l ≤ n) : ∀ x ∈ l, x.ht ≤ n := by
  induction l with
  | nil => intro x h; cases h
  | cons y l ih =>
    rw [MS.hts] at h
    intro x hx
    rcases List.mem_cons.mp hx with z | z
    · rw [z]; omega
    · exact ih (by omega) x z
theorem wsum_app (turn : Bool) (a b : List MS) : MS.wsum turn (a ++ b) = MS.wsum turn a + MS.wsum turn b := by
  cases turn with
  | false => exact mns_app a b
  | true =>
    show MS.ts (a ++ b) = MS.ts a + MS.ts b
    induction a with
    | nil => simp [MS.ts]
    | cons x r ih => rw [List.cons_append, MS.ts, MS.ts, ih, Nat.add_assoc]
theorem wsum_one (turn : Bool) (x : MS) : MS.wsum turn [x] = x.w turn := by cases turn <;> simp [MS.wsum, MS.w, MS.ts, MS.ns]
theorem c_put_steps_by {h lv : Nat} (hd : Hd k) (s1 : CalK k lv "put_lend" (spM k (F_put1 k h isLe))) (s2 : CalK k lv "put_if" (spM k (F_put1 k h isIf))) (s3 : CalK k lv "put_while" (spM k (F_put1 k h isWh))) : CalK k (lv + 1) "put_steps" (spM k (F_put_steps k h)) := by
  refine defM (N := ["rows", "marked", "turn", "one"]) (ps := ["rows", "marked", "turn"]) (st := s_put_steps) (hd.def_ 28 24 83 rfl rfl rfl) (fun _ _ _ _ _ _ us hl => match us, hl with | [_, _, _], _ => rfl) (by decide +kernel) (fun u ds R h => ?_) (fun f cdv A outer s H E g u ds R h => ?_)
  · obtain ⟨l, x, turn, rfl, rfl, _⟩ := h; rfl
  · obtain ⟨l, ms, turn, rfl, rfl, ok, hh, hlen, hn, rfl⟩ := h
    refine b_forD (l := MS.es ms) (fun i ds1 => ∃ (new : List Row) (x3 : Option Ent), ds1 = [some (.m false (mL k (l ++ new.map Row.e))), some (.d (.lst (MS.es ms))), some (.d (.bl turn)), x3] ∧ Seg l.length new ∧ new.length = MS.wsum turn (ms.take i)) 3 g (x_name 1 rfl) (.inl rfl)
      ⟨[], none, by rw [List.map_nil, List.append_nil]; rfl, seg_nil _, by rw [List.take_zero]; cases turn <;> rfl⟩ ?_ ?_
    · rintro i d ds1 hd1 ⟨new, x3, rfl, sn, hnew⟩
      rw [mes_map, List.getElem?_map] at hd1
      cases hx : ms[i]? with
      | none => rw [hx] at hd1; cases hd1
      | some x =>
        rw [hx] at hd1
        cases hd1
        have hm := List.mem_of_getElem? hx
        have okx := moks_mem ok x hm
        have hhx := mhts_le hh x hm
        have e1 : ms.take (i + 1) = ms.take i ++ [x] := by rw [List.take_succ, hx]; rfl
        have e2 : MS.wsum turn (ms.take (i + 1)) = MS.wsum turn (ms.take i) + x.w turn := by rw [e1, wsum_app, wsum_one]
        have e3 : MS.wsum turn ms = MS.wsum turn (ms.take (i + 1)) + MS.wsum turn (ms.drop (i + 1)) := by rw [← wsum_app, List.take_append_drop]
        have hl1 : (l ++ new.map Row.e).length = l.length + new.length := by rw [List.length_append, List.length_map]
        have hw : (l ++ new.map Row.e).length + x.w turn ≤ 5000 := by rw [hl1]; omega
        have fin : ∀ {u' : Mut} {d : Dt}, PutR k (l ++ new.map Row.e) (x.w turn) d u' → ∃ (new' : List Row) (x3 : Option Ent), [some (.m false u'), some (.d (.lst (MS.es ms))), some (.d (.bl turn)), some (.d x.e)] = [some (.m false (mL k (l ++ new'.map Row.e))), some (.d (.lst (MS.es ms))), some (.d (.bl turn)), x3] ∧ Seg l.length new' ∧ new'.length = MS.wsum turn (ms.take (i + 1)) := by
          rintro u' d ⟨_, n2, rfl, s2, hn2⟩
          rw [hl1] at s2
          exact ⟨new ++ n2, _, by rw [List.map_append, ← List.append_assoc], seg_app sn s2, by rw [List.length_append, hn2, e2, hnew]⟩
        obtain ⟨hd0, r0, ex, q1, q2, q3⟩ := mtag x
        have ax : XD (yX (bX k ["rows", "marked", "turn", "one"] "put_steps" s_put_steps f cdv A outer s H E)) k (.Name "one" ⟨214, 11, 214, 14⟩) ([some (.m false (mL k (l ++ new.map Row.e))), some (.d (.lst (MS.es ms))), some (.d (.bl turn)), some (.d x.e)]) (.tup (.str hd0 :: r0)) := XD.is (x_name 3 rfl) ex
        cases x with
        | pl r =>
          refine b_ifF (t_c (q_eq (x_ixT g (XD.is (x_name 3 rfl) ex) x_int (atI_nat (j := 0) rfl)) x_str rfl)) ?_ q1
          refine b_ifF (t_c (q_eq (x_ixT g (XD.is (x_name 3 rfl) ex) x_int (atI_nat (j := 0) rfl)) x_str rfl)) ?_ (q2 okx)
          refine b_ifF (t_c (q_eq (x_ixT g (XD.is (x_name 3 rfl) ex) x_int (atI_nat (j := 0) rfl)) x_str rfl)) ?_ (q3 okx)
          refine b_app 0 rfl g (x_name 3 rfl) ?_ (by omega)
          have er : (MS.pl r).e = r.e := by rw [MS.e]
          rw [MS.ok] at okx
          refine b_nil (b_nil (b_nil (b_nil (fin (d := .non) ⟨rfl, [r], by rw [er]; rfl, seg_one okx.1 okx.2, by cases turn <;> simp [MS.w, MS.t, MS.n]⟩))))
        | le ln a b c body m =>
          refine b_ifT (t_c (q_eq (x_ixT g (XD.is (x_name 3 rfl) ex) x_int (atI_nat (j := 0) rfl)) x_str rfl)) ?_ q1
          refine b_exprX (xx_callM 0 rfl g s1 (Nat.le_refl _) (xa_cons (x_name 3 rfl) (xa_cons (x_name 2 rfl) xa_nil)) ⟨_, _, turn, rfl, rfl, trivial, okx, hhx, hw, rfl⟩) ?_
          rintro d ds2 ⟨u', hR, rfl⟩
          exact b_nil (b_nil (fin hR))
        | if_ ln b s0 m t =>
          refine b_ifF (t_c (q_eq (x_ixT g (XD.is (x_name 3 rfl) ex) x_int (atI_nat (j := 0) rfl)) x_str rfl)) ?_ q1
          refine b_ifT (t_c (q_eq (x_ixT g (XD.is (x_name 3 rfl) ex) x_int (atI_nat (j := 0) rfl)) x_str rfl)) ?_ (q2 okx)
          refine b_exprX (xx_callM 0 rfl g s2 (Nat.le_refl _) (xa_cons (x_name 3 rfl) (xa_cons (x_name 2 rfl) xa_nil)) ⟨_, _, turn, rfl, rfl, trivial, okx, hhx, hw, rfl⟩) ?_
          rintro d ds2 ⟨u', hR, rfl⟩
          exact b_nil (b_nil (b_nil (fin hR)))
        | wh ln b s0 m =>
          refine b_ifF (t_c (q_eq (x_ixT g (XD.is (x_name 3 rfl) ex) x_int (atI_nat (j := 0) rfl)) x_str rfl)) ?_ q1
          refine b_ifF (t_c (q_eq (x_ixT g (XD.is (x_name 3 rfl) ex) x_int (atI_nat (j := 0) rfl)) x_str rfl)) ?_ (q2 okx)
          refine b_ifT (t_c (q_eq (x_ixT g (XD.is (x_name 3 rfl) ex) x_int (atI_nat (j := 0) rfl)) x_str rfl)) ?_ (q3 okx)
          refine b_exprX (xx_callM 0 rfl g s3 (Nat.le_refl _) (xa_cons (x_name 3 rfl) (xa_cons (x_name 2 rfl) xa_nil)) ⟨_, _, turn, rfl, rfl, trivial, okx, hhx, hw, rfl⟩) ?_
          rintro d ds2 ⟨u', hR, rfl⟩
          exact b_nil (b_nil (b_nil (b_nil (fin hR))))
    · rintro ds1 ⟨new, x3, rfl, sn, hnew⟩
      rw [mes_map, List.length_map, List.take_length] at hnew
      exact b_nil ⟨_, rfl, rfl, new, rfl, sn, hnew⟩
theorem c_put_steps (hd : Hd k) : ∀ h : Nat, CalK k (2 * h + 2) "put_steps" (spM k (F_put_steps k h))
  | 0 => c_put_steps_by (lv := 1) hd (c_put_lend_by (lv := 0) hd fun h' e => by cases e) (c_put_if_by (lv := 0) hd fun h' e => by cases e) (c_put_while_by (lv := 0) hd fun h' e => by cases e)
  | h + 1 => c_put_steps_by (lv := 2 * h + 3) hd (c_put_lend_by (lv := 2 * h + 2) hd fun h' e => by cases e; exact c_put_steps hd h) (c_put_if_by (lv := 2 * h + 2) hd fun h' e => by cases e; exact c_put_steps hd h) (c_put_while_by (lv := 2 * h + 2) hd fun h' e => by cases e; exact c_put_steps hd h)
end
end Uw
end
section
set_option Elab.async false
set_option linter.all false
set_option maxRecDepth 100000
set_option maxHeartbeats 4000000
namespace Uw
open PySem PySem.Spec PyProof.Rows L2 Evl
/-! a marker is made -/
def mM0 (k : Kw) : Mut where
  at_ v H0 H fp := ∃ p dx, v = .ref p ∧ fp = [p] ∧ H p = some (.ins (mC k) dx [])
  keep := by
    rintro v H0 H H0' H' fp ⟨p, dx, rfl, rfl, h⟩ e kp
    exact ⟨p, dx, rfl, rfl, by rw [kp p List.mem_cons_self]; exact h⟩
def mMp (k : Kw) (ns : List PySem.Str) (fr : List (PySem.Str × V)) : Mut where
  at_ v H0 H fp := ∃ p dx d, v = .ref p ∧ fp = [p, d] ∧ p ≠ d ∧ H p = some (.ins (mC k) dx (("slots", .ref d) :: fr)) ∧ H d = some (.dK (slv 0 ns))
  keep := by
    rintro v H0 H H0' H' fp ⟨p, dx, d, rfl, rfl, h1, h2, h3⟩ e kp
    exact ⟨p, dx, d, rfl, rfl, h1, by rw [kp p List.mem_cons_self]; exact h2, by rw [kp d (List.mem_cons_of_mem _ List.mem_cons_self)]; exact h3⟩
section
variable {X : Cx} {k : Kw} {lv : Nat} {ds : EV} {e : Expr} {pos : Pos} {rest : List Stmt} {N : EV → Prop} {R : Ent → EV → Prop}
theorem Env.getMp {M : List Addr × V} {G0 G H0 H : Hp} {σ : L2.St} (E : Env k M G0 G σ H0 H ds) {n : Nat} {own : Bool} {ns : List PySem.Str} {fr : List (PySem.Str × V)} (h : ds[n]? = some (some (.m own (mMp k ns fr)))) :
    ∃ p dx d, σ[n]? = some (some (.ref p)) ∧ p ≠ d ∧ H p = some (.ins (mC k) dx (("slots", .ref d) :: fr)) ∧ H d = some (.dK (slv 0 ns)) := by
  obtain ⟨F, f, _⟩ := E.ent
  obtain ⟨v, h1, ⟨p, dx, d, rfl, _, h2, h3, h4⟩, _⟩ := f n _ h
  exact ⟨p, dx, d, h1, h2, h3, h4⟩
/-- self.slots = {} -/
theorem b_ini1 (g : Good (yX X) k lv) (hd : Hd k) (n : Nat) {x : PySem.Str} {p p2 p3 : Pos} {own : Bool} (hx : ds[n]? = some (some (.m own (mM0 k)))) (m : XB X k rest (ds.set n (some (.m own (mMp k [] [])))) N R)
    (hN : X.N[n]? = some x := by rfl) (hv : Vis X.env.scope x := by first | exact .inl rfl | exact .inr (.inl rfl) | exact .inr (.inr rfl)) (h1 : (x == ("__debug__" : PySem.Str)) = false := by decide) (h2 : (x == ("__classdict__" : PySem.Str)) = false := by decide)
    (hsw : swapsWith (.Dict [] [] p3) (some (.Attribute (.Name x p) "slots" p2)) pos.line X.env = pure false := by rfl) : XB X k (.Assign [.Attribute (.Name x p) "slots" p2] (.Dict [] [] p3) pos :: rest) ds N R := by
  refine b_st (t := sFld k.K (tVar n) tDNewK "slots") (by have z := ps_fld (X := X) (f := "slots") (tE_slot (p := p) hN hv h1 h2) (pe_dnewK (pos := p3)) hsw; rw [show X.K = k.K from g.eK ()] at z; exact z) fun M G0 G σ H0 H D E nx r => ?_
  obtain ⟨F, f1, f2, f3⟩ := E.ent
  obtain ⟨v, s1, ⟨p0, dx, rfl, _, s2⟩, _⟩ := f1 n _ hx
  intro d hdn
  have hpd : p0 ≠ d := ne_of_none s2 hdn
  refine ⟨_, s1, p0, _, dx, [], rfl, by rw [upd_ne hpd]; exact s2, hd.cls, hd.nSlots, by decide, ?_⟩
  refine nx σ H0 _ _ m (E.mut hx s1 fun fp ⟨p', dx', e1, e2, e3⟩ hf => ?_) (Ex.refl _)
  cases e1
  subst e2
  rw [s2] at e3
  cases e3
  refine ⟨[p0, d], fun b hb => ?_, fun b hb => ?_, fun b hb hb2 => ?_, fun b hb => ?_, p0, dx, d, rfl, rfl, hpd, upd_same, by rw [upd_ne (fun z => hpd z.symm), upd_same]; rfl⟩
  · simp only [List.mem_cons, List.not_mem_nil, or_false] at hb
    rcases hb with rfl | rfl
    · exact .inl List.mem_cons_self
    · exact .inr hdn
  · simp only [List.mem_cons, List.not_mem_nil, or_false] at hb
    rcases hb with rfl | rfl
    · rw [upd_same]; exact fun z => nomatch z
    · rw [upd_ne (fun z => hpd z.symm), upd_same]; exact fun z => nomatch z
  · rw [upd_ne (fun z => hb (by rw [z]; exact List.mem_cons_self)), upd_ne (fun z => hb2 (by rw [z]; exact hdn))]
  · rw [List.mem_singleton.mp hb, upd_same]; exact fun z => nomatch z
/-- self.slots[name] = len(self.slots) -/
theorem b_ini2 (g : Good (yX X) k lv) (hd : Hd k) (n : Nat) {x s : PySem.Str} {p p1 p2 p3 p4 p5 p6 : Pos} {own : Bool} {ns : List PySem.Str} (hx : ds[n]? = some (some (.m own (mMp k ns [])))) (he : XD (yX X) k e ds (.str s)) (hs : s ∉ ns) (hz : ns.length < 1000) (m : XB X k rest (ds.set n (some (.m own (mMp k (ns ++ [s]) [])))) N R)
    (hN : X.N[n]? = some x := by rfl) (hv : Vis X.env.scope x := by first | exact .inl rfl | exact .inr (.inl rfl) | exact .inr (.inr rfl)) (h1 : (x == ("__debug__" : PySem.Str)) = false := by decide) (h2 : (x == ("__classdict__" : PySem.Str)) = false := by decide) (hg : Gl X "len" := by rfl)
    (ha : attributeBase (.Name x p) "slots" X.env (eval (.Name x p) X.env) = eval (.Name x p) X.env := by rfl) (ha2 : attributeBase (.Name x p1) "slots" X.env (eval (.Name x p1) X.env) = eval (.Name x p1) X.env := by rfl)
    (hst : starEach [.Attribute (.Name x p1) "slots" p2] X.env = (false, eval (.Attribute (.Name x p1) "slots" p2) X.env) :: starEach [] X.env := by rfl) (hpl : ((backTo p4 (starEach [] X.env)).any fun x => x.1) = false := by rfl)
    (hsw : swapsWith (.Call (.Name "len" p3) [.Attribute (.Name x p1) "slots" p2] [] p4) (some (.Subscript (.Attribute (.Name x p) "slots" p5) e p6)) pos.line X.env = pure false := by rfl) :
    XB X k (.Assign [.Subscript (.Attribute (.Name x p) "slots" p5) e p6] (.Call (.Name "len" p3) [.Attribute (.Name x p1) "slots" p2] [] p4) pos :: rest) ds N R := by
  obtain ⟨te, pe, ee⟩ := he
  have f1 : PE X (.Attribute (.Name x p) "slots" p5) (tFld k.K (tVar n) "slots") := by have z := pe_fld (X := X) (f := "slots") (pos := p5) (tE_slot (p := p) hN hv h1 h2) ha; rw [show X.K = k.K from g.eK ()] at z; exact z
  have f2 : PE X (.Attribute (.Name x p1) "slots" p2) (tFld k.K (tVar n) "slots") := by have z := pe_fld (X := X) (f := "slots") (pos := p2) (tE_slot (p := p1) hN hv h1 h2) ha2; rw [show X.K = k.K from g.eK ()] at z; exact z
  refine b_st (ps_dput (by have z : X.A.units + 64 < cLine := hc64 g (); omega) f1 (pe ()) (pe_callB call_lenD hg (by rw [show X.mg = k.mg from g.em ()]; exact hd.len) PySem.boot_len (pa_cons f2 pa_nil hst) (by decide) (by decide) hst hpl) hsw) fun M G0 G σ H0 H D E nx r => ?_
  obtain ⟨p0, dx, d, s1, s2, s3, s4⟩ := E.getMp hx
  have lk : (([(("slots" : PySem.Str), V.ref d)]).lookup ("slots" : PySem.Str)) = some (V.ref d) := rfl
  refine ⟨_, s1, p0, _, dx, _, _, rfl, s3, hd.cls, hd.nSlots, lk, d, _, rfl, s4, _, s1, p0, _, dx, _, _, rfl, s3, hd.cls, hd.nSlots, lk, ee M G0 G σ H0 H E _ fun y H1 H1' E1 w1 r1 => ?_⟩
  cases r1
  have s5 : H1' d = some (.dK (slv 0 ns)) := w1.kp _ _ (by simp) s4
  have s6 : H1' p0 = some (.ins (mC k) dx [("slots", .ref d)]) := w1.kp _ _ (by simp) s3
  refine ⟨d, _, rfl, DPut.k (k := Sum.inr s) s5 (sz_lt (by rw [slv_len]; omega)), ?_⟩
  have ep := slv_put (i := 0) hs
  rw [Nat.zero_add] at ep
  rw [slv_len, ep]
  refine nx σ H1 _ _ m (E1.mut hx s1 fun fp ⟨p', dx', d', e1, e2, e3, e4, e5⟩ hf => ?_) w1.fz
  cases e1
  subst e2
  rw [s6] at e4
  cases e4
  refine ⟨[p0, d], fun b hb => .inl hb, fun b hb => ?_, fun b hb _ => ?_, fun b hb => ?_, p0, dx, d, rfl, rfl, e3, by rw [upd_ne e3]; exact s6, upd_same⟩
  · by_cases z : b = d
    · rw [z, upd_same]; exact fun z => nomatch z
    · rw [upd_ne z]; exact (hf b hb).2
  · exact upd_ne fun z => hb (by rw [z]; exact List.mem_cons_of_mem _ List.mem_cons_self)
  · by_cases z : b = d
    · rw [z, upd_same]; exact fun z => nomatch z
    · rw [upd_ne z]; exact (hf b hb).2
/-- self.f = e, f new -/
theorem b_ini3 (g : Good (yX X) k lv) (hd : Hd k) (n : Nat) {x f : PySem.Str} {p p2 : Pos} {own : Bool} {ns : List PySem.Str} {fr : List (PySem.Str × V)} {i : Int} (hx : ds[n]? = some (some (.m own (mMp k ns fr)))) (he : XD (yX X) k e ds (.int i)) (hna : NoAttr k.K (mC k) f) (hfr : ∀ w : V, putF f (V.int i) ((("slots" : PySem.Str), w) :: fr) = (("slots" : PySem.Str), w) :: (fr ++ [(f, V.int i)])) (hz : fr.length < 100) (m : XB X k rest (ds.set n (some (.m own (mMp k ns (fr ++ [(f, .int i)]))))) N R)
    (hN : X.N[n]? = some x := by rfl) (hv : Vis X.env.scope x := by first | exact .inl rfl | exact .inr (.inl rfl) | exact .inr (.inr rfl)) (h1 : (x == ("__debug__" : PySem.Str)) = false := by decide) (h2 : (x == ("__classdict__" : PySem.Str)) = false := by decide)
    (hsw : swapsWith e (some (.Attribute (.Name x p) f p2)) pos.line X.env = pure false := by rfl) : XB X k (.Assign [.Attribute (.Name x p) f p2] e pos :: rest) ds N R := by
  obtain ⟨te, pe, ee⟩ := he
  refine b_st (t := sFld k.K (tVar n) te f) (by have z := ps_fld (X := X) (f := f) (tE_slot (p := p) hN hv h1 h2) (pe ()) hsw; rw [show X.K = k.K from g.eK ()] at z; exact z) fun M G0 G σ H0 H D E nx r => ?_
  refine ee M G0 G σ H0 H E _ fun y H1 H1' E1 w1 r1 => ?_
  cases r1
  obtain ⟨p0, dx, d, s1, s2, s3, s4⟩ := E1.getMp hx
  refine ⟨_, s1, p0, _, dx, _, rfl, s3, hd.cls, hna, by rw [List.length_cons]; omega, ?_⟩
  rw [hfr]
  refine nx σ H1 _ _ m (E1.mut hx s1 fun fp ⟨p', dx', d', e1, e2, e3, e4, e5⟩ hf => ?_) w1.fz
  cases e1
  subst e2
  rw [s3] at e4
  cases e4
  refine ⟨[p0, d], fun b hb => .inl hb, fun b hb => ?_, fun b hb _ => ?_, fun b hb => ?_, p0, dx, d, rfl, rfl, e3, upd_same, by rw [upd_ne (fun z => e3 z.symm)]; exact e5⟩
  · by_cases z : b = p0
    · rw [z, upd_same]; exact fun z => nomatch z
    · rw [upd_ne z]; exact (hf b hb).2
  · exact upd_ne fun z => hb (by rw [z]; exact List.mem_cons_self)
  · by_cases z : b = p0
    · rw [z, upd_same]; exact fun z => nomatch z
    · rw [upd_ne z]; exact (hf b hb).2
/-- what a slot holds, said in other words -/
theorem Env.say {M : List Addr × V} {G0 G H0 H : Hp} {σ : L2.St} (E : Env k M G0 G σ H0 H ds) {n : Nat} {own : Bool} {u u' : Mut} (hx : ds[n]? = some (some (.m own u))) (h : ∀ v H0 H fp, u.at_ v H0 H fp → u'.at_ v H0 H fp) : Env k M G0 G σ H0 H (ds.set n (some (.m own u'))) := by
  obtain ⟨F, f1, f2, f3⟩ := E.ent
  refine ⟨E.wld, by rw [List.length_set, E.len], pin_set0 E.pin (fun u0 z => by cases z; exact ⟨_, hx⟩), F, fun j e he => ?_, f2, f3⟩
  by_cases q : n = j
  · subst q
    rw [List.getElem?_set] at he
    split at he
    · split at he
      · cases he
        obtain ⟨v, g1, g2, g3⟩ := f1 n _ hx
        exact ⟨v, g1, h _ _ _ _ g2, g3⟩
      · cases he
    · exact absurd rfl ‹_›
  · rw [List.getElem?_set_ne q] at he
    exact f1 j e he
theorem b_say (n : Nat) {sts : List Stmt} {own : Bool} {u u' : Mut} (hx : ds[n]? = some (some (.m own u))) (h : ∀ v H0 H fp, u.at_ v H0 H fp → u'.at_ v H0 H fp) (m : XB X k sts (ds.set n (some (.m own u'))) N R) : XB X k sts ds N R := fun M G0 G σ H0 H D E nx r =>
  m M G0 G σ H0 H D (E.say hx h) nx r
theorem mMp_mk {ns : List PySem.Str} {n : Nat} {v : V} {H0 H : Hp} {fp : List Addr} (h : (mMp k ns [("line", .int 0), ("lent", .int (n : Int))]).at_ v H0 H fp) : (mMk k ns 0 n).at_ v H0 H fp := by
  obtain ⟨p, dx, d, rfl, rfl, h1, h2, h3⟩ := h
  exact ⟨p, dx, d, _, rfl, rfl, h1, h2, ⟨rfl, rfl, rfl, by show 3 < 10; decide, fun m hm => by rcases hm with rfl | rfl | rfl <;> rfl⟩, h3⟩
def F_init (k : Kw) : FM := fun u ds R => ∃ ns : List PySem.Str, u = mM0 k ∧ ds = [.lst (ns.map .str)] ∧ ns.Nodup ∧ ns.length ≤ 10 ∧ R = fun d u' => d = .non ∧ u' = mMk k ns 0 ns.length
abbrev MakK (k : Kw) (lv : Nat) (F : FM) : Prop := C8.Mak k.P k.w k.K k.mg k.base lv "Marker" (mC k) (spM k F) []
theorem c_init (hd : Hd k) : MakK k 1 (F_init k) := by
  obtain ⟨fd, FF, e⟩ := hd.fun_ (p := ("Marker", some "__init__")) (x := "__init__") (q := "Marker.__init__") (st := s_Marker_init) 21 rfl
  have S : C8.scC ["self", "names", "name"] ["self", "names"] (C8.fnScope s_Marker_init) = true := by decide +kernel
  refine C8.mak0 (N := ["self", "names", "name"]) (ps := ["self", "names"]) (He.mkr_ok (hd.says.fact 107 rfl)) (hd.glo 46 rfl) FF (FF.binds e (fun _ _ _ _ _ _ us hl => match us, hl with | [_, _], _ => rfl)) .nil (C8.fnScope_by S) (fun vs H Q E h => ?_) fun cdv A outer s H vs Q E hr h => ⟨_, ps_tB, ?_⟩
  · obtain ⟨G0, v, vs', fp, u, ds, R, rfl, h1, h2, h3, h4, ⟨ns, rfl, rfl, _⟩, h6⟩ := h
    rw [List.length_cons, h2.length]; rfl
  · obtain ⟨G0, v, vs', fp, u, ds, R, rfl, h1, h2, h3, h4, ⟨ns, rfl, rfl, hnd, hlen, rfl⟩, h6⟩ := h
    have g := bX_good (k := k) (s := s) (H := H) (E := E) (outer := outer) (cdv := cdv) S hr
    have body : XB (bX k ["self", "names", "name"] "Marker.__init__" s_Marker_init (He.ma k.K (He.ga k.K "Marker") "__init__") cdv A outer s H E) k (C8.fnBody s_Marker_init) [some (.m false (mM0 k)), some (.d (.lst (ns.map .str))), none] (fun ds' => ds'[0]? = some (some (.m false (mMk k ns 0 ns.length)))) (fun _ _ => False) := by
      refine b_ini1 g hd 0 rfl ?_
      refine b_forD (l := ns.map .str) (fun i ds1 => ∃ x2, ds1 = [some (.m false (mMp k (ns.take i) [])), some (.d (.lst (ns.map .str))), x2]) 2 g (x_name 1 rfl) (.inl rfl) ⟨none, by rw [List.take_zero]; rfl⟩ ?_ ?_
      · rintro i d ds1 hd1 ⟨x2, rfl⟩
        rw [List.getElem?_map] at hd1
        cases hx : ns[i]? with
        | none => rw [hx] at hd1; cases hd1
        | some y =>
          rw [hx] at hd1
          cases hd1
          have hy : y ∉ ns.take i := fun z => by
            obtain ⟨j, hj⟩ := List.mem_iff_getElem?.mp z
            rw [List.getElem?_take] at hj
            split at hj
            · rename_i hji
              have h1 := (List.getElem?_eq_some_iff.mp hj).1
              have h2 := (List.getElem?_inj h1 hnd).mp (hj.trans hx.symm)
              omega
            · cases hj
          have e1 : ns.take (i + 1) = ns.take i ++ [y] := by rw [List.take_succ, hx]; rfl
          refine b_ini2 g hd 0 rfl (x_name 2 rfl) hy (by rw [List.length_take]; omega) ?_
          exact b_nil ⟨some (.d (.str y)), by rw [e1]; rfl⟩
      · rintro ds1 ⟨x2, rfl⟩
        rw [List.length_map, List.take_length]
        refine b_ini3 g hd 0 rfl x_int hd.nLine (fun w => rfl) (by decide) ?_
        refine b_ini3 g hd 0 rfl (x_len (l := ns.map .str) g hd.len (x_name 1 rfl) rfl) hd.nLent (fun w => rfl) (by decide) ?_
        refine b_say (u' := mMk k ns 0 ns.length) 0 rfl (fun v H0 H fp h => mMp_mk (n := ns.length) (by rw [List.length_map] at h; exact h)) ?_
        exact b_nil rfl
    refine body (fp, v) G0 H _ G0 H _ (start_envM h1 h2 h3 h4) (fun σ' H0' H' ds' n E' _ => ?_) (fun v σ' H0' H' d ds' fp2 rr E' r hf => rr.elim)
    obtain ⟨fp', b1, b2⟩ := E'.back n
    exact h6 .non _ ⟨rfl, rfl⟩ .non H0' H' fp' E'.wld .non b1 b2
/-- x = Marker(e) -/
theorem b_make (g : Good (yX X) k lv) (n : Nat) {x : PySem.Str} {p p2 p3 : Pos} {j : Nat} {P : List PySem.Str → Prop} (c : MakK k j (F_init k)) (hj : j + 1 ≤ lv) (h : XX (yX X) k e ds (fun d ds' => (∃ ns, d = .lst (ns.map .str) ∧ P ns) ∧ ds' = ds)) (hP : ∀ ns, P ns → ns.Nodup ∧ ns.length ≤ 10) (m : ∀ ns, P ns → XB X k rest (ds.set n (some (.m true (mMk k ns 0 ns.length)))) N R)
    (hd : X.N.Nodup := by exact Good.nd (Y := yX _) (by assumption) ()) (hN : X.N[n]? = some x := by rfl) (hl : Loc X.env.scope x := by first | exact .inl rfl | exact .inr rfl) (hg : Gl X "Marker" := by rfl)
    (he : starEach [e] X.env = (false, eval e X.env) :: starEach [] X.env := by rfl) (hpl : (backTo p3 (starEach [] X.env)).any (fun x => x.1) = false := by rfl)
    (hs : swapsWith (.Call (.Name "Marker" p2) [e] [] p3) (some (.Name x p)) pos.line X.env = pure false := by rfl) (hf : X.fn x = true ∨ X.env.scope.names.lookup x = some .local := by first | exact .inr rfl | exact .inl rfl) : XB X k (.Assign [.Name x p] (.Call (.Name "Marker" p2) [e] [] p3) pos :: rest) ds N R := by
  have c' : C8.Mak X.prog X.w X.K X.mg X.base j "Marker" (mC k) (spM k (F_init k)) [] := by rw [show X.prog = k.P from g.eP (), show X.w = k.w from g.ew (), show X.K = k.K from g.eK (), show X.mg = k.mg from g.em (), show X.base = k.base from g.eb ()]; exact c
  refine b_st (ps_set hd hN hl (C8.pe_mk c' (g.hr ()) hj hg (pa_cons (pe_tE (Y := yX X) ()) pa_nil he) (by decide) he hpl) hs hf) fun M G0 G σ H0 H D E nx r => ?_
  refine h M G0 G σ H0 H E _ fun v A A' d ds1 ⟨⟨ns, q1, q2⟩, q3⟩ E1 e1 r1 => ?_
  subst q1 q3
  intro y dx hy hdx hne
  obtain ⟨n1, n2⟩ := hP ns q2
  have hy0 : A y = none := fresh_back E1.wld.in_ hy
  let G' : Hp := upd (upd A' dx (.own y)) y (.ins (mC k) dx [])
  have gi : Ex A G' := fun b o eb => by
    have hb := E1.wld.in_ b o eb
    show upd (upd A' dx (.own y)) y _ b = _
    rw [upd_ne (ne_of_none hb hy), upd_ne (ne_of_none hb hdx)]
    exact hb
  have gA : ∀ b o, A' b = some o → G' b = some o := fun b o hb => by
    show upd (upd A' dx (.own y)) y _ b = _
    rw [upd_ne (ne_of_none hb hy), upd_ne (ne_of_none hb hdx)]
    exact hb
  refine ⟨A, .ref y, [v], [y], mM0 k, [.lst (ns.map .str)], _, rfl, gi, .cons r1 .nil, ⟨y, dx, rfl, rfl, upd_same⟩, fun b hb => ?_, ⟨ns, rfl, rfl, n1, n2, rfl⟩, ?_⟩
  · rw [List.mem_singleton.mp hb]; exact ⟨hy0, by rw [upd_same]; exact fun z => nomatch z⟩
  · rintro d u' ⟨rfl, rfl⟩ rv H2 H2' fp' w rr hu hf
    refine ⟨by cases rr; rfl, ?_⟩
    have hu' := hu
    obtain ⟨p', dx', d', fs, e2, e3, _⟩ := hu'
    cases e2
    have fr : ∀ b, b ∈ fp' → A' b = none := fun b hb => by
      rcases (hf b hb).2.1 with z | z
      · rw [List.mem_singleton.mp z]; exact hy
      · cases q : A' b with
        | none => rfl
        | some o => exact absurd (z.symm.trans (gA b o q) : (none : Option HO) = some o) (fun e => nomatch e)
    have w3 : Wld [] A A' H2 (fun b => if b ∈ fp' then none else H2' b) := ⟨w.fz, fun b u eb => by
        show (if b ∈ fp' then none else H2' b) = some u
        rw [if_neg (fun z => by rw [(hf b z).1] at eb; cases eb)]; exact w.in_ b u eb, fun b u _ eb => by
        show (if b ∈ fp' then none else H2' b) = some u
        rw [if_neg (fun z => by rw [fr b z] at eb; cases eb)]
        exact w.kp b u (fun z => by rw [List.mem_singleton.mp z, hy] at eb; cases eb) (gA b u eb), fun b eb => by
        rcases w.nw b eb with z | z
        · exact .inl z
        · refine .inr ?_
          cases q : A' b with
          | none => rfl
          | some o => exact absurd (z.symm.trans (gA b o q) : (none : Option HO) = some o) (fun e => nomatch e), fun b eb => by
        show (if b ∈ fp' then none else H2' b) ≠ none
        rw [if_neg (fun z => eb (fr b z))]
        refine w.tr b ?_
        cases q : A' b with
        | none => exact absurd q eb
        | some o => exact fun z => absurd (z.symm.trans (gA b o q) : (none : Option HO) = some o) (fun e => nomatch e)⟩
    refine nx _ H2 _ _ (m ns q2) ((E1.step w3).setM (fp := fp') (fun b hb => ?_) (fun b hb => ?_) hu) (e1.trans w.fz)
    · exact (if_neg hb).symm
    · exact ⟨if_pos hb, (hf b hb).2.2⟩
end
end Uw
end
section
set_option Elab.async false
set_option linter.all false
set_option maxRecDepth 100000
set_option maxHeartbeats 4000000
namespace Uw
open PySem PySem.Spec PyProof.Rows L2 Evl
/-! code of a program -/
/-- what the run needs of a code -/
structure CodeW (code : List Row) : Prop where
  n : ∃ m, code.length = m + 1
  last : ∃ l, code[code.length - 1]? = some (.fin l)
  seg : Seg 0 (code.take (code.length - 1))
theorem oks_names {nm ns : List PySem.Str} : ∀ (n : Nat), (∀ st : Stp, st.ht ≤ n → st.ok nm → (∀ ln ∈ st.lines, ∀ x ∈ ln.nm, x ∈ ns) → st.ok ns) ∧ ∀ l : List Stp, Stp.hts l ≤ n → Stp.oks nm l → (∀ ln ∈ Stp.liness l, ∀ x ∈ ln.nm, x ∈ ns) → Stp.oks ns l := by
  have lst : ∀ n, (∀ st : Stp, st.ht ≤ n → st.ok nm → (∀ ln ∈ st.lines, ∀ x ∈ ln.nm, x ∈ ns) → st.ok ns) → ∀ l : List Stp, Stp.hts l ≤ n → Stp.oks nm l → (∀ ln ∈ Stp.liness l, ∀ x ∈ ln.nm, x ∈ ns) → Stp.oks ns l := by
    intro n hs l
    induction l with
    | nil => intro _ _ _; trivial
    | cons x r ih =>
      intro hh ho hl
      rw [Stp.hts] at hh
      rw [Stp.oks] at ho ⊢
      rw [Stp.liness] at hl
      exact ⟨hs x (by omega) ho.1 fun ln h => hl ln (List.mem_append_left _ h), ih (by omega) ho.2 fun ln h => hl ln (List.mem_append_right _ h)⟩
  have stp : ∀ n, (∀ m, m < n → ∀ st : Stp, st.ht ≤ m → st.ok nm → (∀ ln ∈ st.lines, ∀ x ∈ ln.nm, x ∈ ns) → st.ok ns) → ∀ st : Stp, st.ht ≤ n → st.ok nm → (∀ ln ∈ st.lines, ∀ x ∈ ln.nm, x ∈ ns) → st.ok ns := by
    intro n ih st hh ho hl
    cases st with
    | pl p =>
      rw [Stp.ok] at ho ⊢
      rw [Stp.lines] at hl
      have h1 := hl _ (List.mem_singleton.mpr rfl)
      cases p with
      | opn x => exact h1 x (show x ∈ [x] from List.mem_cons_self)
      | act w x => exact ⟨ho.1, h1 x (show x ∈ [x] from List.mem_cons_self)⟩
      | cpy x y => exact ⟨h1 x (show x ∈ [x, y] from List.mem_cons_self), h1 y (show y ∈ [x, y] from List.mem_cons_of_mem _ List.mem_cons_self)⟩
      | drp x => exact h1 x (show x ∈ [x] from List.mem_cons_self)
      | tie x y => exact ⟨h1 x (show x ∈ [x, y] from List.mem_cons_self), h1 y (show y ∈ [x, y] from List.mem_cons_of_mem _ List.mem_cons_self)⟩
    | le x y s =>
      rw [Stp.ok] at ho ⊢
      rw [Stp.ht] at hh
      rw [Stp.lines] at hl
      have h1 := hl _ List.mem_cons_self
      exact ⟨h1 x (show x ∈ [x, y] from List.mem_cons_self), h1 y (show y ∈ [x, y] from List.mem_cons_of_mem _ List.mem_cons_self), lst (n - 1) (ih (n - 1) (by omega)) s (by omega) ho.2.2 fun ln h => hl ln (List.mem_cons_of_mem _ (List.mem_append_left _ h))⟩
    | if_ b s t =>
      rw [Stp.ok] at ho ⊢
      rw [Stp.ht] at hh
      rw [Stp.lines] at hl
      exact ⟨ho.1, lst (n - 1) (ih (n - 1) (by omega)) s (by omega) ho.2.1 fun ln h => hl ln (List.mem_cons_of_mem _ (List.mem_append_left _ h)),
        lst (n - 1) (ih (n - 1) (by omega)) t (by omega) ho.2.2 fun ln h => hl ln (List.mem_cons_of_mem _ (List.mem_append_right _ (List.mem_cons_of_mem _ (List.mem_append_left _ h))))⟩
    | wh b s =>
      rw [Stp.ok] at ho ⊢
      rw [Stp.ht] at hh
      rw [Stp.lines] at hl
      exact ⟨ho.1, lst (n - 1) (ih (n - 1) (by omega)) s (by omega) ho.2 fun ln h => hl ln (List.mem_cons_of_mem _ (List.mem_append_left _ h))⟩
  have all : ∀ n, ∀ st : Stp, st.ht ≤ n → st.ok nm → (∀ ln ∈ st.lines, ∀ x ∈ ln.nm, x ∈ ns) → st.ok ns := fun n => Nat.strongRecOn n fun n ih => stp n ih
  exact fun n => ⟨all n, lst n (all n)⟩
theorem lines_le : ∀ (n : Nat), (∀ st : Stp, st.ht ≤ n → st.lines.length ≤ 2 * st.n) ∧ ∀ l : List Stp, Stp.hts l ≤ n → (Stp.liness l).length ≤ 2 * Stp.ns l := by
  have lst : ∀ n, (∀ st : Stp, st.ht ≤ n → st.lines.length ≤ 2 * st.n) → ∀ l : List Stp, Stp.hts l ≤ n → (Stp.liness l).length ≤ 2 * Stp.ns l := by
    intro n hs l
    induction l with
    | nil => intro _; rw [Stp.liness]; exact Nat.zero_le _
    | cons x r ih =>
      intro hh
      rw [Stp.hts] at hh
      rw [Stp.liness, Stp.ns, List.length_append]
      have h1 := hs x (by omega)
      have h2 := ih (by omega)
      omega
  have stp : ∀ n, (∀ m, m < n → ∀ st : Stp, st.ht ≤ m → st.lines.length ≤ 2 * st.n) → ∀ st : Stp, st.ht ≤ n → st.lines.length ≤ 2 * st.n := by
    intro n ih st hh
    cases st with
    | pl p => rw [Stp.lines, Stp.n]; simp
    | le x y s =>
      rw [Stp.ht] at hh
      have h1 := lst (n - 1) (ih (n - 1) (by omega)) s (by omega)
      rw [Stp.lines, Stp.n]
      simp only [List.length_cons, List.length_append, List.length_nil]
      omega
    | if_ b s t =>
      rw [Stp.ht] at hh
      have h1 := lst (n - 1) (ih (n - 1) (by omega)) s (by omega)
      have h2 := lst (n - 1) (ih (n - 1) (by omega)) t (by omega)
      rw [Stp.lines, Stp.n]
      simp only [List.length_cons, List.length_append, List.length_nil]
      omega
    | wh b s =>
      rw [Stp.ht] at hh
      have h1 := lst (n - 1) (ih (n - 1) (by omega)) s (by omega)
      rw [Stp.lines, Stp.n]
      simp only [List.length_cons, List.length_append, List.length_nil]
      omega
  have all : ∀ n, ∀ st : Stp, st.ht ≤ n → st.lines.length ≤ 2 * st.n := fun n => Nat.strongRecOn n fun n ih => stp n ih
  exact fun n => ⟨all n, lst n (all n)⟩
section
variable {X : Cx} {k : Kw} {lv : Nat} {ds : EV} {pos : Pos}
/-- f(x, ..), the other arguments changing something themselves -/
theorem xx_callE (n : Nat) {f x : PySem.Str} {es : List Expr} {p p2 : Pos} {own : Bool} {u u0 : Mut} {F : Mut → List Dt → (Dt → Mut → Prop) → Prop} {Rr : List Dt → Dt → Mut → Prop} {Po : List Dt → EV → Prop} {j : Nat} (hx : ds[n]? = some (some (.m own u0))) (g : Good (yX X) k lv) (c : CalK k j f (spM k F)) (hj : j ≤ lv) (ha : XXA (yX X) k es ds Po)
    (hF : ∀ l ds1, Po l ds1 → ds1[n]? = some (some (.m own u)) ∧ ∃ R, F u l R ∧ ∀ d u', R d u' → Rr l d u') (hN : X.N[n]? = some x := by rfl) (hv : Vis X.env.scope x := by first | exact .inl rfl | exact .inr (.inl rfl) | exact .inr (.inr rfl)) (h1 : (x == ("__debug__" : PySem.Str)) = false := by decide) (h2 : (x == ("__classdict__" : PySem.Str)) = false := by decide)
    (hg : Gl X f := by rfl) (hdb : (f == ("__debug__" : PySem.Str)) = false := by decide) (he : starEach (.Name x p2 :: es) X.env = (false, eval (.Name x p2) X.env) :: starEach es X.env := by rfl) (hpl : (backTo pos (starEach es X.env)).any (fun x => x.1) = false := by rfl) :
    XX (yX X) k (.Call (.Name f p) (.Name x p2 :: es) [] pos) ds (fun d ds' => ∃ l ds1 u', Po l ds1 ∧ Rr l d u' ∧ ds' = ds1.set n (some (.m own u'))) := by
  have c' : C8.Cal X.prog X.w X.K X.mg X.base j f (spM k F) [] := by rw [show X.prog = k.P from g.eP (), show X.w = k.w from g.ew (), show X.K = k.K from g.eK (), show X.mg = k.mg from g.em (), show X.base = k.base from g.eb ()]; exact c
  refine xx_of (te := tCall (spM k F) [] C8.E0 (tCons (tVar n) (tA (yX X) es))) (fun _ => C8.pe_c c' (g.hr ()) hj hg (pa_cons (tE_slot hN hv h1 h2) (pa_tA (Y := yX X) ()) he) hdb he hpl) fun M G0 G σ H0 H E Q q => ?_
  obtain ⟨v0, fp0, g1, g2, g3, g4⟩ := E.call (H0' := H0) (H' := H) hx
  refine ⟨v0, g1, ha M G0 G σ H0 H E _ fun vs H1 H1' l ds1 p1 E1 e1 r1 => ?_⟩
  obtain ⟨k0, R0, kF, kR⟩ := hF l ds1 p1
  obtain ⟨v1, fp1, k1, k2, k3, k4⟩ := E1.call (H0' := H0) (H' := H) k0
  rw [g1] at k1
  cases k1
  exact ⟨H1, v0, vs, fp1, u, l, R0, by rw [List.append_nil], E1.wld.in_, r1, k2, k3, kF, fun d u' hr r H2 H2' fp' w rr hu hf => q r H2 H2' d _ ⟨l, ds1, u', p1, kR d u' hr, rfl⟩ (k4 H2 H2' u' fp' w hu hf) (e1.trans w.fz) rr⟩
end
section
variable {k : Kw}
/-- the programs that are coded -/
structure ProgOk (l : List Stp) (nm : List PySem.Str) : Prop where
  ok : Stp.oks nm l
  wd : ∀ x ∈ nm, Wd x
  ht : Stp.hts l ≤ 2
  nl : Stp.nls l ≤ 1
  n : Stp.ns l ≤ 31
  nm2 : nm.length = 2
def CodR : Dt → Prop := fun d => ∃ code : List Row, d = codeD' code ∧ CodeW code ∧ code.length ≤ 94
where codeD' (code : List Row) : Dt := .lst (code.map Row.e)
def F_coded : List Dt → (Dt → Prop) → Prop := fun ds R => ∃ (l : List Stp) (nm : List PySem.Str) (turn : Bool), ds = [.lst (Stp.es l), .bl turn] ∧ ProgOk l nm ∧ R = CodR
theorem c_coded (hd : Hd k) : CalK k 11 "coded" (spP k F_coded) := by
  refine defP (N := ["program", "turn", "marker", "rows"]) (ps := ["program", "turn"]) (st := s_coded) (hd.def_ 29 25 84 rfl rfl rfl) (fun _ _ _ _ _ _ us hl => match us, hl with | [_, _], _ => rfl) (by decide +kernel) (fun ds R h => ?_) (fun f cdv A outer s H E g ds R h => ?_)
  · obtain ⟨l, nm, turn, rfl, _⟩ := h; rfl
  · obtain ⟨l, nm, turn, rfl, po, rfl⟩ := h
    have hll := (lines_le 2).2 l po.ht
    have hl31 := po.n
    have hht := po.ht
    have hlen : (Stp.liness l).length ≤ 1000 := by omega
    have hlo := (lines_ok po.wd 2).2 l po.ht po.ok
    refine b_make (P := fun ns => ns.Nodup ∧ ∀ x, x ∈ ns ↔ ∃ ln ∈ Stp.liness l, x ∈ ln.nm) g 2 (c_init hd) (by decide) ((xx_call g (c_names_of hd) (by decide) (xa_cons (x_name 0 rfl) xa_nil) ⟨l, nm, rfl, po.ok, po.wd, by omega, hlen, by rw [po.nm2]; decide, rfl⟩).mono fun d ds' ⟨⟨ns, h1, h2, h3⟩, h4⟩ => ⟨⟨ns, h1, h2, h3⟩, h4⟩) (fun ns h => ⟨h.1, ?_⟩) ?_
    · have := sub_lenS h.1 (U := nm) fun x hx => by
        obtain ⟨ln, h1, h2⟩ := (h.2 x).mp hx
        exact (hlo ln h1).2 x h2
      rw [po.nm2] at this
      omega
    · rintro ns ⟨hnd, hns⟩
      have hn2 : ns.length ≤ 2 := by
        have := sub_lenS hnd (U := nm) fun x hx => by
          obtain ⟨ln, h1, h2⟩ := (hns x).mp hx
          exact (hlo ln h1).2 x h2
        rw [po.nm2] at this
        omega
      have okn := (oks_names (nm := nm) (ns := ns) 2).2 l po.ht po.ok fun ln h x hx => (hns x).mpr ⟨ln, h, hx⟩
      have hnl := po.nl
      refine b_new 3 xa_nil ?_
      -- put_steps(rows, marker.marked(program), turn)
      refine b_exprX (xx_callE (own := true) (u := mL k []) 3 rfl g (c_put_steps hd 2) (by decide) (Po := fun la ds1 => ∃ (ms : List MS) (line : Int), la = [.lst (MS.es ms), .bl turn] ∧ ds1 = [some (.d (.lst (Stp.es l))), some (.d (.bl turn)), some (.m true (mMk k ns line (ns.length + Stp.nls l))), some (.m true (mL k []))] ∧ MS.oks ms ∧ MS.ns ms = Stp.ns l ∧ MS.hts ms = Stp.hts l)
        (Rr := fun la d u' => ∃ ms : List MS, la = [.lst (MS.es ms), .bl turn] ∧ PutR k [] (MS.wsum turn ms) d u' ∧ MS.ns ms = Stp.ns l ∧ MS.hts ms = Stp.hts l) (xxa_cons (xx_meth1 2 rfl g (c_marked hd 2) (by decide) (.inr (.inl rfl)) (x_name 0 rfl) ⟨ns, 0, _, l, rfl, rfl, hn2, okn, po.ht, by omega, by omega, rfl⟩) fun d ds1 h => ?_) ?_) ?_
      · obtain ⟨u', ⟨ms, line, rfl, m1, m2, m3, rfl⟩, rfl⟩ := h
        refine xxa_cons (x_name 1 rfl).xx fun d ds2 h => ?_
        obtain ⟨rfl, rfl⟩ := h
        exact fun M G0 G σ H0 H E Q q => xxa_nil M G0 G σ H0 H E Q fun vs H1 H1' l ds' ⟨e1, e2⟩ => q vs H1 H1' l ds' ⟨ms, line, by rw [e1], by rw [e2]; rfl, m1, m2, m3⟩
      · rintro la ds1 ⟨ms, line, rfl, rfl, m1, m2, m3⟩
        have hmt := (mt_le 2).2 ms (by omega)
        have hw : MS.wsum turn ms ≤ 93 := by
          cases turn with
          | false => show MS.ns ms ≤ _; omega
          | true => show MS.ts ms ≤ _; omega
        exact ⟨rfl, _, ⟨[], ms, turn, rfl, rfl, m1, by omega, by simp only [List.length_nil]; omega, by omega, rfl⟩, fun d u' h => ⟨ms, rfl, h, m2, m3⟩⟩
      · rintro d ds' ⟨la, ds1, u', ⟨ms, line, rfl, rfl, m1, m2, m3⟩, ⟨ms2, e1, hR, k2, k3⟩, rfl⟩
        obtain ⟨rfl, rows, rfl, sg, hr⟩ := hR
        have sg : Seg 0 rows := sg
        have hw : rows.length ≤ 93 := by
          rw [hr]
          cases turn with
          | false => show MS.ns ms2 ≤ _; omega
          | true =>
            have := (mt_le 2).2 ms2 (by omega)
            show MS.ts ms2 ≤ _
            omega
        rw [List.nil_append]
        refine b_app 3 rfl g (x_tup (xa_cons x_str (xa_cons (x_len g hd.len (x_call g (c_lines_of hd 2) (by decide) (xa_cons (x_name 0 rfl) xa_nil) ⟨l, nm, rfl, po.ok, po.wd, po.ht, hlen, rfl⟩) rfl) xa_nil))) ?_ (by rw [List.length_map]; omega)
        refine b_frz 3 rfl (b_ret (x_name 3 rfl) ?_)
        refine ⟨rows ++ [.fin ((Stp.liness l).map fun x => Dt.str x.text).length], ?_, ⟨⟨rows.length, by simp⟩, ⟨((Stp.liness l).map fun x => Dt.str x.text).length, by simp⟩, ?_⟩, by simp; omega⟩
        · show _ = Dt.lst _
          rw [List.map_append]; rfl
        · have e : (rows ++ [Row.fin ((Stp.liness l).map fun x => Dt.str x.text).length]).take ((rows ++ [Row.fin ((Stp.liness l).map fun x => Dt.str x.text).length]).length - 1) = rows := by
            simp
          rw [e]; exact sg
def F_code1 : List Dt → (Dt → Prop) → Prop := fun ds R => ∃ (l : List Stp) (nm : List PySem.Str), ds = [.lst (Stp.es l)] ∧ ProgOk l nm ∧ R = CodR
theorem c_code_of (hd : Hd k) : CalK k 12 "code_of" (spP k F_code1) := by
  refine defP (N := ["program"]) (ps := ["program"]) (st := s_code_of) (hd.def_ 30 26 85 rfl rfl rfl) (fun _ _ _ _ _ _ us hl => match us, hl with | [_], _ => rfl) (by decide +kernel) (fun ds R h => ?_) (fun f cdv A outer s H E g ds R h => ?_)
  · obtain ⟨l, nm, rfl, _⟩ := h; rfl
  · obtain ⟨l, nm, rfl, po, rfl⟩ := h
    exact b_retX (xx_call g (c_coded hd) (by decide) (xa_cons (x_name 0 rfl) (xa_cons x_bl xa_nil)) ⟨l, nm, false, rfl, po, rfl⟩) fun d ds' h => h.1
theorem c_turned_code (hd : Hd k) : CalK k 12 "turned_code" (spP k F_code1) := by
  refine defP (N := ["program"]) (ps := ["program"]) (st := s_turned_code) (hd.def_ 31 27 86 rfl rfl rfl) (fun _ _ _ _ _ _ us hl => match us, hl with | [_], _ => rfl) (by decide +kernel) (fun ds R h => ?_) (fun f cdv A outer s H E g ds R h => ?_)
  · obtain ⟨l, nm, rfl, _⟩ := h; rfl
  · obtain ⟨l, nm, rfl, po, rfl⟩ := h
    exact b_retX (xx_call g (c_coded hd) (by decide) (xa_cons (x_name 0 rfl) (xa_cons x_bl xa_nil)) ⟨l, nm, true, rfl, po, rfl⟩) fun d ds' h => h.1
end
end Uw
end
section
set_option Elab.async false
set_option linter.all false
set_option maxRecDepth 100000
set_option maxHeartbeats 4000000
namespace Uw
open PySem PySem.Spec PyProof.Rows L2 Evl
section
variable {ι : Type} {Y : ι → Cx} {k : Kw} {lv : Nat} {ds : EV} {e a b c : Expr} {pos : Pos}
theorem x_mulS {i j : Int} (ha : XD Y k a ds (.int i)) (hb : XD Y k b ds (.int j)) (hc : CMul i j) : XD Y k (.BinOp a .Mult b pos) ds (.int (i * j)) := x_Ic (g := fun i j => .int (i * j)) (fun _ _ _ => .int _) (fun _ => op_mul) ha hb hc
def maxL : List Int → Int
  | [] => 0
  | [x] => x
  | x :: y :: r => max x (maxL (y :: r))
theorem maxL_ok : ∀ {l : List Int}, l ≠ [] → maxL l ∈ l ∧ ∀ x ∈ l, x ≤ maxL l
  | [], h => absurd rfl h
  | [x], _ => ⟨List.mem_cons_self, fun y hy => by rw [List.mem_singleton.mp hy]; exact Int.le_refl _⟩
  | x :: y :: r, _ => by
    obtain ⟨h1, h2⟩ := maxL_ok (l := y :: r) (by simp)
    show max x (maxL (y :: r)) ∈ _ ∧ ∀ z ∈ x :: y :: r, z ≤ max x (maxL (y :: r))
    refine ⟨?_, fun z hz => ?_⟩
    · by_cases q : x ≤ maxL (y :: r)
      · rw [Int.max_eq_right q]; exact List.mem_cons_of_mem _ h1
      · rw [Int.max_eq_left (by omega)]; exact List.mem_cons_self
    · rcases List.mem_cons.mp hz with w | w
      · rw [w]; exact Int.le_max_left _ _
      · exact Int.le_trans (h2 z w) (Int.le_max_right _ _)
theorem x_max1 (g : Good Y k lv) {p : Pos} {ns : List Int} (hm : k.mg "max" = none) (ha : XD Y k a ds (.lst (ns.map .int))) (hne : ns ≠ []) (hg : ∀ i, Gl (Y i) "max" := by intro _; rfl) (he : ∀ i, starEach [a] (Y i).env = (false, eval a (Y i).env) :: starEach [] (Y i).env := by intro _; rfl) (hpl : ∀ i, ((backTo pos (starEach [] (Y i).env)).any fun x => x.1) = false := by intro _; rfl) : XD Y k (.Call (.Name "max" p) [a] [] pos) ds (.int (maxL ns)) :=
  x_B (r := rMax k.K) g (fun i => by have h := cr_max (X := Y i) (g.ec i); rw [g.eK i] at h; exact h) hm (by decide +kernel) (xa_cons ha xa_nil he) (fun H0 H vs hi r Q q => by
    obtain ⟨v, rfl, r1⟩ := r.one
    cases r1
    rename_i a1 xs h1 h2
    have h3 := h2.ints
    subst h3
    refine ⟨a1, ns, rfl, sq_of (hi _ _ h1), List.length_pos_iff.mpr hne, fun m h4 h5 => ?_⟩
    obtain ⟨g1, g2⟩ := maxL_ok hne
    have e : m = maxL ns := Int.le_antisymm (g2 m h4) (h5 _ g1)
    rw [e]
    exact q _ _ _ (Wld.refl hi) (.int _)) (he := he) (hg := hg) (hpl := hpl)
/-- every second item -/
theorem xr_step {X : Cx} (g : Good (yX X) k lv) {lo hi st : Expr} {p2 : Pos} {l h s : Int} {ns : List Int} (ha : XD (yX X) k a ds (.scr ns)) (hl : XD (yX X) k lo ds (.int l)) (hh : XD (yX X) k hi ds (.int h)) (hs : XD (yX X) k st ds (.int s)) (h0 : 0 < s) (h1 : 0 ≤ l) (h2 : l ≤ h) (h3 : (h - l + s - 1) / s ≤ 1000) :
    XR (yX X) k (.Subscript a (.Slice (some lo) (some hi) (some st) p2) pos) ds (fun d => ∃ zs : List Int, d = .lst (zs.map .int) ∧ (zs.length : Int) ≤ (h - l + s - 1) / s) := by
  obtain ⟨ta, pa, ea⟩ := ha
  obtain ⟨tl, pl, el⟩ := xo_some hl
  obtain ⟨th, ph, eh⟩ := xo_some hh
  obtain ⟨ts, ps, es⟩ := xo_some hs
  refine xr_of (te := tStep k.K ta tl th ts) (fun _ => by have z := pe_step (X := X) (p2 := p2) (pos := pos) (pa ()) (pl ()) (ph ()) (ps ()); rw [show X.K = k.K from g.eK ()] at z; exact z) fun M G0 G σ H0 H E Q q => ?_
  refine ea M G0 G σ H0 H E _ fun v H1 H1' E1 w1 r1 => el M G0 G σ H1 H1' E1 _ fun H2 H2' E2 w2 => eh M G0 G σ H2 H2' E2 _ fun H3 H3' E3 w3 => es M G0 G σ H3 H3' E3 _ fun H4 H4' E4 w4 => ?_
  cases r1
  rename_i a1 r1
  have w5 := (w2.trans w3).trans w4
  refine ⟨l, h, s, rfl, rfl, rfl, a1, ns, rfl, ex_l (fun b o hb => w5.kp b o (by simp) hb) (ex_l E1.wld.in_ r1), h0, h1, h2, h3, fun zs p hz _ hp => ?_⟩
  have w := wld_new (o := .lst (zs.map V.int)) E4.wld.in_ hp
  exact q _ _ _ _ ⟨zs, rfl, hz⟩ (E4.step w) ((w1.trans w5).trans w) (.lst upd_same RpA.ofInts)
/-- a call, its arguments of several outcomes -/
theorem xx_callX {x : PySem.Str} {es : List Expr} {p : Pos} {F : List Dt → (Dt → Prop) → Prop} {PL : List Dt → Prop} {R' : Dt → Prop} {j : Nat} (g : Good Y k lv) (c : CalK k j x (spP k F)) (hj : j ≤ lv) (ha : XXA Y k (e :: es) ds (fun l ds' => PL l ∧ ds' = ds)) (hF : ∀ l, PL l → ∃ R, F l R ∧ ∀ d, R d → R' d) (hg : ∀ i, Gl (Y i) x := by intro _; rfl)
    (hdb : (x == ("__debug__" : PySem.Str)) = false := by decide) (he : ∀ i, starEach (e :: es) (Y i).env = (false, eval e (Y i).env) :: starEach es (Y i).env := by intro _; rfl) (hpl : ∀ i, (backTo pos (starEach es (Y i).env)).any (fun x => x.1) = false := by intro _; rfl) :
    XX Y k (.Call (.Name x p) (e :: es) [] pos) ds (fun d ds' => R' d ∧ ds' = ds) := by
  refine xx_of (te := tCall (spP k F) [] C8.E0 (tA Y (e :: es))) (fun i => ?_) fun M G0 G σ H0 H E Q q => ?_
  · have c' : C8.Cal (Y i).prog (Y i).w (Y i).K (Y i).mg (Y i).base j x (spP k F) [] := by rw [g.eP, g.ew, g.eK, g.em, g.eb]; exact c
    exact C8.pe_c c' (g.hr i) hj (hg i) (pa_tA i) hdb (he i) (hpl i)
  · refine ha M G0 G σ H0 H E _ fun vs H1 H1' l ds1 ⟨p1, p2⟩ E1 e1 r1 => ?_
    subst p2
    obtain ⟨R, h1, h2⟩ := hF l p1
    exact ⟨H1, l, R, E1.wld.in_, by rw [List.append_nil]; exact r1, h1, fun d hd v H2 H2' w r => q v H2 H2' d _ ⟨h2 d hd, rfl⟩ (E1.step w) (e1.trans w.fz) r⟩
end
end Uw
end
section
set_option Elab.async false
set_option linter.all false
set_option maxRecDepth 100000
set_option maxHeartbeats 4000000
namespace Uw
open PySem PySem.Spec PyProof.Rows L2 Evl
theorem ch_S (c : Nat) : (⟨#[c]⟩ : PySem.Str) = SX.S [c] := rfl
theorem joinL_nil : ∀ ps : List (List Nat), TL.joinL [] ps = ps.flatten
  | [] => rfl
  | [p] => by simp [TL.joinL]
  | p :: q :: r => by
    have ih := joinL_nil (q :: r)
    simp only [TL.joinL, List.nil_append, ih, List.flatten_cons]
theorem join_chars (cs : List Nat) : Txt.join "" (cs.map fun c => (⟨#[c]⟩ : PySem.Str)) = SX.S cs := by
  have e2 : ("" : PySem.Str) = SX.S [] := by decide
  have e1 : (cs.map fun c => (⟨#[c]⟩ : PySem.Str)) = (cs.map fun c => [c]).map SX.S := by rw [List.map_map]; rfl
  rw [e1, e2, SX.join_S, joinL_nil]
  congr 1
  induction cs with
  | nil => rfl
  | cons c r ih => rw [List.map_cons, List.flatten_cons, ih (by rw [List.map_map]; rfl)]; rfl
theorem wd_chars {cs : List Nat} (h : ∀ c ∈ cs, 97 ≤ c ∧ c ≤ 122) (hl : cs.length ≤ 8) : Wd (SX.S cs) := by
  refine ⟨fun z => ?_, by rw [SX.S_len]; omega, ?_⟩
  · have z' : 32 ∈ cs := z
    have := h 32 z'
    omega
  · show (SX.S cs).cps.all (· < 0x110000) = true
    rw [← Array.all_toList]
    exact List.all_eq_true.mpr fun c hc => decide_eq_true (by have := h c hc; omega)
abbrev abc : PySem.Str := "abcdefghijklmnopqrstuvwxyz"
theorem abc_at {i : Int} (h0 : 0 ≤ i) (h1 : i < 26) : atI abc.cps.toList i = some (97 + i.toNat) := by
  have h : ∀ n < 26, atI abc.cps.toList ((n : Nat) : Int) = some (97 + n) := by decide +kernel
  have := h i.toNat (by omega)
  rwa [Int.toNat_of_nonneg h0] at this
section
variable {k : Kw}
def F_cell_at : List Dt → (Dt → Prop) → Prop := fun ds R => ∃ (ns : List Int) (j : Nat), ds = [.scr ns, dI j] ∧ R = fun d => ∃ i, d = .int i
theorem c_cell_at (hd : Hd k) : CalK k 1 "_law_cell_at" (spP k F_cell_at) := by
  refine defP (N := ["_law_script", "_law_k"]) (ps := ["_law_script", "_law_k"]) (st := s_law_cell_at) (hd.def_ 32 28 87 rfl rfl rfl) (fun _ _ _ _ _ _ us hl => match us, hl with | [_, _], _ => rfl) (by decide +kernel) (fun ds R h => ?_) (fun f cdv A outer s H E g ds R h => ?_)
  · obtain ⟨ns, j, rfl, _⟩ := h; rfl
  · obtain ⟨ns, j, rfl, rfl⟩ := h
    refine b_if (t_c (q_lt (x_name 1 rfl) (x_lenScr g hd.len (x_name 0 rfl)))) (fun q => ?_) (fun q => ?_)
    · have hj : j < ns.length := by have := of_decide_eq_true q; omega
      exact b_ret (x_ixScr g (x_name 0 rfl) (x_name 1 rfl) (atI_nat (List.getElem?_eq_getElem hj))) ⟨_, rfl⟩
    · exact b_nil (b_ret x_int ⟨0, rfl⟩)
def F_words : List Dt → (Dt → Prop) → Prop := fun ds R => ∃ (c : Int) (m : Nat), ds = [.int c, dI m] ∧ m ≤ 10 ∧ R = fun d => ∃ ws : List PySem.Str, d = .lst (ws.map .str) ∧ ws.length = m ∧ ∀ w ∈ ws, Wd w
theorem c_words (hd : Hd k) : CalK k 1 "_law_words" (spP k F_words) := by
  refine defP (N := ["_law_cell", "_law_many", "_law_letters", "_law_size", "_law_at", "_law_rest", "_law_base", "_law_k", "_law_words_here", "_law_j"]) (ps := ["_law_cell", "_law_many"]) (st := s_law_words) (hd.def_ 33 29 88 rfl rfl rfl) (fun _ _ _ _ _ _ us hl => match us, hl with | [_, _], _ => rfl) (by decide +kernel) (fun ds R h => ?_) (fun f cdv A outer s H E g ds R h => ?_)
  · obtain ⟨c, m, rfl, _⟩ := h; rfl
  · obtain ⟨c, m, rfl, hm, rfl⟩ := h
    obtain ⟨sz, hsz, hs1, hs8⟩ : ∃ sz : Nat, (1 : Int) + c % 8 = (sz : Int) ∧ 1 ≤ sz ∧ sz ≤ 8 := ⟨(1 + c % 8).toNat, by omega, by omega, by omega⟩
    refine b_asg 2 x_str ?_
    refine b_asg 3 (XD.is (x_add x_int (x_mod (x_name 0 rfl) x_int (by decide))) (congrArg Dt.int hsz)) ?_
    refine b_asg 4 (x_mod (x_div (x_name 0 rfl) x_int ⟨by decide, by decide⟩) (x_name 3 rfl) (by omega)) ?_
    generalize hat : c / 8 % (sz : Int) = at_
    refine b_asg 5 (x_mod (x_div (x_name 0 rfl) x_int ⟨by decide, by decide⟩) (x_pow x_int x_int ⟨by decide, by decide, by decide⟩) (by decide)) ?_
    generalize c / 64 % 26 ^ (8 : Int).toNat = rest
    refine b_new 6 xa_nil ?_
    refine b_forR (fun i ds1 => ∃ (base : List Int) (rest : Int) (x7 : Option Ent), ds1 = [some (.d (.int c)), some (.d (dI m)), some (.d (.str abc)), some (.d (dI sz)), some (.d (.int at_)), some (.d (.int rest)), some (.m true (mL k (base.map .int))), x7, none, none] ∧ base.length = i) g 7 hd.range (x_name 3 rfl) (by omega) ⟨[], rest, none, rfl, rfl⟩ ?_ ?_
    · rintro i ds1 hi ⟨base, rest, x7, rfl, hb⟩
      refine b_app 6 rfl g (x_mod (x_name 5 rfl) x_int (by decide)) ?_ (by rw [List.length_map]; omega)
      refine b_asg 5 (x_div (x_name 5 rfl) x_int ⟨by decide, by decide⟩) ?_
      exact b_nil ⟨base ++ [rest % 26], _, some (.d (dI i)), by rw [List.map_append]; rfl, by simp [hb]⟩
    · rintro ds1 ⟨base, rest, x7, rfl, hb⟩
      refine b_frz 6 rfl ?_
      refine b_new 8 xa_nil ?_
      refine b_forR (fun i ds1 => ∃ (ws : List PySem.Str) (x7 : Option Ent), ds1 = [some (.d (.int c)), some (.d (dI m)), some (.d (.str abc)), some (.d (dI sz)), some (.d (.int at_)), some (.d (.int rest)), some (.d (.lst (base.map .int))), x7, some (.m true (mL k (ws.map .str))), none] ∧ ws.length = i ∧ ∀ w ∈ ws, Wd w) g 7 hd.range (x_name 1 rfl) (by omega) ⟨[], x7, rfl, rfl, fun w h => by cases h⟩ ?_ ?_
      · rintro i ds1 hi ⟨ws, x7, rfl, hw, hwd⟩
        let ix : Nat → Int := fun j => (base.getD j 0 + (i : Int) * (if eqD (dI j) (.int at_) then 1 else 0)) % 26
        have ixr : ∀ j, 0 ≤ ix j ∧ ix j < 26 := fun j => ⟨Int.emod_nonneg _ (by decide), Int.emod_lt_of_pos _ (by decide)⟩
        let cs : List Nat := (List.range sz).map fun j => 97 + (ix j).toNat
        have hlen : cs.length ≤ 8 := by rw [List.length_map, List.length_range]; exact hs8
        have hcs : ∀ c ∈ cs, 97 ≤ c ∧ c ≤ 122 := fun c hc => by
          obtain ⟨j, _, rfl⟩ := List.mem_map.mp hc
          have := ixr j
          omega
        refine b_app (d := .str (SX.S cs)) 8 rfl g ?key ?_ (by rw [List.length_map]; omega)
        case key =>
          exact XD.is (x_m_join (l := cs.map fun c => (⟨#[c]⟩ : PySem.Str)) (db := .lst ((cs.map fun c => (⟨#[c]⟩ : PySem.Str)).map .str)) g x_str (XD.is (x_lcR "_law_j" 9 ["_law_cell", "_law_many", "_law_letters", "_law_size", "_law_at", "_law_rest", "_law_base", "_law_k", "_law_words_here", "_law_j"] (C8.fnScope s_law_words) g ((List.range sz).map fun j => some (.str ⟨#[97 + (ix j).toNat]⟩)) hd.range (x_name 3 rfl) (by omega) (by rw [List.length_map, List.length_range]) (fun j hj => ⟨_, by rw [List.getElem?_map, List.getElem?_range hj]; rfl, .inl ⟨rfl, _, rfl,
              x_ixS (bk_good g) (x_name 2 rfl) (x_mod (x_add (x_ixL (bk_good g) (x_name 6 rfl) (x_name 9 rfl) (atI_nat (by rw [List.getElem?_map, List.getElem?_eq_getElem (show j < base.length by omega)]; rfl))) (x_mulS (x_name 7 rfl) (x_intB (bk_good g) hd.int (x_c (q_eq (x_name 9 rfl) (x_name 4 rfl) rfl))) (.inl ⟨by omega, by omega⟩))) x_int (by decide)) (by decide) (by
                have e : base.getD j 0 = base[j]'(show j < base.length by omega) := by rw [List.getD_eq_getElem?_getD, List.getElem?_eq_getElem (show j < base.length by omega)]; rfl
                have h := abc_at (ixr j).1 (ixr j).2
                simp only [ix] at h ⊢
                rw [e] at h ⊢
                exact h)⟩⟩) isT_nil) (by
                congr 1
                have : ∀ l : List Nat, keepD (l.map fun j => some (Dt.str ⟨#[97 + (ix j).toNat]⟩)) = (l.map fun j => 97 + (ix j).toNat).map (fun c => Dt.str ⟨#[c]⟩) := fun l => by
                  induction l with
                  | nil => rfl
                  | cons a r ih => rw [List.map_cons, List.map_cons, List.map_cons, ← ih]; rfl
                rw [this]
                exact (List.map_map (l := cs) (f := fun c => (⟨#[c]⟩ : PySem.Str)) (g := Dt.str)).symm)) rfl (by
            have h0 : ("" : PySem.Str).length = 0 := by decide
            rw [h0, Nat.mul_zero, Nat.add_zero]
            have h1 := sum_len (l := cs.map fun c => (⟨#[c]⟩ : PySem.Str)) fun x hx => by
              obtain ⟨c, _, rfl⟩ := List.mem_map.mp hx
              show 1 ≤ 100
              decide
            rw [List.length_map] at h1
            omega)) (congrArg Dt.str (join_chars cs))
        refine b_nil ⟨ws ++ [SX.S cs], some (.d (dI i)), by rw [List.map_append]; rfl, by simp [hw], fun w hw' => ?_⟩
        rcases List.mem_append.mp hw' with z | z
        · exact hwd w z
        · rw [List.mem_singleton.mp z]; exact wd_chars hcs hlen
      · rintro ds1 ⟨ws, x7, rfl, hw, hwd⟩
        exact b_frz 8 rfl (b_ret (x_name 8 rfl) ⟨ws, rfl, hw, hwd⟩)
/-- what one cell makes -/
inductive Hd0 where
  | pl (p : Pst) | le (x y : PySem.Str) | if_ (b : Int) | wh (b : Int) | other | close
def Hd0.l : Hd0 → List Dt
  | .pl p => p.ws.map .str
  | .le x y => [.str "lend", .str x, .str y]
  | .if_ b => [.str "if", .int b]
  | .wh b => [.str "while", .int b]
  | .other => [.str "other"]
  | .close => [.str "close"]
def Hd0.ok (nm : List PySem.Str) : Hd0 → Prop
  | .pl p => p.ok nm
  | .le x y => x ∈ nm ∧ y ∈ nm
  | .if_ b | .wh b => b.natAbs.log2 < 1920
  | _ => True
def F_law_step : List Dt → (Dt → Prop) → Prop := fun ds R => ∃ (c : Int) (nm ws : List PySem.Str), ds = [.int c, .lst (nm.map .str), .lst (ws.map .str)] ∧ 0 < nm.length ∧ nm.length ≤ 10 ∧ 0 < ws.length ∧ ws.length ≤ 10 ∧ (∀ w ∈ ws, Wd w) ∧ R = fun d => ∃ h : Hd0, d = .tup h.l ∧ h.ok nm
theorem c_law_step (hd : Hd k) : CalK k 1 "_law_step" (spP k F_law_step) := by
  refine defP (N := ["_law_cell", "_law_names", "_law_words_here", "_law_x", "_law_y", "_law_word", "_law_bound", "_law_some"]) (ps := ["_law_cell", "_law_names", "_law_words_here"]) (st := s_law_step) (hd.def_ 34 30 89 rfl rfl rfl) (fun _ _ _ _ _ _ us hl => match us, hl with | [_, _, _], _ => rfl) (by decide +kernel) (fun ds R h => ?_) (fun f cdv A outer s H E g ds R h => ?_)
  · obtain ⟨c, nm, ws, rfl, _⟩ := h; rfl
  · obtain ⟨c, nm, ws, rfl, h1, h2, h3, h4, hw, rfl⟩ := h
    have at_ : ∀ (l : List PySem.Str) (z : Int), 0 < l.length → ∃ x ∈ l, atI (l.map Dt.str) (z % (l.length : Int)) = some (.str x) := fun l z hl => by
      have a1 := Int.emod_nonneg z (show (l.length : Int) ≠ 0 by omega)
      have a2 := Int.emod_lt_of_pos z (show (0 : Int) < (l.length : Int) by omega)
      obtain ⟨n, hn⟩ : ∃ n : Nat, z % (l.length : Int) = (n : Int) := ⟨(z % (l.length : Int)).toNat, by omega⟩
      have hlt : n < l.length := by omega
      refine ⟨l[n], List.getElem_mem hlt, ?_⟩
      rw [hn]
      exact atI_nat (by rw [List.getElem?_map, List.getElem?_eq_getElem hlt]; rfl)
    have ln : ((nm.map Dt.str).length : Int) = (nm.length : Int) := by rw [List.length_map]
    have lw : ((ws.map Dt.str).length : Int) = (ws.length : Int) := by rw [List.length_map]
    obtain ⟨x, hx, ex⟩ := at_ nm (c * 48271 % 99991) h1
    obtain ⟨y, hy, ey⟩ := at_ nm (c * 69621 % 99989) h1
    obtain ⟨w, hww, ew⟩ := at_ ws (c * 16807 % 99971) h3
    refine b_asg 3 (x_ixL g (x_name 1 rfl) (x_mod (x_mod (x_mulS (x_name 0 rfl) x_int (.inr (by decide))) x_int (by decide)) (x_len g hd.len (x_name 1 rfl) rfl) (by rw [ln]; omega)) (by rw [ln]; exact ex)) ?_
    refine b_asg 4 (x_ixL g (x_name 1 rfl) (x_mod (x_mod (x_mulS (x_name 0 rfl) x_int (.inr (by decide))) x_int (by decide)) (x_len g hd.len (x_name 1 rfl) rfl) (by rw [ln]; omega)) (by rw [ln]; exact ey)) ?_
    refine b_asg 5 (x_ixL g (x_name 2 rfl) (x_mod (x_mod (x_mulS (x_name 0 rfl) x_int (.inr (by decide))) x_int (by decide)) (x_len g hd.len (x_name 2 rfl) rfl) (by rw [lw]; omega)) (by rw [lw]; exact ew)) ?_
    refine b_asg 6 (x_add (x_sub (x_mod (x_mulS (x_name 0 rfl) x_int (.inr (by decide))) (x_sub (x_mulS x_int (x_pow x_int x_int ⟨by decide, by decide, by decide⟩) (.inl (by decide))) x_int) (by decide)) (x_pow x_int x_int ⟨by decide, by decide, by decide⟩)) x_int) ?_
    generalize hb : c * 40692 % (2 * 10 ^ (60 : Int).toNat - 1) - 10 ^ (60 : Int).toNat + 1 = b
    have hb0 : b.natAbs.log2 < 1920 := by
      have a1 := Int.emod_nonneg (c * 40692) (show (2 * 10 ^ (60 : Int).toNat - 1 : Int) ≠ 0 by decide)
      have a2 := Int.emod_lt_of_pos (c * 40692) (show (0 : Int) < 2 * 10 ^ (60 : Int).toNat - 1 by decide)
      have e10 : (10 ^ (60 : Int).toNat : Int) = 1000000000000000000000000000000000000000000000000000000000000 := by decide
      rw [e10] at a1 a2 hb
      have hn : b.natAbs < 2 ^ 1920 := Nat.lt_of_lt_of_le (show b.natAbs < 2 ^ 201 by
        have : (2 : Nat) ^ 201 = 3213876088517980551083924184682325205044405987565585670602752 := by decide
        omega) (Nat.pow_le_pow_right (by decide) (by decide))
      by_cases z : b.natAbs = 0
      · rw [z]; decide
      · exact (Nat.log2_lt z).mpr hn
    refine b_asg 7 (x_lst (xa_cons (x_tup (xa_cons x_str (xa_cons (x_name 3 rfl) xa_nil))) (xa_cons (x_tup (xa_cons x_str (xa_cons (x_name 5 rfl) (xa_cons (x_name 3 rfl) xa_nil)))) (xa_cons (x_tup (xa_cons x_str (xa_cons (x_name 5 rfl) (xa_cons (x_name 3 rfl) xa_nil)))) (xa_cons (x_tup (xa_cons x_str (xa_cons (x_name 5 rfl) (xa_cons (x_name 3 rfl) xa_nil)))) (xa_cons (x_tup (xa_cons x_str (xa_cons (x_name 3 rfl) (xa_cons (x_name 4 rfl) xa_nil)))) (xa_cons (x_tup (xa_cons x_str (xa_cons (x_name 3 rfl) xa_nil))) xa_nil))))))) ?_
    refine b_asg 7 (x_catL (x_name 7 rfl) (x_lst (xa_cons (x_tup (xa_cons x_str (xa_cons (x_name 3 rfl) (xa_cons (x_name 4 rfl) xa_nil)))) (xa_cons (x_tup (xa_cons x_str (xa_cons (x_name 3 rfl) (xa_cons (x_name 4 rfl) xa_nil)))) (xa_cons (x_tup (xa_cons x_str (xa_cons (x_name 6 rfl) xa_nil))) (xa_cons (x_tup (xa_cons x_str (xa_cons (x_name 6 rfl) xa_nil))) (xa_cons (x_tup (xa_cons x_str (xa_cons (x_name 6 rfl) xa_nil))) xa_nil)))))) (Nat.le_of_ble_eq_true rfl)) ?_
    refine b_asg 7 (x_catL (x_name 7 rfl) (x_lst (xa_cons (x_tup (xa_cons x_str (xa_cons (x_name 5 rfl) (xa_cons (x_name 3 rfl) xa_nil)))) (xa_cons (x_tup (xa_cons x_str (xa_cons (x_name 3 rfl) (xa_cons (x_name 4 rfl) xa_nil)))) (xa_cons (x_tup (xa_cons x_str (xa_cons (x_name 3 rfl) xa_nil))) (xa_cons (x_tup (xa_cons x_str xa_nil)) (xa_cons (x_tup (xa_cons x_str xa_nil)) xa_nil)))))) (Nat.le_of_ble_eq_true rfl)) ?_
    have all : ∀ n < 16, ∃ h : Hd0, ([Hd0.pl (.opn x), .pl (.act w x), .pl (.act w x), .pl (.act w x), .pl (.cpy x y), .pl (.drp x), .pl (.tie x y), .le x y, .if_ b, .wh b, .wh b, .pl (.act w x), .pl (.tie x y), .pl (.opn x), .other, .close] : List Hd0)[n]? = some h ∧ h.ok nm := by
      intro n hn
      have hwd := hw w hww
      match n, hn with
      | 0, _ => exact ⟨_, rfl, hx⟩
      | 1, _ => exact ⟨_, rfl, hwd, hx⟩
      | 2, _ => exact ⟨_, rfl, hwd, hx⟩
      | 3, _ => exact ⟨_, rfl, hwd, hx⟩
      | 4, _ => exact ⟨_, rfl, hx, hy⟩
      | 5, _ => exact ⟨_, rfl, hx⟩
      | 6, _ => exact ⟨_, rfl, hx, hy⟩
      | 7, _ => exact ⟨_, rfl, hx, hy⟩
      | 8, _ => exact ⟨_, rfl, hb0⟩
      | 9, _ => exact ⟨_, rfl, hb0⟩
      | 10, _ => exact ⟨_, rfl, hb0⟩
      | 11, _ => exact ⟨_, rfl, hwd, hx⟩
      | 12, _ => exact ⟨_, rfl, hx, hy⟩
      | 13, _ => exact ⟨_, rfl, hx⟩
      | 14, _ => exact ⟨_, rfl, trivial⟩
      | 15, _ => exact ⟨_, rfl, trivial⟩
      | n + 16, h => exact absurd h (by omega)
    obtain ⟨n, hn⟩ : ∃ n : Nat, c % 16 = (n : Int) := ⟨(c % 16).toNat, by omega⟩
    obtain ⟨h, e1, e2⟩ := all n (by omega)
    refine b_ret (x_ixL (d := .tup h.l) g (x_name 7 rfl) (x_mod (x_name 0 rfl) x_int (by decide)) ?_) ⟨h, rfl, e2⟩
    rw [hn]
    refine atI_nat ?_
    have e3 := congrArg (Option.map fun h : Hd0 => Dt.tup h.l) e1
    rw [← List.getElem?_map] at e3
    exact e3
end
end Uw
end
section
set_option Elab.async false
set_option linter.all false
set_option maxRecDepth 100000
set_option maxHeartbeats 4000000
namespace Uw
open PySem PySem.Spec PyProof.Rows L2 Evl
/-! a pile of open blocks -/
structure PEn where
  h : Dt
  a : List Dt
  b : List Dt
  s : Nat
abbrev A3 := Addr × Addr × Addr
def ad (x : A3) : List Addr := [x.1, x.2.1, x.2.2]
def ads (as : List A3) : List Addr := as.flatMap ad
def EnAt (k : Kw) (H0 H : Hp) (x : A3) (e : PEn) : Prop := ∃ hv xs ys, H x.1 = some (.lst [hv, .ref x.2.1, .ref x.2.2, .int (e.s : Int)]) ∧ Rp k H0 hv e.h ∧ H x.2.1 = some (.lst xs) ∧ RpA k H0 xs e.a ∧ H x.2.2 = some (.lst ys) ∧ RpA k H0 ys e.b
inductive EnsAt (k : Kw) (H0 H : Hp) : List A3 → List PEn → Prop
  | nil : EnsAt k H0 H [] []
  | cons {x : A3} {e : PEn} {as : List A3} {es : List PEn} : EnAt k H0 H x e → EnsAt k H0 H as es → EnsAt k H0 H (x :: as) (e :: es)
section
variable {k : Kw} {H0 H H0' H' : Hp}
theorem EnAt.keep {x : A3} {e : PEn} (h : EnAt k H0 H x e) (ex : Ex H0 H0') (kp : ∀ a ∈ ad x, H' a = H a) : EnAt k H0' H' x e := by
  obtain ⟨hv, xs, ys, h1, h2, h3, h4, h5, h6⟩ := h
  exact ⟨hv, xs, ys, by rw [kp x.1 (by simp [ad])]; exact h1, h2.mono ex, by rw [kp x.2.1 (by simp [ad])]; exact h3, h4.mono ex, by rw [kp x.2.2 (by simp [ad])]; exact h5, h6.mono ex⟩
theorem EnsAt.keep (ex : Ex H0 H0') : ∀ {as : List A3} {es : List PEn}, EnsAt k H0 H as es → (∀ a ∈ ads as, H' a = H a) → EnsAt k H0' H' as es
  | _, _, .nil, _ => .nil
  | _, _, .cons h r, kp => .cons (h.keep ex fun a ha => kp a (List.mem_append_left _ ha)) (r.keep ex fun a ha => kp a (List.mem_append_right _ ha))
theorem EnsAt.snoc : ∀ {as : List A3} {es : List PEn} {x : A3} {e : PEn}, EnsAt k H0 H as es → EnAt k H0 H x e → EnsAt k H0 H (as ++ [x]) (es ++ [e])
  | _, _, _, _, .nil, h => .cons h .nil
  | _, _, _, _, .cons g r, h => .cons g (r.snoc h)
theorem EnsAt.unsnoc : ∀ {as : List A3} {es : List PEn} {e : PEn}, EnsAt k H0 H as (es ++ [e]) → ∃ as' x, as = as' ++ [x] ∧ EnsAt k H0 H as' es ∧ EnAt k H0 H x e
  | _, [], e, h => by
    cases h with
    | cons g r => cases r; exact ⟨[], _, rfl, .nil, g⟩
  | _, e' :: es, e, h => by
    cases h with
    | cons g r =>
      obtain ⟨as', x, rfl, h1, h2⟩ := r.unsnoc
      exact ⟨_ :: as', x, rfl, .cons g h1, h2⟩
theorem EnsAt.length : ∀ {as : List A3} {es : List PEn}, EnsAt k H0 H as es → as.length = es.length
  | _, _, .nil => rfl
  | _, _, .cons _ r => by rw [List.length_cons, List.length_cons, r.length]
end
theorem ads_snoc (as : List A3) (x : A3) : ads (as ++ [x]) = ads as ++ ad x := by simp [ads]
def mPi (k : Kw) (es : List PEn) : Mut where
  at_ v H0 H fp := ∃ p as, v = .ref p ∧ fp = p :: ads as ∧ fp.Nodup ∧ H p = some (.lst (as.map fun x => .ref x.1)) ∧ EnsAt k H0 H as es
  keep := by
    rintro v H0 H H0' H' fp ⟨p, as, rfl, rfl, h1, h2, h3⟩ e kp
    exact ⟨p, as, rfl, rfl, h1, by rw [kp p List.mem_cons_self]; exact h2, h3.keep e fun a ha => kp a (List.mem_cons_of_mem _ ha)⟩
/-- its top block's lists won't change any more -/
def mPiT (k : Kw) (es : List PEn) (e : PEn) : Mut where
  at_ v H0 H fp := ∃ p as x hv v1 v2, v = .ref p ∧ fp = p :: (ads as ++ [x]) ∧ fp.Nodup ∧ H p = some (.lst ((as.map fun x => .ref x.1) ++ [.ref x])) ∧ EnsAt k H0 H as es ∧ H x = some (.lst [hv, v1, v2, .int (e.s : Int)]) ∧ Rp k H0 hv e.h ∧ Rp k H0 v1 (.lst e.a) ∧ Rp k H0 v2 (.lst e.b)
  keep := by
    rintro v H0 H H0' H' fp ⟨p, as, x, hv, v1, v2, rfl, rfl, h1, h2, h3, h4, h5, h6, h7⟩ e kp
    exact ⟨p, as, x, hv, v1, v2, rfl, rfl, h1, by rw [kp p List.mem_cons_self]; exact h2, h3.keep e fun a ha => kp a (List.mem_cons_of_mem _ (List.mem_append_left _ ha)), by rw [kp x (List.mem_cons_of_mem _ (List.mem_append_right _ List.mem_cons_self))]; exact h4, h5.mono e, h6.mono e, h7.mono e⟩
/-! raw evaluations: nothing is made -/
def Ev0 (te : TE) (σ : L2.St) (H : Hp) (v : V) : Prop := ∀ Q : VK, Q v H → te σ H Q
theorem e0_var {σ : L2.St} {H : Hp} {n : Nat} {v : V} (h : σ[n]? = some (some v)) : Ev0 (tVar n) σ H v := fun Q q => ⟨v, h, q⟩
theorem e0_c {σ : L2.St} {H : Hp} {v : V} : Ev0 (tC v) σ H v := fun Q q => q
theorem e0_neg {σ : L2.St} {H : Hp} {i : Int} {ta : TE} (h : Ev0 ta σ H (.int i)) : Ev0 (tUn (rU fun i => V.int (-i)) ta) σ H (.int (-i)) := fun Q q => h _ ⟨i, rfl, q⟩
theorem e0_add {σ : L2.St} {H : Hp} {i j : Int} {ta tb : TE} (h : Ev0 ta σ H (.int i)) (h2 : Ev0 tb σ H (.int j)) : Ev0 (tOp (rI0 fun i j => V.int (i + j)) ta tb) σ H (.int (i + j)) := fun Q q => h _ (h2 _ ⟨i, j, rfl, rfl, q⟩)
theorem e0_ix {K : PySem.W.Frag} {σ : L2.St} {H : Hp} {a : Addr} {xs : List V} {i : Int} {v : V} {ta tb : TE} (h : Ev0 ta σ H (.ref a)) (h2 : Ev0 tb σ H (.int i)) (hx : H a = some (.lst xs)) (hi : atI xs i = some v) : Ev0 (tOp (rIxL K) ta tb) σ H v := fun Q q => h _ (h2 _ ⟨a, xs, i, v, rfl, rfl, sq_of hx, hi, q⟩)
theorem e0_ixT {K : PySem.W.Frag} {σ : L2.St} {H : Hp} {a : Addr} {xs : List V} {i : Int} {v : V} {ta tb : TE} (h : Ev0 ta σ H (.ref a)) (h2 : Ev0 tb σ H (.int i)) (hx : H a = some (.tup xs)) (hi : atI xs i = some v) : Ev0 (tOp (rIxT K) ta tb) σ H v := fun Q q => h _ (h2 _ ⟨a, xs, i, v, rfl, rfl, st_of hx, hi, q⟩)
theorem atI_top {α : Type} {l : List α} {x : α} : atI (l ++ [x]) (-1) = some x := atI_last l x
/-- one of the slot's own lists changes -/
theorem wld_at {fp : List Addr} {H0 H : Hp} {b : Addr} {o : HO} (hi : Ex H0 H) (hb : b ∈ fp) (h0 : H0 b = none) : Wld fp H0 H H0 (upd H b o) :=
  ⟨Ex.refl _, fun a u e => by rw [upd_ne (ne_of_none e h0)]; exact hi a u e, fun a u n e => by rw [upd_ne (fun z => n (by rw [z]; exact hb))]; exact e, fun a e => .inl e, fun a e => by
    by_cases z : a = b
    · rw [z, upd_same]; exact fun z => nomatch z
    · rw [upd_ne z]; exact e⟩
section
variable {X : Cx} {k : Kw} {lv : Nat} {ds : EV} {e a b c : Expr} {pos : Pos} {rest : List Stmt} {N : EV → Prop} {R : Ent → EV → Prop}
def putP (e : PEn) (d : Dt) : PEn := if e.s = 0 then { e with a := e.a ++ [d] } else { e with b := e.b ++ [d] }
/-- pile[-1][1 + pile[-1][3]].append(e) -/
theorem b_putTop (g : Good (yX X) k lv) (n : Nat) {x : PySem.Str} {p1 p2 p3 p4 p5 p6 p7 p8 p9 q1 q2 q3 q4 q5 q6 : Pos} {i1 i2 i3 i4 : Nat} {own : Bool} {es : List PEn} {en : PEn} {d : Dt} (hx : ds[n]? = some (some (.m own (mPi k (es ++ [en]))))) (he : XD (yX X) k e ds d) (hs : en.s ≤ 1) (hz : en.a.length < 1000 ∧ en.b.length < 1000)
    (m : XB X k rest (ds.set n (some (.m own (mPi k (es ++ [putP en d]))))) N R) (hN : X.N[n]? = some x := by rfl) (hv : Vis X.env.scope x := by first | exact .inl rfl | exact .inr (.inl rfl) | exact .inr (.inr rfl)) (h1 : (x == ("__debug__" : PySem.Str)) = false := by decide) (h2 : (x == ("__classdict__" : PySem.Str)) = false := by decide)
    (a1 : attributeBase (.Subscript (.Subscript (.Name x p1) (.UnaryOp .USub (.Constant (.int 1) i1 p2) p3) p4) (.BinOp (.Constant (.int 1) i2 p5) .Add (.Subscript (.Subscript (.Name x p6) (.UnaryOp .USub (.Constant (.int 1) i3 p7) p8) p9) (.Constant (.int 3) i4 q1) q2) q3) q4) "append" X.env (eval (.Subscript (.Subscript (.Name x p1) (.UnaryOp .USub (.Constant (.int 1) i1 p2) p3) p4) (.BinOp (.Constant (.int 1) i2 p5) .Add (.Subscript (.Subscript (.Name x p6) (.UnaryOp .USub (.Constant (.int 1) i3 p7) p8) p9) (.Constant (.int 3) i4 q1) q2) q3) q4) X.env) = eval (.Subscript (.Subscript (.Name x p1) (.UnaryOp .USub (.Constant (.int 1) i1 p2) p3) p4) (.BinOp (.Constant (.int 1) i2 p5) .Add (.Subscript (.Subscript (.Name x p6) (.UnaryOp .USub (.Constant (.int 1) i3 p7) p8) p9) (.Constant (.int 3) i4 q1) q2) q3) q4) X.env := by rfl)
    (a2 : ((((backTo q6 (starEach [e] X.env)).all fun x => !x.1) && (backToKw q6 (keywordEach [] X.env)).all fun x => x.1.isSome) && decide (([e].length + ([] : List Keyword).length + if ([] : List Keyword).isEmpty then 0 else 1) < 30)) = true := by rfl)
    (a3 : (q5.endLine == q6.line) = true := by rfl) (a4 : starEach [e] X.env = (false, eval e X.env) :: starEach [] X.env := by rfl)
    (hsw : swapsWith (.Call (.Attribute (.Subscript (.Subscript (.Name x p1) (.UnaryOp .USub (.Constant (.int 1) i1 p2) p3) p4) (.BinOp (.Constant (.int 1) i2 p5) .Add (.Subscript (.Subscript (.Name x p6) (.UnaryOp .USub (.Constant (.int 1) i3 p7) p8) p9) (.Constant (.int 3) i4 q1) q2) q3) q4) "append" q5) [e] [] q6) none pos.line X.env = pure false := by rfl) :
    XB X k (.Expr (.Call (.Attribute (.Subscript (.Subscript (.Name x p1) (.UnaryOp .USub (.Constant (.int 1) i1 p2) p3) p4) (.BinOp (.Constant (.int 1) i2 p5) .Add (.Subscript (.Subscript (.Name x p6) (.UnaryOp .USub (.Constant (.int 1) i3 p7) p8) p9) (.Constant (.int 3) i4 q1) q2) q3) q4) "append" q5) [e] [] q6) pos :: rest) ds N R := by
  obtain ⟨te, pe, ee⟩ := he
  have slot : ∀ p, PE X (.Name x p) (tVar n) := fun p => tE_slot hN hv h1 h2
  have neg : ∀ i p q, PE X (.UnaryOp .USub (.Constant (.int 1) i p) q) (tUn (rU fun i => V.int (-i)) (tC (.int 1))) := fun i p q => pe_un un_neg pe_int
  have ix : ∀ {a b ta tb q}, PE X a ta → PE X b tb → PlainIx b → PE X (.Subscript a b q) (tOp (rIxL k.K) ta tb) := fun {a b ta tb q} ha hb hp => by have z := pe_ix (X := X) (pos := q) ix_list ha hb hp; rw [show X.K = k.K from g.eK ()] at z; exact z
  refine b_st (ps_expr (pe_bm PySem.F.plainAttrs_list PySem.F.slot_list_append PySem.F.type_list_append mt_append (ix (ix (slot p1) (neg i1 p2 p3) fun _ _ => rfl) (pe_op op_add pe_int (ix (ix (slot p6) (neg i3 p7 p8) fun _ _ => rfl) pe_int fun _ _ => rfl)) fun _ _ => rfl) (pa_cons (pe ()) pa_nil a4) a1 a2 a3 a4) hsw) fun M G0 G σ H0 H D E nx r => ?_
  obtain ⟨v, fp, s1, ⟨p, as, rfl, rfl, hnd, hp, hE⟩, hf, _⟩ := E.call (H0' := H0) (H' := H) hx
  obtain ⟨as, y, rfl, hE', hv0, xs, ys, t1, t2, t3, t4, t5, t6⟩ := hE.unsnoc
  have top : Ev0 (tOp (rIxL k.K) (tVar n) (tUn (rU fun i => V.int (-i)) (tC (.int 1)))) σ H (.ref y.1) := e0_ix (e0_var s1) (e0_neg e0_c) hp (by rw [List.map_append]; exact atI_top)
  have sd : Ev0 (tOp (rIxL k.K) (tOp (rIxL k.K) (tVar n) (tUn (rU fun i => V.int (-i)) (tC (.int 1)))) (tC (.int 3))) σ H (.int (en.s : Int)) := e0_ix top e0_c t1 rfl
  obtain ⟨b0, hb0, hbl⟩ : ∃ b0, Ev0 (tOp (rIxL k.K) (tOp (rIxL k.K) (tVar n) (tUn (rU fun i => V.int (-i)) (tC (.int 1)))) (tOp (rI0 fun i j => V.int (i + j)) (tC (.int 1)) (tOp (rIxL k.K) (tOp (rIxL k.K) (tVar n) (tUn (rU fun i => V.int (-i)) (tC (.int 1)))) (tC (.int 3))))) σ H (.ref b0) ∧ ((en.s = 0 ∧ b0 = y.2.1) ∨ (en.s = 1 ∧ b0 = y.2.2)) := by
    by_cases q : en.s = 0
    · exact ⟨y.2.1, e0_ix top (e0_add e0_c sd) t1 (by rw [q]; rfl), .inl ⟨q, rfl⟩⟩
    · have q1 : en.s = 1 := by omega
      exact ⟨y.2.2, e0_ix top (e0_add e0_c sd) t1 (by rw [q1]; rfl), .inr ⟨q1, rfl⟩⟩
  have hbH : ∃ zs, H b0 = some (.lst zs) := by
    rcases hbl with ⟨_, rfl⟩ | ⟨_, rfl⟩
    · exact ⟨xs, t3⟩
    · exact ⟨ys, t5⟩
  obtain ⟨zs, hzs⟩ := hbH
  refine hb0 _ ⟨.inl ⟨rfl, _, sq_of hzs⟩, ee M G0 G σ H0 H E _ fun w H1 H1' E1 w1 r1 => ?_⟩
  obtain ⟨v', fp', s1', ⟨p', as2, e2, e3, hnd2, hp2, hE2⟩, hf2, hk⟩ := E1.call (H0' := H0) (H' := H) hx
  rw [s1] at s1'
  cases s1'
  cases e2
  have hpk : H1' p = some (.lst ((as ++ [y]).map fun x => .ref x.1)) := w1.kp _ _ (by simp) hp
  obtain ⟨as2', y2, rfl, hE2', hv2, xs2, ys2, u1, u2, u3, u4, u5, u6⟩ := hE2.unsnoc
  have hy : y2.1 = y.1 := by
    rw [hp2] at hpk
    have z := Option.some.inj hpk
    injection z with z
    rw [List.map_append, List.map_append] at z
    have z2 := List.append_inj' z rfl
    have z3 := z2.2
    simp only [List.map_cons, List.map_nil, List.cons.injEq, and_true] at z3
    injection z3
  have hsame : y2.2.1 = y.2.1 ∧ y2.2.2 = y.2.2 := by
    have z := w1.kp _ _ (by simp) t1
    rw [← hy, u1] at z
    have z2 := Option.some.inj z
    injection z2 with z3
    simp only [List.cons.injEq, and_true] at z3
    obtain ⟨_, z4, z5⟩ := z3
    injection z4 with z4
    injection z5 with z5
    exact ⟨z4, z5⟩
  subst e3
  have inAd : ∀ q, q ∈ ad y2 → q ∈ p :: ads (as2' ++ [y2]) := fun q hq => by rw [ads_snoc]; exact List.mem_cons_of_mem _ (List.mem_append_right _ hq)
  rw [ads_snoc, List.nodup_cons] at hnd2
  obtain ⟨n1, n2⟩ := hnd2
  rw [List.nodup_append] at n2
  obtain ⟨n3, n4, n5⟩ := n2
  have n4' : y2.1 ≠ y2.2.1 ∧ y2.1 ≠ y2.2.2 ∧ y2.2.1 ≠ y2.2.2 := by simpa [ad, and_assoc] using n4
  rcases hbl with ⟨q, rfl⟩ | ⟨q, rfl⟩
  · rw [← hsame.1]
    refine ⟨y2.2.1, xs2, w, rfl, rfl, u3, sz_lt (by rw [u4.length]; omega), ?_⟩
    have hin : y2.2.1 ∈ p :: ads (as2' ++ [y2]) := inAd _ (by simp [ad])
    have hpn : p ≠ y2.2.1 := fun z => n1 (by rw [z]; exact List.mem_append_right _ (by simp [ad]))
    have hW := wld_at (o := .lst (xs2 ++ [w])) E1.wld.in_ hin (hf2 _ hin).1
    have fin := hk H1 _ (mPi k (es ++ [putP en d])) (p :: ads (as2' ++ [y2])) hW ⟨p, as2' ++ [y2], rfl, rfl, by rw [ads_snoc, List.nodup_cons, List.nodup_append]; exact ⟨n1, n3, n4, n5⟩, by rw [upd_ne hpn]; exact hp2,
      (hE2'.keep (Ex.refl _) fun a ha => upd_ne fun z => n5 a ha y2.2.1 (by simp [ad]) z).snoc ⟨hv2, xs2 ++ [w], ys2, ?_, ?_, upd_same, ?_, ?_, ?_⟩⟩ fun a ha => ⟨(hf2 a ha).1, .inl ha, hW.tr a (hf2 a ha).2⟩
    · exact nx σ H1 _ _ m fin w1.fz
    · show upd H1' y2.2.1 (.lst (xs2 ++ [w])) y2.1 = _
      rw [upd_ne n4'.1, u1, putP, if_pos q]
    · rw [putP, if_pos q]; exact u2
    · rw [putP, if_pos q]; exact u4.app (.cons r1 .nil)
    · show upd H1' y2.2.1 (.lst (xs2 ++ [w])) y2.2.2 = _
      rw [upd_ne (fun z => n4'.2.2 z.symm)]; exact u5
    · rw [putP, if_pos q]; exact u6
  · have q0 : ¬ en.s = 0 := by omega
    rw [← hsame.2]
    refine ⟨y2.2.2, ys2, w, rfl, rfl, u5, sz_lt (by rw [u6.length]; omega), ?_⟩
    have hin : y2.2.2 ∈ p :: ads (as2' ++ [y2]) := inAd _ (by simp [ad])
    have hpn : p ≠ y2.2.2 := fun z => n1 (by rw [z]; exact List.mem_append_right _ (by simp [ad]))
    have hW := wld_at (o := .lst (ys2 ++ [w])) E1.wld.in_ hin (hf2 _ hin).1
    have fin := hk H1 _ (mPi k (es ++ [putP en d])) (p :: ads (as2' ++ [y2])) hW ⟨p, as2' ++ [y2], rfl, rfl, by rw [ads_snoc, List.nodup_cons, List.nodup_append]; exact ⟨n1, n3, n4, n5⟩, by rw [upd_ne hpn]; exact hp2,
      (hE2'.keep (Ex.refl _) fun a ha => upd_ne fun z => n5 a ha y2.2.2 (by simp [ad]) z).snoc ⟨hv2, xs2, ys2 ++ [w], ?_, ?_, ?_, ?_, upd_same, ?_⟩⟩ fun a ha => ⟨(hf2 a ha).1, .inl ha, hW.tr a (hf2 a ha).2⟩
    · exact nx σ H1 _ _ m fin w1.fz
    · show upd H1' y2.2.2 (.lst (ys2 ++ [w])) y2.1 = _
      rw [upd_ne n4'.2.1, u1, putP, if_neg q0]
    · rw [putP, if_neg q0]; exact u2
    · show upd H1' y2.2.2 (.lst (ys2 ++ [w])) y2.2.1 = _
      rw [upd_ne n4'.2.2]; exact u3
    · rw [putP, if_neg q0]; exact u4
    · rw [putP, if_neg q0]; exact u6.app (.cons r1 .nil)
end
end Uw
end
section
set_option Elab.async false
set_option linter.all false
set_option maxRecDepth 100000
set_option maxHeartbeats 4000000
namespace Uw
open PySem PySem.Spec PyProof.Rows L2 Evl
section
variable {X : Cx} {k : Kw} {lv : Nat} {ds : EV} {e a b c : Expr} {pos : Pos} {rest : List Stmt} {N : EV → Prop} {R : Ent → EV → Prop}
abbrev tNeg : TE := tUn (rU fun i => V.int (-i)) (tC (.int 1))
theorem ixk (g : Good (yX X) k lv) {a b : Expr} {ta tb : TE} {q : Pos} (ha : PE X a ta) (hb : PE X b tb) (hp : PlainIx b) : PE X (.Subscript a b q) (tOp (rIxL k.K) ta tb) := by
  have z := pe_ix (X := X) (pos := q) ix_list ha hb hp
  rw [show X.K = k.K from g.eK ()] at z
  exact z
theorem x_lenPi (g : Good (yX X) k lv) (n : Nat) {x : PySem.Str} {p p2 : Pos} {own : Bool} {es : List PEn} (hx : ds[n]? = some (some (.m own (mPi k es)))) (hm : k.mg "len" = none) (hN : X.N[n]? = some x := by rfl) (hv : Vis X.env.scope x := by first | exact .inl rfl | exact .inr (.inl rfl) | exact .inr (.inr rfl))
    (h1 : (x == ("__debug__" : PySem.Str)) = false := by decide) (h2 : (x == ("__classdict__" : PySem.Str)) = false := by decide) (hg : Gl X "len" := by rfl)
    (he : starEach [.Name x p2] X.env = (false, eval (.Name x p2) X.env) :: starEach [] X.env := by rfl) (hpl : ((backTo pos (starEach [] X.env)).any fun x => x.1) = false := by rfl) : XD (yX X) k (.Call (.Name "len" p) [.Name x p2] [] pos) ds (.int es.length) := by
  refine ⟨tCB (fun xs H Q => ∃ p ys, xs = [V.ref p] ∧ (SqL k.K H p ys ∨ SqT k.K H p ys) ∧ Q (V.int ↑ys.length) H) (tCons (tVar n) tNil), fun _ => ?_, fun M G0 G σ H0 H E Q q => ?_⟩
  · have z := call_len_seq (X := X)
    rw [show X.K = k.K from g.eK ()] at z
    exact pe_callB z hg (by rw [show X.mg = k.mg from g.em ()]; exact hm) PySem.boot_len (pa_cons (tE_slot hN hv h1 h2) pa_nil he) (by decide) (by decide) he hpl
  · obtain ⟨v, fp, s1, ⟨p0, as, rfl, rfl, hnd, hp, hE⟩, _⟩ := E.call (H0' := H0) (H' := H) hx
    refine ⟨_, s1, p0, _, rfl, .inl (sq_of hp), ?_⟩
    rw [List.length_map, hE.length]
    exact q _ _ _ E (Wld.refl E.wld.in_) (.int _)
/-- pile[-1][0], pile[-1][3] -/
theorem x_top (g : Good (yX X) k lv) (n : Nat) {x : PySem.Str} {p1 p2 p3 p4 p5 : Pos} {i1 i2 : Nat} {own : Bool} {es : List PEn} {en : PEn} {j : Int} {d : Dt} (hx : ds[n]? = some (some (.m own (mPi k (es ++ [en]))))) (hj : (j = 0 ∧ d = en.h) ∨ (j = 3 ∧ d = dI en.s)) (hN : X.N[n]? = some x := by rfl) (hv : Vis X.env.scope x := by first | exact .inl rfl | exact .inr (.inl rfl) | exact .inr (.inr rfl))
    (h1 : (x == ("__debug__" : PySem.Str)) = false := by decide) (h2 : (x == ("__classdict__" : PySem.Str)) = false := by decide) :
    XD (yX X) k (.Subscript (.Subscript (.Name x p1) (.UnaryOp .USub (.Constant (.int 1) i1 p2) p3) p4) (.Constant (.int j) i2 p5) pos) ds d := by
  refine ⟨tOp (rIxL k.K) (tOp (rIxL k.K) (tVar n) tNeg) (tC (.int j)), fun _ => ixk g (ixk g (tE_slot hN hv h1 h2) (pe_un un_neg pe_int) fun _ _ => rfl) pe_int fun _ _ => rfl, fun M G0 G σ H0 H E Q q => ?_⟩
  obtain ⟨v, fp, s1, ⟨p, as, rfl, rfl, hnd, hp, hE⟩, hf, _⟩ := E.call (H0' := H0) (H' := H) hx
  obtain ⟨as, y, rfl, hE', hv0, xs, ys, t1, t2, t3, t4, t5, t6⟩ := hE.unsnoc
  have top : Ev0 (tOp (rIxL k.K) (tVar n) tNeg) σ H (.ref y.1) := e0_ix (e0_var s1) (e0_neg e0_c) hp (by rw [List.map_append]; exact atI_top)
  rcases hj with ⟨rfl, rfl⟩ | ⟨rfl, rfl⟩
  · exact e0_ix (K := k.K) top e0_c t1 (rfl : atI [hv0, V.ref y.2.1, V.ref y.2.2, V.int (en.s : Int)] 0 = some hv0) Q (q _ _ _ E (Wld.refl E.wld.in_) t2)
  · exact e0_ix (K := k.K) top e0_c t1 (rfl : atI [hv0, V.ref y.2.1, V.ref y.2.2, V.int (en.s : Int)] 3 = some (V.int (en.s : Int))) Q (q _ _ _ E (Wld.refl E.wld.in_) (.int _))
/-- pile[-1][3] = 1 -/
theorem b_side (g : Good (yX X) k lv) (n : Nat) {x : PySem.Str} {p1 p2 p3 p4 p5 p6 p7 : Pos} {i1 i2 i3 : Nat} {own : Bool} {es : List PEn} {en : PEn} (hx : ds[n]? = some (some (.m own (mPi k (es ++ [en]))))) (m : XB X k rest (ds.set n (some (.m own (mPi k (es ++ [{ en with s := 1 }]))))) N R) (hN : X.N[n]? = some x := by rfl) (hv : Vis X.env.scope x := by first | exact .inl rfl | exact .inr (.inl rfl) | exact .inr (.inr rfl))
    (h1 : (x == ("__debug__" : PySem.Str)) = false := by decide) (h2 : (x == ("__classdict__" : PySem.Str)) = false := by decide)
    (a1 : ∀ v : Value, assign (.Subscript (.Subscript (.Name x p1) (.UnaryOp .USub (.Constant (.int 1) i1 p2) p3) p4) (.Constant (.int 3) i2 p5) p6) X.env v = (do let ov ← holding [v] (eval (.Subscript (.Name x p1) (.UnaryOp .USub (.Constant (.int 1) i1 p2) p3) p4) X.env); let iv ← holding [v, ov] (eval (.Constant (.int 3) i2 p5) X.env); standAt p6; holding [v, ov, iv] (setItem ov iv v); release [v, ov, iv] []) := by intro v; rfl)
    (a2 : swapsWithSole [.Subscript (.Subscript (.Name x p1) (.UnaryOp .USub (.Constant (.int 1) i1 p2) p3) p4) (.Constant (.int 3) i2 p5) p6] (.Constant (.int 1) i3 p7) pos.line X.env = pure false := by rfl) (a3 : swappedStores [.Subscript (.Subscript (.Name x p1) (.UnaryOp .USub (.Constant (.int 1) i1 p2) p3) p4) (.Constant (.int 3) i2 p5) p6] (.Constant (.int 1) i3 p7) X.env = pure none := by rfl)
    (a4 : (assignEach [.Subscript (.Subscript (.Name x p1) (.UnaryOp .USub (.Constant (.int 1) i1 p2) p3) p4) (.Constant (.int 3) i2 p5) p6] X.env).map (fun x => x.2) = [assign (.Subscript (.Subscript (.Name x p1) (.UnaryOp .USub (.Constant (.int 1) i1 p2) p3) p4) (.Constant (.int 3) i2 p5) p6) X.env] := by rfl) :
    XB X k (.Assign [.Subscript (.Subscript (.Name x p1) (.UnaryOp .USub (.Constant (.int 1) i1 p2) p3) p4) (.Constant (.int 3) i2 p5) p6] (.Constant (.int 1) i3 p7) pos :: rest) ds N R := by
  refine b_st (t := tAsg (tC (.int 1)) (gSub (tOp (rIxL k.K) (tVar n) tNeg) (tC (.int 3)) rSetL)) (ps_asg pe_int (pg_sub (ixk g (tE_slot hN hv h1 h2) (pe_un un_neg pe_int) fun _ _ => rfl) pe_int set_list a1) a2 a3 a4) fun M G0 G σ H0 H D E nx r => ?_
  obtain ⟨v, fp, s1, ⟨p, as, rfl, rfl, hnd, hp, hE⟩, hf, hk⟩ := E.call (H0' := H0) (H' := H) hx
  obtain ⟨as, y, rfl, hE', hv0, xs, ys, t1, t2, t3, t4, t5, t6⟩ := hE.unsnoc
  have top : Ev0 (tOp (rIxL k.K) (tVar n) tNeg) σ H (.ref y.1) := e0_ix (e0_var s1) (e0_neg e0_c) hp (by rw [List.map_append]; exact atI_top)
  refine top _ ⟨y.1, _, 3, 3, rfl, rfl, t1, rfl, ?_⟩
  have hin : y.1 ∈ p :: ads (as ++ [y]) := by rw [ads_snoc]; exact List.mem_cons_of_mem _ (List.mem_append_right _ (by simp [ad]))
  rw [ads_snoc, List.nodup_cons] at hnd
  obtain ⟨n1, n2⟩ := hnd
  rw [List.nodup_append] at n2
  obtain ⟨n3, n4, n5⟩ := n2
  have n4' : y.1 ≠ y.2.1 ∧ y.1 ≠ y.2.2 ∧ y.2.1 ≠ y.2.2 := by simpa [ad, and_assoc] using n4
  have hpn : p ≠ y.1 := fun z => n1 (by rw [z]; exact List.mem_append_right _ (by simp [ad]))
  have hW := wld_at (o := .lst ([hv0, V.ref y.2.1, V.ref y.2.2, V.int (en.s : Int)].set 3 (.int 1))) E.wld.in_ hin (hf _ hin).1
  refine nx σ H0 _ _ m (hk H0 _ (mPi k (es ++ [{ en with s := 1 }])) (p :: ads (as ++ [y])) hW ⟨p, as ++ [y], rfl, rfl, by rw [ads_snoc, List.nodup_cons, List.nodup_append]; exact ⟨n1, n3, n4, n5⟩, by rw [upd_ne hpn]; exact hp,
      (hE'.keep (Ex.refl _) fun a ha => upd_ne fun z => n5 a ha y.1 (by simp [ad]) z).snoc ⟨hv0, xs, ys, upd_same, t2, ?_, t4, ?_, t6⟩⟩ fun a ha => ⟨(hf a ha).1, .inl ha, hW.tr a (hf a ha).2⟩) (Ex.refl _)
  · show upd H y.1 _ y.2.1 = _
    rw [upd_ne (fun z => n4'.1 z.symm)]; exact t3
  · show upd H y.1 _ y.2.2 = _
    rw [upd_ne (fun z => n4'.2.1 z.symm)]; exact t5
/-- pile.append([e, [], [], 0]) -/
theorem b_pushPi (g : Good (yX X) k lv) (n : Nat) {x : PySem.Str} {p p2 p3 q1 q2 q3 q4 : Pos} {i1 : Nat} {own : Bool} {es : List PEn} {d : Dt} (hx : ds[n]? = some (some (.m own (mPi k es)))) (he : XD (yX X) k e ds d) (hz : es.length < 1000) (m : XB X k rest (ds.set n (some (.m own (mPi k (es ++ [⟨d, [], [], 0⟩]))))) N R)
    (hN : X.N[n]? = some x := by rfl) (hv : Vis X.env.scope x := by first | exact .inl rfl | exact .inr (.inl rfl) | exact .inr (.inr rfl)) (h1 : (x == ("__debug__" : PySem.Str)) = false := by decide) (h2 : (x == ("__classdict__" : PySem.Str)) = false := by decide)
    (a1 : attributeBase (.Name x p) "append" X.env (eval (.Name x p) X.env) = eval (.Name x p) X.env := by rfl)
    (a2 : ((((backTo p3 (starEach [.List [e, .List [] q1, .List [] q2, .Constant (.int 0) i1 q3] q4] X.env)).all fun x => !x.1) && (backToKw p3 (keywordEach [] X.env)).all fun x => x.1.isSome) && decide (([Expr.List [e, .List [] q1, .List [] q2, .Constant (.int 0) i1 q3] q4].length + ([] : List Keyword).length + if ([] : List Keyword).isEmpty then 0 else 1) < 30)) = true := by rfl)
    (a3 : (p2.endLine == p3.line) = true := by rfl) (a4 : starEach [.List [e, .List [] q1, .List [] q2, .Constant (.int 0) i1 q3] q4] X.env = (false, eval (.List [e, .List [] q1, .List [] q2, .Constant (.int 0) i1 q3] q4) X.env) :: starEach [] X.env := by rfl)
    (b1 : starEach [e, .List [] q1, .List [] q2, .Constant (.int 0) i1 q3] X.env = (false, eval e X.env) :: starEach [.List [] q1, .List [] q2, .Constant (.int 0) i1 q3] X.env := by rfl)
    (hsw : swapsWith (.Call (.Attribute (.Name x p) "append" p2) [.List [e, .List [] q1, .List [] q2, .Constant (.int 0) i1 q3] q4] [] p3) none pos.line X.env = pure false := by rfl) :
    XB X k (.Expr (.Call (.Attribute (.Name x p) "append" p2) [.List [e, .List [] q1, .List [] q2, .Constant (.int 0) i1 q3] q4] [] p3) pos :: rest) ds N R := by
  obtain ⟨te, pe, ee⟩ := he
  refine b_st (ps_expr (pe_bm PySem.F.plainAttrs_list PySem.F.slot_list_append PySem.F.type_list_append mt_append (tE_slot hN hv h1 h2) (pa_cons (pe_lst (pa_cons (pe ()) (pa_cons (pe_lst pa_nil) (pa_cons (pe_lst pa_nil) (pa_cons pe_int pa_nil) rfl) rfl) b1)) pa_nil a4) a1 a2 a3 a4) hsw) fun M G0 G σ H0 H D E nx r => ?_
  obtain ⟨v, fp, s1, ⟨p0, as0, rfl, rfl, hnd0, hp0, hE0⟩, hf0, _⟩ := E.call (H0' := H0) (H' := H) hx
  refine ⟨_, s1, .inl ⟨rfl, _, sq_of hp0⟩, ee M G0 G σ H0 H E _ fun w H1 H1' E1 w1 r1 => ?_⟩
  obtain ⟨v', fp', s1', ⟨p', as, e2, rfl, hnd, hp, hE⟩, hf, hk⟩ := E1.call (H0' := H0) (H' := H) hx
  rw [s1] at s1'
  cases s1'
  cases e2
  refine ⟨Nat.zero_le _, fun f hfn => ⟨Nat.zero_le _, fun s hs => ⟨show 4 ≤ sizeLine from sz_of (by decide), fun y hy => ?_⟩⟩⟩
  have hp1 : H1' p0 ≠ none := (hf p0 List.mem_cons_self).2
  have fr : ∀ b, b ∈ p0 :: ads as → H1' b ≠ none := fun b hb => (hf b hb).2
  have sf : s ≠ f := fun z => by rw [z, upd_same] at hs; cases hs
  have hs1 : H1' s = none := by rw [upd_ne sf] at hs; exact hs
  have ys : y ≠ s := fun z => by rw [z, upd_same] at hy; cases hy
  have yf : y ≠ f := fun z => by rw [z, upd_ne (fun z => sf z.symm), upd_same] at hy; cases hy
  have hy1 : H1' y = none := by rw [upd_ne ys, upd_ne yf] at hy; exact hy
  have pf : p0 ≠ f := fun z => hp1 (by rw [z]; exact hfn)
  have ps : p0 ≠ s := fun z => hp1 (by rw [z]; exact hs1)
  have py : p0 ≠ y := fun z => hp1 (by rw [z]; exact hy1)
  have hpp : upd (upd (upd H1' f (.lst [])) s (.lst [])) y (.lst [w, V.ref f, V.ref s, V.int 0]) p0 = some (.lst (as.map fun x => .ref x.1)) := by rw [upd_ne py, upd_ne ps, upd_ne pf]; exact hp
  refine ⟨p0, _, _, rfl, rfl, hpp, sz_lt (by rw [List.length_map, hE.length]; omega), ?_⟩
  let HF := upd (upd (upd (upd H1' f (.lst [])) s (.lst [])) y (.lst [w, V.ref f, V.ref s, V.int 0])) p0 (.lst ((as.map fun x => V.ref x.1) ++ [.ref y]))
  have other : ∀ b, b ≠ p0 → b ≠ y → b ≠ s → b ≠ f → HF b = H1' b := fun b c1 c2 c3 c4 => by
    show upd (upd (upd (upd H1' f (.lst [])) s (.lst [])) y _) p0 _ b = _
    rw [upd_ne c1, upd_ne c2, upd_ne c3, upd_ne c4]
  have gy : HF y = some (.lst [w, V.ref f, V.ref s, V.int 0]) := by
    show upd (upd (upd (upd H1' f (.lst [])) s (.lst [])) y _) p0 _ y = _
    rw [upd_ne (fun z => py z.symm), upd_same]
  have gs : HF s = some (.lst []) := by
    show upd (upd (upd (upd H1' f (.lst [])) s (.lst [])) y _) p0 _ s = _
    rw [upd_ne (fun z => ps z.symm), upd_ne (fun z => ys z.symm), upd_same]
  have gf : HF f = some (.lst []) := by
    show upd (upd (upd (upd H1' f (.lst [])) s (.lst [])) y _) p0 _ f = _
    rw [upd_ne (fun z => pf z.symm), upd_ne (fun z => yf z.symm), upd_ne (fun z => sf z.symm), upd_same]
  have gp : HF p0 = some (.lst ((as.map fun x => V.ref x.1) ++ [.ref y])) := upd_same
  have nz : ∀ b, H1' b ≠ none → HF b ≠ none := fun b hb => by
    by_cases c1 : b = p0
    · rw [c1, gp]; exact fun z => nomatch z
    · rw [other b c1 (fun z => hb (by rw [z]; exact hy1)) (fun z => hb (by rw [z]; exact hs1)) (fun z => hb (by rw [z]; exact hfn))]; exact hb
  have same : ∀ b, H1' b ≠ none → b ≠ p0 → HF b = H1' b := fun b hb c1 => other b c1 (fun z => hb (by rw [z]; exact hy1)) (fun z => hb (by rw [z]; exact hs1)) (fun z => hb (by rw [z]; exact hfn))
  have hW : Wld (p0 :: ads as) H1 H1' H1 HF := ⟨Ex.refl _, fun b o eb => by
      have eb' := E1.wld.in_ b o eb
      rw [same b (by rw [eb']; exact fun z => nomatch z) (fun z => by rw [z, (hf p0 List.mem_cons_self).1] at eb; cases eb)]; exact eb', fun b o nb eb => by
      rw [same b (by rw [eb]; exact fun z => nomatch z) (fun z => nb (by rw [z]; exact List.mem_cons_self))]; exact eb, fun b hb => .inl hb, nz⟩
  rw [List.nodup_cons] at hnd
  refine nx σ H1 _ _ m (hk H1 HF (mPi k (es ++ [⟨d, [], [], 0⟩])) (p0 :: ads (as ++ [(y, f, s)])) hW ⟨p0, as ++ [(y, f, s)], rfl, rfl, ?_, ?_, (hE.keep (Ex.refl _) fun a ha => same a (fr a (List.mem_cons_of_mem _ ha)) (fun z => hnd.1 (by rw [← z]; exact ha))).snoc ⟨w, [], [], gy, r1, gf, .nil, gs, .nil⟩⟩ fun a ha => ?_) w1.fz
  · rw [ads_snoc, List.nodup_cons]
    refine ⟨fun z => ?_, ?_⟩
    · rcases List.mem_append.mp z with z | z
      · exact hnd.1 z
      · simp only [ad, List.mem_cons, List.not_mem_nil, or_false] at z
        rcases z with z | z | z
        · exact py z
        · exact pf z
        · exact ps z
    · rw [List.nodup_append]
      have fs : f ≠ s := fun z => sf z.symm
      refine ⟨hnd.2, by simp [ad, yf, ys, fs], fun a ha b hb e => ?_⟩
      · have ha' := fr a (List.mem_cons_of_mem _ ha)
        simp only [ad, List.mem_cons, List.not_mem_nil, or_false] at hb
        rcases hb with rfl | rfl | rfl
        · exact ha' (by rw [e]; exact hy1)
        · exact ha' (by rw [e]; exact hfn)
        · exact ha' (by rw [e]; exact hs1)
  · rw [gp, List.map_append]; rfl
  · rw [ads_snoc] at ha
    rcases List.mem_cons.mp ha with rfl | ha
    · exact ⟨(hf _ List.mem_cons_self).1, .inl List.mem_cons_self, by rw [gp]; exact fun z => nomatch z⟩
    · rcases List.mem_append.mp ha with ha | ha
      · exact ⟨(hf a (List.mem_cons_of_mem _ ha)).1, .inl (List.mem_cons_of_mem _ ha), nz a (fr a (List.mem_cons_of_mem _ ha))⟩
      · simp only [ad, List.mem_cons, List.not_mem_nil, or_false] at ha
        rcases ha with rfl | rfl | rfl
        · exact ⟨fresh_back E1.wld.in_ hy1, .inr hy1, by rw [gy]; exact fun z => nomatch z⟩
        · exact ⟨fresh_back E1.wld.in_ hfn, .inr hfn, by rw [gf]; exact fun z => nomatch z⟩
        · exact ⟨fresh_back E1.wld.in_ hs1, .inr hs1, by rw [gs]; exact fun z => nomatch z⟩
/-- h, f, s, d = pile.pop() -/
theorem b_unpPi (g : Good (yX X) k lv) (n : Nat) {x : PySem.Str} {p p2 p3 pt : Pos} {tm : Nat} {own : Bool} {es : List PEn} {en : PEn} {tgs : List Expr} {ds2 : EV} (hx : ds[n]? = some (some (.m own (mPiT k es en)))) (ht : XGs X k tgs (ds.set n (some (.m own (mPi k es)))) [en.h, .lst en.a, .lst en.b, dI en.s] ds2) (m : XB X k rest ds2 N R) (hN : X.N[n]? = some x := by rfl) (hv : Vis X.env.scope x := by first | exact .inl rfl | exact .inr (.inl rfl) | exact .inr (.inr rfl))
    (h1 : (x == ("__debug__" : PySem.Str)) = false := by decide) (h2 : (x == ("__classdict__" : PySem.Str)) = false := by decide)
    (a1 : attributeBase (.Name x p) "pop" X.env (eval (.Name x p) X.env) = eval (.Name x p) X.env := by rfl) (a3 : (p2.endLine == p3.line) = true := by rfl)
    (u1 : (assignEach tgs X.env).length = 4 := by rfl) (u2 : (assignEach tgs X.env).findIdx? (fun x => x.1) = none := by rfl)
    (c2 : swapsWithSole [.Tuple tgs tm pt] (.Call (.Attribute (.Name x p) "pop" p2) [] [] p3) pos.line X.env = pure false := by rfl) (c3 : swappedStores [.Tuple tgs tm pt] (.Call (.Attribute (.Name x p) "pop" p2) [] [] p3) X.env = pure none := by rfl)
    (c4 : (assignEach [.Tuple tgs tm pt] X.env).map (fun x => x.2) = [assign (.Tuple tgs tm pt) X.env] := by rfl) : XB X k (.Assign [.Tuple tgs tm pt] (.Call (.Attribute (.Name x p) "pop" p2) [] [] p3) pos :: rest) ds N R := by
  obtain ⟨gs, pg, hg⟩ := ht
  refine b_st (t := tAsg (tBM0 k.K "list" rPop (tVar n)) (gUnl k.K 4 gs)) (ps_asg (by have z := pe_bm0 (X := X) PySem.F.plainAttrs_list PySem.F.slot_list_pop PySem.F.type_list_pop mt_pop (tE_slot (p := p) hN hv h1 h2) a1 a3; rw [show X.K = k.K from g.eK ()] at z; exact z) (by have z := pg_unl (X := X) (k := tm) (pos := pt) (g.ec ()) pg u1 u2; rw [show X.K = k.K from g.eK ()] at z; exact z) c2 c3 c4) fun M G0 G σ H0 H D E nx r => ?_
  obtain ⟨v, fp, s1, ⟨p0, as, y, hv0, v1, v2, rfl, rfl, hnd, hp, hE, t1, t2, t3, t4⟩, hf, hk⟩ := E.call (H0' := H0) (H' := H) hx
  refine ⟨_, s1, .inl ⟨rfl, _, sq_of hp⟩, p0, _, .ref y, rfl, rfl, hp, by simp, ?_⟩
  rw [List.dropLast_concat]
  rw [List.nodup_cons] at hnd
  obtain ⟨n1, n2⟩ := hnd
  rw [List.nodup_append] at n2
  have hpy : y ≠ p0 := fun z => n1 (by rw [← z]; exact List.mem_append_right _ List.mem_cons_self)
  have hW := wld_at (o := .lst (as.map fun x => .ref x.1)) E.wld.in_ (List.mem_cons_self (a := p0) (l := ads as ++ [y])) (hf p0 List.mem_cons_self).1
  have E2 := hk H0 _ (mPi k es) (p0 :: ads as) hW ⟨p0, as, rfl, rfl, by rw [List.nodup_cons]; exact ⟨fun z => n1 (List.mem_append_left _ z), n2.1⟩, upd_same, hE.keep (Ex.refl _) fun a ha => upd_ne fun z => n1 (by rw [← z]; exact List.mem_append_left _ ha)⟩ fun a ha => by
    have ha' : a ∈ p0 :: (ads as ++ [y]) := by
      rcases List.mem_cons.mp ha with z | z
      · rw [z]; exact List.mem_cons_self
      · exact List.mem_cons_of_mem _ (List.mem_append_left _ z)
    exact ⟨(hf a ha').1, .inl ha', hW.tr a (hf a ha').2⟩
  refine ⟨y, _, rfl, sq_of (by rw [upd_ne hpy]; exact t1), rfl, ?_⟩
  exact hg M G0 G σ H0 _ _ E2 (.cons t2 (.cons t3 (.cons t4 (.cons (.int _) .nil)))) _ fun σ' E' => nx σ' H0 _ ds2 m E' (Ex.refl _)
/-- pile[0][1], the last block left -/
theorem x_pi0 (g : Good (yX X) k lv) (n : Nat) {x : PySem.Str} {p1 p2 p4 p5 : Pos} {i1 i2 : Nat} {own : Bool} {en : PEn} (hx : ds[n]? = some (some (.m own (mPiT k [] en)))) (hN : X.N[n]? = some x := by rfl) (hv : Vis X.env.scope x := by first | exact .inl rfl | exact .inr (.inl rfl) | exact .inr (.inr rfl))
    (h1 : (x == ("__debug__" : PySem.Str)) = false := by decide) (h2 : (x == ("__classdict__" : PySem.Str)) = false := by decide) :
    XD (yX X) k (.Subscript (.Subscript (.Name x p1) (.Constant (.int 0) i1 p2) p4) (.Constant (.int 1) i2 p5) pos) ds (.lst en.a) := by
  refine ⟨tOp (rIxL k.K) (tOp (rIxL k.K) (tVar n) (tC (.int 0))) (tC (.int 1)), fun _ => ixk g (ixk g (tE_slot hN hv h1 h2) pe_int fun _ _ => rfl) pe_int fun _ _ => rfl, fun M G0 G σ H0 H E Q q => ?_⟩
  obtain ⟨v, fp, s1, ⟨p0, as, y, hv0, v1, v2, rfl, rfl, hnd, hp, hE, t1, t2, t3, t4⟩, hf, hk⟩ := E.call (H0' := H0) (H' := H) hx
  have has : as = [] := by cases hE; rfl
  subst has
  exact e0_ix (K := k.K) (e0_ix (K := k.K) (e0_var s1) e0_c hp rfl) e0_c t1 (rfl : atI [hv0, v1, v2, V.int (en.s : Int)] 1 = some v1) Q (q _ _ _ E (Wld.refl E.wld.in_) t3)
end
end Uw
end
section
set_option Elab.async false
set_option linter.all false
set_option maxRecDepth 100000
set_option maxHeartbeats 4000000
namespace Uw
open PySem PySem.Spec PyProof.Rows L2 Evl
section
variable {X : Cx} {k : Kw} {lv : Nat} {ds : EV} {e a b c : Expr} {pos : Pos} {rest : List Stmt} {N : EV → Prop} {R : Ent → EV → Prop}
/-- pile = [[e, [], [], 0]] -/
theorem b_newPi (n : Nat) {x : PySem.Str} {p q1 q2 q3 q4 q5 : Pos} {i1 : Nat} {d : Dt} (he : XD (yX X) k e ds d) (m : XB X k rest (ds.set n (some (.m true (mPi k [⟨d, [], [], 0⟩])))) N R) (hd : X.N.Nodup := by exact Good.nd (Y := yX _) (by assumption) ()) (hN : X.N[n]? = some x := by rfl) (hl : Loc X.env.scope x := by first | exact .inl rfl | exact .inr rfl)
    (b0 : starEach [.List [e, .List [] q1, .List [] q2, .Constant (.int 0) i1 q3] q4] X.env = (false, eval (.List [e, .List [] q1, .List [] q2, .Constant (.int 0) i1 q3] q4) X.env) :: starEach [] X.env := by rfl) (b1 : starEach [e, .List [] q1, .List [] q2, .Constant (.int 0) i1 q3] X.env = (false, eval e X.env) :: starEach [.List [] q1, .List [] q2, .Constant (.int 0) i1 q3] X.env := by rfl)
    (hs : swapsWith (.List [.List [e, .List [] q1, .List [] q2, .Constant (.int 0) i1 q3] q4] q5) (some (.Name x p)) pos.line X.env = pure false := by rfl) (hf : X.fn x = true ∨ X.env.scope.names.lookup x = some .local := by first | exact .inr rfl | exact .inl rfl) :
    XB X k (.Assign [.Name x p] (.List [.List [e, .List [] q1, .List [] q2, .Constant (.int 0) i1 q3] q4] q5) pos :: rest) ds N R := by
  obtain ⟨te, pe, ee⟩ := he
  refine b_st (ps_set hd hN hl (pe_lst (pa_cons (pe_lst (pa_cons (pe ()) (pa_cons (pe_lst pa_nil) (pa_cons (pe_lst pa_nil) (pa_cons pe_int pa_nil) rfl) rfl) b1)) pa_nil b0)) hs hf) fun M G0 G σ H0 H D E nx r => ?_
  refine ee M G0 G σ H0 H E _ fun w H1 H1' E1 w1 r1 => ?_
  refine ⟨Nat.zero_le _, fun f hfn => ⟨Nat.zero_le _, fun s hs => ⟨show 4 ≤ sizeLine from sz_of (by decide), fun y hy => ⟨show 1 ≤ sizeLine from sz_of (by decide), fun q hq => ?_⟩⟩⟩⟩
  have sf : s ≠ f := fun z => by rw [z, upd_same] at hs; cases hs
  have hs1 : H1' s = none := by rw [upd_ne sf] at hs; exact hs
  have ys : y ≠ s := fun z => by rw [z, upd_same] at hy; cases hy
  have yf : y ≠ f := fun z => by rw [z, upd_ne (fun z => sf z.symm), upd_same] at hy; cases hy
  have hy1 : H1' y = none := by rw [upd_ne ys, upd_ne yf] at hy; exact hy
  have qy : q ≠ y := fun z => by rw [z, upd_same] at hq; cases hq
  have qs : q ≠ s := fun z => by rw [z, upd_ne (fun z => ys z.symm), upd_same] at hq; cases hq
  have qf : q ≠ f := fun z => by rw [z, upd_ne (fun z => yf z.symm), upd_ne (fun z => sf z.symm), upd_same] at hq; cases hq
  have hq1 : H1' q = none := by rw [upd_ne qy, upd_ne qs, upd_ne qf] at hq; exact hq
  have fs : f ≠ s := fun z => sf z.symm
  refine nx _ H1 _ _ m (E1.setM (fp := [q, y, f, s]) (fun b hb => ?_) (fun b hb => ?_) ⟨q, [(y, f, s)], rfl, rfl, by simp [ads, ad, qy, qf, qs, yf, ys, fs], by rw [upd_same]; rfl, .cons ⟨w, [], [], ?_, r1, ?_, .nil, ?_, .nil⟩ .nil⟩) w1.fz
  · simp only [List.mem_cons, List.not_mem_nil, or_false, not_or] at hb
    rw [upd_ne hb.1, upd_ne hb.2.1, upd_ne hb.2.2.2, upd_ne hb.2.2.1]
  · simp only [List.mem_cons, List.not_mem_nil, or_false] at hb
    rcases hb with rfl | rfl | rfl | rfl
    · exact ⟨hq1, by rw [upd_same]; exact fun z => nomatch z⟩
    · exact ⟨hy1, by rw [upd_ne (fun z => qy z.symm), upd_same]; exact fun z => nomatch z⟩
    · exact ⟨hfn, by rw [upd_ne (fun z => qf z.symm), upd_ne (fun z => yf z.symm), upd_ne fs, upd_same]; exact fun z => nomatch z⟩
    · exact ⟨hs1, by rw [upd_ne (fun z => qs z.symm), upd_ne (fun z => ys z.symm), upd_same]; exact fun z => nomatch z⟩
  · rw [upd_ne (fun z => qy z.symm), upd_same]; rfl
  · rw [upd_ne (fun z => qf z.symm), upd_ne (fun z => yf z.symm), upd_ne fs, upd_same]
  · rw [upd_ne (fun z => qs z.symm), upd_ne (fun z => ys z.symm), upd_same]
/-- the top block's lists won't change any more -/
theorem b_frzTop (n : Nat) {sts : List Stmt} {es : List PEn} {en : PEn} (h : ds[n]? = some (some (.m true (mPi k (es ++ [en]))))) (m : XB X k sts (ds.set n (some (.m true (mPiT k es en)))) N R) : XB X k sts ds N R := fun M G0 G σ H0 H D E nx r => by
  obtain ⟨F, f1, f2, f3⟩ := E.ent
  obtain ⟨v, h1, ⟨p, as0, rfl, hF, hnd, h2, hE⟩, ho⟩ := f1 n _ h
  obtain ⟨as, y, rfl, hE', hv0, xs, ys, t1, t2, t3, t4, t5, t6⟩ := hE.unsnoc
  rw [ads_snoc] at hF
  rw [hF] at hnd
  rw [List.nodup_cons] at hnd
  obtain ⟨n1, n2⟩ := hnd
  rw [List.nodup_append] at n2
  obtain ⟨n3, n4, n5⟩ := n2
  have n4' : y.1 ≠ y.2.1 ∧ y.1 ≠ y.2.2 ∧ y.2.1 ≠ y.2.2 := by simpa [ad, and_assoc] using n4
  have i1 : y.1 ∈ F n := by rw [hF]; simp [ad]
  have i2 : y.2.1 ∈ F n := by rw [hF]; simp [ad]
  have i3 : y.2.2 ∈ F n := by rw [hF]; simp [ad]
  have hin : ∀ b, b ∈ F n → H0 b = none ∧ G b = none ∧ H b ≠ none := fun b hb => ⟨(f3 n b hb).1, ho rfl b hb, (f3 n b hb).2.2⟩
  let H0' : Hp := upd (upd H0 y.2.1 (.lst xs)) y.2.2 (.lst ys)
  have at1 : H0' y.2.1 = some (.lst xs) := by show upd (upd H0 _ _) _ _ _ = _; rw [upd_ne n4'.2.2, upd_same]
  have at2 : H0' y.2.2 = some (.lst ys) := upd_same
  have oth : ∀ b, b ≠ y.2.1 → b ≠ y.2.2 → H0' b = H0 b := fun b c1 c2 => by show upd (upd H0 _ _) _ _ _ = _; rw [upd_ne c2, upd_ne c1]
  have ex : Ex H0 H0' := fun b o e => by
    rw [oth b (fun z => by rw [z, (hin _ i2).1] at e; cases e) (fun z => by rw [z, (hin _ i3).1] at e; cases e)]; exact e
  have ex2 : Ex H0' H := fun b o e => by
    by_cases c1 : b = y.2.1
    · rw [c1, at1] at e; rw [c1, t3]; exact e
    · by_cases c2 : b = y.2.2
      · rw [c2, at2] at e; rw [c2, t5]; exact e
      · rw [oth b c1 c2] at e; exact E.wld.in_ b o e
  have fpOld : ∀ b, b ∈ p :: (ads as ++ [y.1]) → b ∈ F n ∧ b ≠ y.2.1 ∧ b ≠ y.2.2 := fun b hb => by
    rcases List.mem_cons.mp hb with z | z
    · rw [z]
      exact ⟨by rw [hF]; exact List.mem_cons_self, fun z => n1 (by rw [z]; exact List.mem_append_right _ (by simp [ad])), fun z => n1 (by rw [z]; exact List.mem_append_right _ (by simp [ad]))⟩
    · rcases List.mem_append.mp z with z | z
      · exact ⟨by rw [hF]; exact List.mem_cons_of_mem _ (List.mem_append_left _ z), n5 b z _ (by simp [ad]), n5 b z _ (by simp [ad])⟩
      · rw [List.mem_singleton.mp z]; exact ⟨i1, n4'.1, n4'.2.1⟩
  have E' : Env k M G0 G σ H0' H (ds.set n (some (.m true (mPiT k es en)))) := by
    refine ⟨⟨E.wld.fz.trans ex, ex2, E.wld.kp, fun b e => ?_, E.wld.tr⟩, by rw [List.length_set, E.len], pin_set0 E.pin (fun u z => nomatch z), fun j => if j = n then p :: (ads as ++ [y.1]) else F j, fun j e he => ?_, fun j l b ha hb => ?_, fun j b ha => ?_⟩
    · by_cases c1 : b = y.2.1
      · rw [c1]; exact .inr (hin _ i2).2.1
      · by_cases c2 : b = y.2.2
        · rw [c2]; exact .inr (hin _ i3).2.1
        · rw [oth b c1 c2] at e; exact E.wld.nw b e
    · by_cases q : n = j
      · subst q
        rw [List.getElem?_set] at he
        split at he
        · split at he
          · cases he
            refine ⟨_, h1, ?_⟩
            simp only [if_true]
            refine ⟨⟨p, as, y.1, hv0, .ref y.2.1, .ref y.2.2, rfl, rfl, ?_, by rw [h2, List.map_append]; rfl, hE'.keep ex fun _ _ => rfl, t1, t2.mono ex, .lst at1 (t4.mono ex), .lst at2 (t6.mono ex)⟩, fun _ b hb => (hin b (fpOld b hb).1).2.1⟩
            rw [List.nodup_cons, List.nodup_append]
            refine ⟨fun z => n1 ?_, n3, by simp, fun a ha b hb e => n5 a ha y.1 (by simp [ad]) (by rw [e, List.mem_singleton.mp hb])⟩
            rcases List.mem_append.mp z with z | z
            · exact List.mem_append_left _ z
            · rw [List.mem_singleton.mp z]; exact List.mem_append_right _ (by simp [ad])
          · cases he
        · exact absurd rfl ‹_›
      · rw [List.getElem?_set_ne q] at he
        obtain ⟨v', g1, g2⟩ := f1 j e he
        refine ⟨v', g1, ?_⟩
        dsimp only
        rw [if_neg (show ¬ j = n from fun z => q z.symm)]
        cases e with
        | d x => exact Rp.mono ex g2
        | m own u' => exact ⟨u'.keep g2.1 ex fun b _ => rfl, g2.2⟩
    · dsimp only at ha hb
      have key : ∀ j, j ≠ n → b ∈ F j → b ∉ p :: (ads as ++ [y.1]) := fun j hj hb hp => hj (f2 j n b hb (fpOld b hp).1)
      split at ha
      · split at hb
        · subst_vars; rfl
        · exact absurd ha (key _ ‹_› hb)
      · split at hb
        · exact absurd hb (key _ ‹_› ha)
        · exact f2 _ _ b ha hb
    · dsimp only at ha
      split at ha
      · obtain ⟨z1, z2, z3⟩ := fpOld b ha
        exact ⟨by rw [oth b z2 z3]; exact (hin b z1).1, (f3 n b z1).2⟩
      · have c1 : b ≠ y.2.1 := fun z => ‹¬ j = n› (f2 j n b ha (by rw [z]; exact i2))
        have c2 : b ≠ y.2.2 := fun z => ‹¬ j = n› (f2 j n b ha (by rw [z]; exact i3))
        exact ⟨by rw [oth b c1 c2]; exact (f3 j b ha).1, (f3 j b ha).2⟩
  exact m M G0 G σ H0' H D E' (fun σ' H1 H' ds' q E1 e1 => nx σ' H1 H' ds' q E1 (ex.trans e1)) r
end
section
variable {k : Kw}
def F_put (k : Kw) : FM := fun u ds R => ∃ (es : List PEn) (en : PEn) (d : Dt), u = mPi k (es ++ [en]) ∧ ds = [d] ∧ en.s ≤ 1 ∧ en.a.length < 1000 ∧ en.b.length < 1000 ∧ R = fun d' u' => d' = .non ∧ u' = mPi k (es ++ [putP en d])
theorem c_put (hd : Hd k) : CalK k 1 "_law_put" (spM k (F_put k)) := by
  refine defM (N := ["_law_pile", "_law_step_here"]) (ps := ["_law_pile", "_law_step_here"]) (st := s_law_put) (hd.def_ 35 31 90 rfl rfl rfl) (fun _ _ _ _ _ _ us hl => match us, hl with | [_, _], _ => rfl) (by decide +kernel) (fun u ds R h => ?_) (fun f cdv A outer s H E g u ds R h => ?_)
  · obtain ⟨es, en, d, rfl, rfl, _⟩ := h; rfl
  · obtain ⟨es, en, d, rfl, rfl, h1, h2, h3, rfl⟩ := h
    exact b_putTop g 0 rfl (x_name 1 rfl) h1 ⟨h2, h3⟩ (b_nil ⟨_, rfl, rfl, rfl⟩)
/-- a block, closed -/
def closeD (hl : List Dt) (t : PySem.Str) (a b : List Dt) : Dt := if t = "if" then .tup (hl ++ [.lst a, .lst b]) else .tup (hl ++ [.lst a])
def F_close (k : Kw) : FM := fun u ds R => ∃ (es : List PEn) (e1 en : PEn) (hl : List Dt) (t : PySem.Str), u = mPiT k (es ++ [e1]) en ∧ ds = [] ∧ en.h = .tup hl ∧ atI hl 0 = some (.str t) ∧ hl.length ≤ 10 ∧ e1.s ≤ 1 ∧ e1.a.length < 1000 ∧ e1.b.length < 1000 ∧ R = fun d' u' => d' = .non ∧ u' = mPi k (es ++ [putP e1 (closeD hl t en.a en.b)])
theorem c_close (hd : Hd k) : CalK k 2 "_law_close" (spM k (F_close k)) := by
  refine defM (N := ["_law_pile", "_law_head", "_law_first", "_law_second", "_law_side"]) (ps := ["_law_pile"]) (st := s_law_close) (hd.def_ 36 32 91 rfl rfl rfl) (fun _ _ _ _ _ _ us hl => match us, hl with | [_], _ => rfl) (by decide +kernel) (fun u ds R h => ?_) (fun f cdv A outer s H E g u ds R h => ?_)
  · obtain ⟨es, e1, en, hl, t, rfl, rfl, _⟩ := h; rfl
  · obtain ⟨es, e1, en, hl, t, rfl, rfl, e2, at0, hlen, h1, h2, h3, rfl⟩ := h
    obtain ⟨eh, ea, eb, esd⟩ := en
    have e2 : eh = .tup hl := e2
    subst e2
    refine b_unpPi g 0 rfl (xgs_cons (xg_name 1) (xgs_cons (xg_name 2) (xgs_cons (xg_name 3) (xgs_cons (xg_name 4) xgs_nil)))) ?_
    refine b_if (t_c (q_eq (x_ixT g (x_name 1 rfl) x_int at0) x_str rfl)) (fun q => ?_) (fun q => ?_)
    · have et : t = "if" := of_decide_eq_true q
      refine b_exprX (xx_callM 0 rfl g (c_put hd) (by decide) (xa_cons (x_catA g (x_name 1 rfl) (x_tup (xa_cons (x_name 2 rfl) (xa_cons (x_name 3 rfl) xa_nil))) (by simp only [List.length_cons, List.length_nil]; omega)) xa_nil) ⟨es, e1, _, rfl, rfl, h1, h2, h3, rfl⟩) ?_
      rintro d ds2 ⟨u', ⟨rfl, rfl⟩, rfl⟩
      refine b_nil (b_nil ⟨_, rfl, rfl, ?_⟩)
      rw [closeD, if_pos et]
    · have et : ¬ t = "if" := of_decide_eq_false q
      refine b_exprX (xx_callM 0 rfl g (c_put hd) (by decide) (xa_cons (x_catA g (x_name 1 rfl) (x_tup (xa_cons (x_name 2 rfl) xa_nil)) (by simp only [List.length_cons, List.length_nil]; omega)) xa_nil) ⟨es, e1, _, rfl, rfl, h1, h2, h3, rfl⟩) ?_
      rintro d ds2 ⟨u', ⟨rfl, rfl⟩, rfl⟩
      refine b_nil (b_nil ⟨_, rfl, rfl, ?_⟩)
      rw [closeD, if_neg et]
end
end Uw
end
section
set_option Elab.async false
set_option linter.all false
set_option maxRecDepth 100000
set_option maxHeartbeats 4000000
namespace Uw
open PySem PySem.Spec PyProof.Rows L2 Evl
theorem soks_app {nm : List PySem.Str} {a b : List Stp} (ha : Stp.oks nm a) (hb : Stp.oks nm b) : Stp.oks nm (a ++ b) := by
  induction a with
  | nil => exact hb
  | cons x r ih => rw [List.cons_append]; rw [Stp.oks] at ha ⊢; exact ⟨ha.1, ih ha.2⟩
theorem len_ns (a : List Stp) : a.length ≤ Stp.ns a := by
  induction a with
  | nil => exact Nat.zero_le _
  | cons x r ih =>
    rw [List.length_cons, Stp.ns]
    have : 1 ≤ x.n := by cases x <;> rw [Stp.n] <;> omega
    omega
inductive PH where
  | top | le (x y : PySem.Str) | if_ (b : Int) | wh (b : Int)
def PH.t : PH → PySem.Str
  | .top => "top" | .le _ _ => "lend" | .if_ _ => "if" | .wh _ => "while"
def PH.r : PH → List Dt
  | .top => [] | .le x y => [.str x, .str y] | .if_ b => [.int b] | .wh b => [.int b]
def PH.l (h : PH) : List Dt := .str h.t :: h.r
def PH.ok (nm : List PySem.Str) : PH → Prop
  | .le x y => x ∈ nm ∧ y ∈ nm
  | .if_ b | .wh b => b.natAbs.log2 < 1920
  | _ => True
def PH.mk : PH → List Stp → List Stp → Stp
  | .top, _, _ => .pl (.opn "")
  | .le x y, a, _ => .le x y a
  | .if_ b, a, c => .if_ b a c
  | .wh b, a, _ => .wh b a
def PH.w : PH → Nat
  | .top => 0 | .le _ _ => 6 | .if_ _ => 2 | .wh _ => 2
def PH.nl : PH → Nat
  | .le _ _ => 1 | _ => 0
structure PA where
  h : PH
  a : List Stp
  b : List Stp
  s : Nat
def PA.en (e : PA) : PEn := ⟨.tup e.h.l, Stp.es e.a, Stp.es e.b, e.s⟩
def PA.w (e : PA) : Nat := Stp.ns e.a + Stp.ns e.b + e.h.w
def PA.nl (e : PA) : Nat := Stp.nls e.a + Stp.nls e.b + e.h.nl
def PA.put (e : PA) (x : Stp) : PA := if e.s = 0 then { e with a := e.a ++ [x] } else { e with b := e.b ++ [x] }
structure PA.ok (nm : List PySem.Str) (i : Nat) (e : PA) : Prop where
  a : Stp.oks nm e.a
  b : Stp.oks nm e.b
  s : e.s ≤ 1
  h : e.h.ok nm
  t : i ≠ 0 → e.h ≠ .top
  ha : Stp.hts e.a + i ≤ 2
  hb : Stp.hts e.b + i ≤ 2
theorem es_snoc (a : List Stp) (x : Stp) : Stp.es (a ++ [x]) = Stp.es a ++ [x.e] := by rw [es_map, es_map, List.map_append]; rfl
theorem put_en (e : PA) (x : Stp) : (e.put x).en = putP e.en x.e := by
  unfold PA.put putP PA.en
  dsimp only
  split
  · simp only [es_snoc]
  · simp only [es_snoc]
theorem put_w (e : PA) (x : Stp) : (e.put x).w = e.w + x.n := by
  unfold PA.put PA.w
  split
  · simp only [ns_app, Stp.ns]; omega
  · simp only [ns_app, Stp.ns]; omega
theorem put_nl (e : PA) (x : Stp) : (e.put x).nl = e.nl + x.nl := by
  unfold PA.put PA.nl
  split
  · simp only [nls_app, Stp.nls]; omega
  · simp only [nls_app, Stp.nls]; omega
theorem put_ok {nm : List PySem.Str} {i : Nat} {e : PA} {x : Stp} (h : e.ok nm i) (hx : x.ok nm) (hh : x.ht + i ≤ 2) : (e.put x).ok nm i := by
  have o1 : Stp.oks nm [x] := by rw [Stp.oks]; exact ⟨hx, trivial⟩
  have h1 := h.ha
  have h2 := h.hb
  unfold PA.put
  split
  · exact ⟨soks_app h.a o1, h.b, h.s, h.h, h.t, by simp only [hts_app, Stp.hts]; omega, h.hb⟩
  · exact ⟨h.a, soks_app h.b o1, h.s, h.h, h.t, h.ha, by simp only [hts_app, Stp.hts]; omega⟩
theorem mk_ok {nm : List PySem.Str} {i : Nat} {e : PA} (h : e.ok nm (i + 1)) : (e.h.mk e.a e.b).ok nm ∧ (e.h.mk e.a e.b).ht + i ≤ 2 ∧ (e.h.mk e.a e.b).n ≤ e.w ∧ (e.h.mk e.a e.b).nl ≤ e.nl ∧ closeD e.h.l e.h.t (Stp.es e.a) (Stp.es e.b) = (e.h.mk e.a e.b).e := by
  obtain ⟨eh, a, b, s⟩ := e
  have h1 := h.ha
  have h2 := h.hb
  have h3 := h.h
  have h4 := h.t (by omega)
  dsimp only at h1 h2 h3 h4 ⊢
  cases eh with
  | top => exact absurd rfl h4
  | le x y => exact ⟨by rw [PH.mk, Stp.ok]; exact ⟨h3.1, h3.2, h.a⟩, by rw [PH.mk, Stp.ht]; omega, by simp only [PH.mk, Stp.n, PA.w, PH.w]; omega, by simp only [PH.mk, Stp.nl, PA.nl, PH.nl]; omega, by rw [closeD, PH.t, if_neg (by decide), PH.mk, Stp.e]; rfl⟩
  | if_ z => exact ⟨by rw [PH.mk, Stp.ok]; exact ⟨h3, h.a, h.b⟩, by rw [PH.mk, Stp.ht]; omega, by simp only [PH.mk, Stp.n, PA.w, PH.w]; omega, by simp only [PH.mk, Stp.nl, PA.nl, PH.nl]; omega, by rw [closeD, PH.t, if_pos rfl, PH.mk, Stp.e]; rfl⟩
  | wh z => exact ⟨by rw [PH.mk, Stp.ok]; exact ⟨h3, h.a⟩, by rw [PH.mk, Stp.ht]; omega, by simp only [PH.mk, Stp.n, PA.w, PH.w]; omega, by simp only [PH.mk, Stp.nl, PA.nl, PH.nl]; omega, by rw [closeD, PH.t, if_neg (by decide), PH.mk, Stp.e]; rfl⟩
def pw (ps : List PA) : Nat := (ps.map PA.w).sum
def pnl (ps : List PA) : Nat := (ps.map PA.nl).sum
theorem pw_snoc (ps : List PA) (e : PA) : pw (ps ++ [e]) = pw ps + e.w := by simp [pw]
theorem pnl_snoc (ps : List PA) (e : PA) : pnl (ps ++ [e]) = pnl ps + e.nl := by simp [pnl]
/-- what a pile of blocks keeps -/
structure PIv (nm : List PySem.Str) (ps : List PA) (lends n : Nat) : Prop where
  ok : ∀ (i : Nat) (e : PA), ps[i]? = some e → e.ok nm i
  len : ps.length ≤ 3
  w : pw ps + 4 * lends ≤ 2 * n + 4
  nl : pnl ps + lends ≤ 1
theorem PIv.last {nm : List PySem.Str} {ps : List PA} {e : PA} {l n : Nat} (h : PIv nm (ps ++ [e]) l n) : e.ok nm ps.length := h.ok _ _ (by simp)
theorem PIv.up {nm : List PySem.Str} {ps : List PA} {l n m : Nat} (h : PIv nm ps l n) (hm : n ≤ m) : PIv nm ps l m := ⟨h.ok, h.len, by have := h.w; omega, h.nl⟩
theorem ok_snoc {nm : List PySem.Str} {ps : List PA} {e : PA} (h : ∀ (i : Nat) (e : PA), ps[i]? = some e → e.ok nm i) (he : e.ok nm ps.length) : ∀ (i : Nat) (e' : PA), (ps ++ [e])[i]? = some e' → e'.ok nm i := fun i e' hi => by
  rcases Nat.lt_trichotomy i ps.length with z | z | z
  · rw [List.getElem?_append_left z] at hi; exact h i e' hi
  · subst z; rw [List.getElem?_concat_length] at hi; cases hi; exact he
  · rw [List.getElem?_eq_none (by simp; omega)] at hi; cases hi
theorem ok_init {nm : List PySem.Str} {ps : List PA} {e : PA} (h : ∀ (i : Nat) (e' : PA), (ps ++ [e])[i]? = some e' → e'.ok nm i) : ∀ (i : Nat) (e' : PA), ps[i]? = some e' → e'.ok nm i := fun i e' hi => h i e' (by
  have hl : i < ps.length := (List.getElem?_eq_some_iff.mp hi).1
  rw [List.getElem?_append_left hl]; exact hi)
theorem PIv.put {nm : List PySem.Str} {ps : List PA} {e : PA} {l n : Nat} {p : Pst} (h : PIv nm (ps ++ [e]) l n) (hp : p.ok nm) : PIv nm (ps ++ [e.put (.pl p)]) l (n + 1) := by
  have h1 := h.len
  have h2 := h.w
  have h3 := h.nl
  rw [pw_snoc] at h2
  rw [pnl_snoc] at h3
  rw [List.length_append] at h1
  refine ⟨ok_snoc (ok_init h.ok) (put_ok h.last (by rw [Stp.ok]; exact hp) ?_), by rw [List.length_append]; exact h1, ?_, ?_⟩
  · rw [Stp.ht]; simp only [List.length_cons, List.length_nil] at h1; omega
  · rw [pw_snoc, put_w, Stp.n]; omega
  · rw [pnl_snoc, put_nl, Stp.nl]; omega
theorem PIv.close {nm : List PySem.Str} {ps : List PA} {e1 e : PA} {l n : Nat} (h : PIv nm (ps ++ [e1] ++ [e]) l n) : PIv nm (ps ++ [e1.put (e.h.mk e.a e.b)]) l n ∧ closeD e.h.l e.h.t (Stp.es e.a) (Stp.es e.b) = (e.h.mk e.a e.b).e := by
  have h1 := h.len
  have h2 := h.w
  have h3 := h.nl
  rw [pw_snoc, pw_snoc] at h2
  rw [pnl_snoc, pnl_snoc] at h3
  have h4 := h.last
  rw [show (ps ++ [e1]).length = ps.length + 1 by simp] at h4
  obtain ⟨k1, k2, k3, k4, k5⟩ := mk_ok h4
  have h5 := ok_init h.ok
  refine ⟨⟨ok_snoc (ok_init h5) (put_ok (h5 _ _ (by simp)) k1 k2), ?_, ?_, ?_⟩, k5⟩
  · simp only [List.length_append, List.length_cons, List.length_nil] at h1 ⊢; omega
  · rw [pw_snoc, put_w]; omega
  · rw [pnl_snoc, put_nl]; omega
theorem PIv.side {nm : List PySem.Str} {ps : List PA} {e : PA} {l n : Nat} (h : PIv nm (ps ++ [e]) l n) : PIv nm (ps ++ [{ e with s := 1 }]) l n := by
  have h4 := h.last
  have h2 := h.w
  have h3 := h.nl
  rw [pw_snoc] at h2
  rw [pnl_snoc] at h3
  exact ⟨ok_snoc (ok_init h.ok) ⟨h4.a, h4.b, Nat.le_refl _, h4.h, h4.t, h4.ha, h4.hb⟩, by have := h.len; simpa using this, by rw [pw_snoc]; exact h2, by rw [pnl_snoc]; exact h3⟩
theorem PIv.push {nm : List PySem.Str} {ps : List PA} {l l' n : Nat} {g : PH} (h : PIv nm ps l n) (hl : ps.length ≤ 2) (hg : g.ok nm) (ht : g ≠ .top) (hw : g.w + 4 * l' ≤ 4 * l + 2) (hn : g.nl + l' ≤ l) : PIv nm (ps ++ [⟨g, [], [], 0⟩]) l' (n + 1) := by
  have h2 := h.w
  have h3 := h.nl
  refine ⟨ok_snoc h.ok ⟨trivial, trivial, Nat.zero_le _, hg, fun _ => ht, by show 0 + _ ≤ 2; omega, by show 0 + _ ≤ 2; omega⟩, by simp; omega, ?_, ?_⟩
  · rw [pw_snoc]; show _ + (0 + 0 + g.w) + _ ≤ _; omega
  · rw [pnl_snoc]; show _ + (0 + 0 + g.nl) + _ ≤ _; omega
theorem PIv.few {nm : List PySem.Str} {ps : List PA} {e : PA} {l n : Nat} (h : PIv nm (ps ++ [e]) l n) : (Stp.es e.a).length ≤ 2 * n + 4 ∧ (Stp.es e.b).length ≤ 2 * n + 4 := by
  have h2 := h.w
  rw [pw_snoc] at h2
  have h3 := len_ns e.a
  have h4 := len_ns e.b
  rw [es_map, es_map, List.length_map, List.length_map]
  rw [PA.w] at h2
  omega
end Uw
end
section
set_option Elab.async false
set_option linter.all false
set_option maxRecDepth 100000
set_option maxHeartbeats 4000000
namespace Uw
open PySem PySem.Spec PyProof.Rows L2 Evl
section
variable {k : Kw}
def Hd0.t : Hd0 → PySem.Str
  | .pl (.opn _) => "open" | .pl (.act _ _) => "do" | .pl (.cpy _ _) => "copy" | .pl (.drp _) => "drop" | .pl (.tie _ _) => "tie"
  | .le _ _ => "lend" | .if_ _ => "if" | .wh _ => "while" | .other => "other" | .close => "close"
theorem Hd0.at0 (h : Hd0) : atI h.l 0 = some (.str h.t) := by
  cases h with
  | pl p => cases p <;> rfl
  | _ => rfl
theorem PH.at0 (h : PH) : atI h.l 0 = some (.str h.t) := by cases h <;> rfl
def F_law_program : List Dt → (Dt → Prop) → Prop := fun ds R => ∃ (cs : List Int) (nm ws : List PySem.Str), ds = [.lst (cs.map .int), .lst (nm.map .str), .lst (ws.map .str), dI 1, .int 2] ∧ cs.length ≤ 12 ∧ 0 < nm.length ∧ nm.length ≤ 10 ∧ 0 < ws.length ∧ ws.length ≤ 10 ∧ (∀ w ∈ ws, Wd w) ∧ R = fun d => ∃ l : List Stp, d = .lst (Stp.es l) ∧ Stp.oks nm l ∧ Stp.hts l ≤ 2 ∧ Stp.nls l ≤ 1 ∧ Stp.ns l ≤ 28
theorem c_law_program (hd : Hd k) : CalK k 3 "_law_program" (spP k F_law_program) := by
  refine defP (N := ["_law_cells", "_law_names", "_law_words_here", "_law_lends", "_law_deep", "_law_pile", "_law_cell", "_law_step_here"]) (ps := ["_law_cells", "_law_names", "_law_words_here", "_law_lends", "_law_deep"]) (st := s_law_program) (hd.def_ 37 33 92 rfl rfl rfl) (fun _ _ _ _ _ _ us hl => match us, hl with | [_, _, _, _, _], _ => rfl) (by decide +kernel) (fun ds R h => ?_) (fun f cdv A outer s H E g ds R h => ?_)
  · obtain ⟨cs, nm, ws, rfl, _⟩ := h; rfl
  · obtain ⟨cs, nm, ws, rfl, hc, n1, n2, w1, w2, w3, rfl⟩ := h
    refine b_newPi 5 (x_tup (xa_cons x_str xa_nil)) ?_
    refine b_forD (l := cs.map .int) (fun i ds1 => ∃ (ps : List PA) (e : PA) (l : Nat) (x6 x7 : Option Ent), ds1 = [some (.d (.lst (cs.map .int))), some (.d (.lst (nm.map .str))), some (.d (.lst (ws.map .str))), some (.d (dI l)), some (.d (.int 2)), some (.m true (mPi k ((ps.map PA.en) ++ [e.en]))), x6, x7] ∧ PIv nm (ps ++ [e]) l i) 6 g (x_name 0 rfl) (.inl rfl) ⟨[], ⟨.top, [], [], 0⟩, 1, _, _, rfl, ?_⟩ ?_ ?_
    · refine ⟨fun i e hi => ?_, by decide, by show 0 + (0 + 0 + 0) + 4 ≤ _; omega, by decide⟩
      match i, hi with
      | 0, hi => cases hi; exact ⟨trivial, trivial, Nat.zero_le _, trivial, fun z => absurd rfl z, by decide, by decide⟩
      | i + 1, hi => cases hi
    · rintro i d ds1 hd1 ⟨ps, e, l, x6, x7, rfl, hI⟩
      rw [List.getElem?_map] at hd1
      cases hx : cs[i]? with
      | none => rw [hx] at hd1; cases hd1
      | some c =>
        rw [hx] at hd1
        cases hd1
        have hi : i < cs.length := (List.getElem?_eq_some_iff.mp hx).1
        have hfew := hI.few
        have hlen := hI.len
        have hlast := hI.last
        have hln : (((ps.map PA.en) ++ [e.en]).length : Int) = (ps.length : Int) + 1 := by simp
        refine b_asgX 7 (xx_call g (c_law_step hd) (by decide) (xa_cons (x_name 6 rfl) (xa_cons (x_name 1 rfl) (xa_cons (x_name 2 rfl) xa_nil))) ⟨c, nm, ws, rfl, n1, n2, w1, w2, w3, rfl⟩) ?_
        rintro _ _ ⟨⟨h, rfl, hok⟩, rfl⟩
        have goal : ∀ (ps' : List PA) (e' : PA) (l' : Nat), PIv nm (ps' ++ [e']) l' (i + 1) → (∃ (ps : List PA) (e : PA) (l : Nat) (x6 x7 : Option Ent), [some (Ent.d (.lst (cs.map .int))), some (.d (.lst (nm.map .str))), some (.d (.lst (ws.map .str))), some (.d (dI l')), some (.d (.int 2)), some (.m true (mPi k ((ps'.map PA.en) ++ [e'.en]))), some (.d (.int c)), some (.d (.tup h.l))] = [some (.d (.lst (cs.map .int))), some (.d (.lst (nm.map .str))), some (.d (.lst (ws.map .str))), some (.d (dI l)), some (.d (.int 2)), some (.m true (mPi k ((ps.map PA.en) ++ [e.en]))), x6, x7] ∧ PIv nm (ps ++ [e]) l (i + 1)) := fun ps' e' l' hI' => ⟨ps', e', l', _, _, rfl, hI'⟩
        refine b_if (t_c (q_inS g (l := ["other", "close"]) (x_ixT g (x_name 7 rfl) x_int h.at0) (x_tup (xa_cons x_str (xa_cons x_str xa_nil))))) (fun q => ?_) (fun q => ?_)
        · refine b_if (t_w (w_and (t_c (q_gt (x_lenPi g 5 rfl hd.len) x_int)) fun q1 => w_and (t_c (q_eq (x_ixT g (x_name 7 rfl) x_int h.at0) x_str rfl)) fun q2 => w_and (t_c (q_eq (x_ixT g (x_top g 5 rfl (.inl ⟨rfl, rfl⟩)) x_int (PH.at0 e.h)) x_str rfl)) fun q3 => w_and1 (t_c (q_eq (x_top g 5 rfl (.inr ⟨rfl, rfl⟩)) x_int rfl)))) (fun q1 => ?_) (fun q1 => ?_)
          · refine b_side g 5 rfl ?_
            exact b_nil (b_nil (b_nil (goal ps { e with s := 1 } l (hI.side.up (Nat.le_succ i)))))
          · refine b_if (t_c (q_gt (x_lenPi g 5 rfl hd.len) x_int)) (fun q2 => ?_) (fun q2 => ?_)
            · have q2 := of_decide_eq_true q2
              rw [hln] at q2
              obtain ⟨ps, e1, rfl⟩ : ∃ ps' e1, ps = ps' ++ [e1] := by
                rcases List.eq_nil_or_concat ps with z | ⟨l, b, z⟩
                · rw [z] at q2; exact absurd q2 (by decide)
                · exact ⟨l, b, by rw [z, List.concat_eq_append]⟩
              obtain ⟨hI2, hcl⟩ := hI.close
              have h5 := ok_init hI.ok
              have h6 := h5 ps.length e1 (by simp)
              have f2 := hI2.few
              have w1' := hI.w
              rw [pw_snoc, pw_snoc] at w1'
              have z1 := len_ns e1.a
              have z2 := len_ns e1.b
              have z3 : e1.w = Stp.ns e1.a + Stp.ns e1.b + e1.h.w := rfl
              refine b_frzTop 5 (es := (ps ++ [e1]).map PA.en) rfl ?_
              refine b_exprX (xx_callM 5 rfl g (c_close hd) (by decide) xa_nil ⟨ps.map PA.en, e1.en, e.en, e.h.l, e.h.t, by rw [List.map_append]; rfl, rfl, rfl, PH.at0 _, ?_, h6.s, ?_, ?_, rfl⟩) ?_
              · cases e.h <;> exact Nat.le_of_ble_eq_true rfl
              · show (Stp.es e1.a).length < _; rw [es_map, List.length_map]; omega
              · show (Stp.es e1.b).length < _; rw [es_map, List.length_map]; omega
              · rintro d ds2 ⟨u', ⟨rfl, rfl⟩, rfl⟩
                refine b_nil (b_nil (b_nil (b_nil ?_)))
                show ∃ (ps : List PA) (e : PA) (l : Nat) (x6 x7 : Option Ent), _ ∧ _
                rw [show putP e1.en (closeD e.h.l e.h.t e.en.a e.en.b) = (e1.put (e.h.mk e.a e.b)).en by rw [put_en]; exact congrArg _ hcl]
                exact goal ps _ l (hI2.up (Nat.le_succ i))
            · exact b_nil (b_nil (b_nil (b_nil (goal ps e l (hI.up (Nat.le_succ i))))))
        · refine b_if (t_c (q_niS g (l := ["lend", "if", "while"]) (x_ixT g (x_name 7 rfl) x_int h.at0) (x_tup (xa_cons x_str (xa_cons x_str (xa_cons x_str xa_nil)))))) (fun q2 => ?_) (fun q2 => ?_)
          · obtain ⟨p, rfl⟩ : ∃ p, h = .pl p := by
              cases h with
              | pl p => exact ⟨p, rfl⟩
              | le x y => exact absurd q2 (show ¬ (!(["lend", "if", "while"] : List PySem.Str).any (· == "lend")) = true by decide)
              | if_ b => exact absurd q2 (show ¬ (!(["lend", "if", "while"] : List PySem.Str).any (· == "if")) = true by decide)
              | wh b => exact absurd q2 (show ¬ (!(["lend", "if", "while"] : List PySem.Str).any (· == "while")) = true by decide)
              | other => exact absurd q (show ¬ ((["other", "close"] : List PySem.Str).any (· == "other")) = false by decide)
              | close => exact absurd q (show ¬ ((["other", "close"] : List PySem.Str).any (· == "close")) = false by decide)
            have hpe : Dt.tup (Hd0.pl p).l = (Stp.pl p).e := by rw [Stp.e]; rfl
            refine b_exprX (xx_callM 5 rfl g (c_put hd) (by decide) (xa_cons (x_name 7 rfl) xa_nil) ⟨ps.map PA.en, e.en, _, rfl, rfl, hlast.s, ?_, ?_, rfl⟩) ?_
            · show (Stp.es e.a).length < _; omega
            · show (Stp.es e.b).length < _; omega
            · rintro d ds2 ⟨u', ⟨rfl, rfl⟩, rfl⟩
              refine b_nil (b_nil (b_nil ?_))
              rw [hpe, ← put_en]
              exact goal ps _ l (hI.put hok)
          · refine b_if (t_w (w_and (t_c (q_le (x_lenPi g 5 rfl hd.len) (x_name 4 rfl))) fun q3 => w_and1 (t_w (w_or (t_c (q_ne (x_ixT g (x_name 7 rfl) x_int h.at0) x_str rfl)) fun q4 => w_or1 (t_c (q_gt (x_name 3 rfl) x_int)))))) (fun q3 => ?_) (fun q3 => ?_)
            · rw [Bool.and_eq_true] at q3
              have q4 := of_decide_eq_true q3.1
              have q5 := q3.2
              rw [hln] at q4
              have hlen2 : (ps ++ [e]).length ≤ 2 := by simp; omega
              refine b_asg 3 (x_sub (x_name 3 rfl) (x_intB g hd.int (x_c (q_eq (x_ixT g (x_name 7 rfl) x_int h.at0) x_str rfl)))) ?_
              refine b_pushPi g 5 rfl (x_name 7 rfl) (by simp; omega) ?_
              refine b_nil (b_nil (b_nil (b_nil ?_)))
              have fin : ∀ (gh : PH) (l' : Nat), h.l = gh.l → gh.ok nm → gh ≠ .top → gh.w + 4 * l' ≤ 4 * l + 2 → gh.nl + l' ≤ l → ((l : Int) - (if eqD (.str h.t) (.str "lend") then 1 else 0) = (l' : Int)) → (∃ (ps_1 : List PA) (e_1 : PA) (l_1 : Nat) (x6 x7 : Option Ent), [some (Ent.d (.lst (cs.map .int))), some (.d (.lst (nm.map .str))), some (.d (.lst (ws.map .str))), some (.d (.int ((l : Int) - (if eqD (.str h.t) (.str "lend") then 1 else 0)))), some (.d (.int 2)), some (.m true (mPi k (((ps.map PA.en) ++ [e.en]) ++ [⟨.tup h.l, [], [], 0⟩]))), some (.d (.int c)), some (.d (.tup h.l))] = [some (.d (.lst (cs.map .int))), some (.d (.lst (nm.map .str))), some (.d (.lst (ws.map .str))), some (.d (dI l_1)), some (.d (.int 2)), some (.m true (mPi k ((ps_1.map PA.en) ++ [e_1.en]))), x6, x7] ∧ PIv nm (ps_1 ++ [e_1]) l_1 (i + 1)) := fun gh l' e1 g1 g2 g3 g4 g5 => ⟨ps ++ [e], ⟨gh, [], [], 0⟩, l', _, _, by rw [g5, List.map_append]; show _ = [_, _, _, _, _, some (Ent.m true (mPi k (_ ++ [⟨.tup gh.l, [], [], 0⟩]))), _, _]; rw [← e1]; rfl, hI.push hlen2 g1 g2 g3 g4⟩
              cases h with
              | pl p =>
                cases p with
                | opn _ => exact absurd q2 (show ¬ (!(["lend", "if", "while"] : List PySem.Str).any (· == "open")) = false by decide)
                | act _ _ => exact absurd q2 (show ¬ (!(["lend", "if", "while"] : List PySem.Str).any (· == "do")) = false by decide)
                | cpy _ _ => exact absurd q2 (show ¬ (!(["lend", "if", "while"] : List PySem.Str).any (· == "copy")) = false by decide)
                | drp _ => exact absurd q2 (show ¬ (!(["lend", "if", "while"] : List PySem.Str).any (· == "drop")) = false by decide)
                | tie _ _ => exact absurd q2 (show ¬ (!(["lend", "if", "while"] : List PySem.Str).any (· == "tie")) = false by decide)
              | le x y =>
                have q6 : 0 < l := by
                  have : (false || decide ((0 : Int) < (l : Int))) = true := q5
                  rw [Bool.false_or] at this
                  have := of_decide_eq_true this
                  omega
                exact fin (.le x y) (l - 1) rfl hok (fun z => nomatch z) (by show 6 + _ ≤ _; omega) (by show 1 + _ ≤ _; omega) (by show (l : Int) - 1 = _; omega)
              | if_ b => exact fin (.if_ b) l rfl hok (fun z => nomatch z) (by show 2 + _ ≤ _; omega) (by show 0 + _ ≤ _; omega) (by show (l : Int) - 0 = _; omega)
              | wh b => exact fin (.wh b) l rfl hok (fun z => nomatch z) (by show 2 + _ ≤ _; omega) (by show 0 + _ ≤ _; omega) (by show (l : Int) - 0 = _; omega)
              | other => exact absurd q (show ¬ ((["other", "close"] : List PySem.Str).any (· == "other")) = false by decide)
              | close => exact absurd q (show ¬ ((["other", "close"] : List PySem.Str).any (· == "close")) = false by decide)
            · exact b_nil (b_nil (b_nil (b_nil (goal ps e l (hI.up (Nat.le_succ i))))))
    · rintro ds1 ⟨ps, e, l, x6, x7, rfl, hI⟩
      rw [List.length_map] at hI
      refine b_whileT (fun m ds2 => ∃ (ps : List PA) (e : PA), m = ps.length ∧ ds2 = [some (.d (.lst (cs.map .int))), some (.d (.lst (nm.map .str))), some (.d (.lst (ws.map .str))), some (.d (dI l)), some (.d (.int 2)), some (.m true (mPi k ((ps.map PA.en) ++ [e.en]))), x6, x7] ∧ PIv nm (ps ++ [e]) l cs.length) ps.length ⟨ps, e, rfl, rfl, hI⟩ ?_
      rintro m ds2 ⟨ps, e, rfl, rfl, hI⟩
      have hln : (((ps.map PA.en) ++ [e.en]).length : Int) = (ps.length : Int) + 1 := by simp
      refine ⟨_, t_c (q_gt (x_lenPi g 5 rfl hd.len) x_int), fun q => ?_, fun q => ?_⟩
      · have q2 := of_decide_eq_true q
        rw [hln] at q2
        obtain ⟨ps, e1, rfl⟩ : ∃ ps' e1, ps = ps' ++ [e1] := by
          rcases List.eq_nil_or_concat ps with z | ⟨l, b, z⟩
          · rw [z] at q2; exact absurd q2 (by decide)
          · exact ⟨l, b, by rw [z, List.concat_eq_append]⟩
        obtain ⟨hI2, hcl⟩ := hI.close
        have h6 := ok_init hI.ok ps.length e1 (by simp)
        have w1' := hI.w
        rw [pw_snoc, pw_snoc] at w1'
        have z1 := len_ns e1.a
        have z2 := len_ns e1.b
        have z3 : e1.w = Stp.ns e1.a + Stp.ns e1.b + e1.h.w := rfl
        refine b_frzTop 5 (es := (ps ++ [e1]).map PA.en) rfl ?_
        refine b_exprX (xx_callM 5 rfl g (c_close hd) (by decide) xa_nil ⟨ps.map PA.en, e1.en, e.en, e.h.l, e.h.t, by rw [List.map_append]; rfl, rfl, rfl, PH.at0 _, ?_, h6.s, ?_, ?_, rfl⟩) ?_
        · cases e.h <;> exact Nat.le_of_ble_eq_true rfl
        · show (Stp.es e1.a).length < _; rw [es_map, List.length_map]; omega
        · show (Stp.es e1.b).length < _; rw [es_map, List.length_map]; omega
        · rintro d ds2 ⟨u', ⟨rfl, rfl⟩, rfl⟩
          refine b_nil ⟨ps.length, by simp, ps, e1.put (e.h.mk e.a e.b), rfl, ?_, hI2⟩
          rw [put_en, ← hcl]
          rfl
      · have q2 := of_decide_eq_false q
        rw [hln] at q2
        have hps : ps = [] := by
          cases ps with
          | nil => rfl
          | cons x r => rw [List.length_cons] at q2; omega
        subst hps
        have h1 := hI.last
        have h2 := hI.w
        have h3 := hI.nl
        rw [List.nil_append] at h2 h3
        have z3 : pw [e] = Stp.ns e.a + Stp.ns e.b + e.h.w := by simp [pw, PA.w]
        have z4 : pnl [e] = Stp.nls e.a + Stp.nls e.b + e.h.nl := by simp [pnl, PA.nl]
        have h5 := h1.ha
        refine b_frzTop 5 (es := []) rfl (b_ret (x_pi0 g 5 rfl) ⟨e.a, rfl, h1.a, by omega, by omega, by omega⟩)
end
end Uw
end
section
set_option Elab.async false
set_option linter.all false
set_option maxRecDepth 100000
set_option maxHeartbeats 4000000
namespace Uw
open PySem PySem.Spec PyProof.Rows L2 Evl
section
variable {k : Kw}
/-- what the law makes of a rule -/
structure Rule.fine (rl : Rule) : Prop where
  ok : rl.ok
  str : ∀ t ∈ rl.texts, PyData.strOk t = true
  few : rl.texts.length ≤ 100
def F_law_rule : List Dt → (Dt → Prop) → Prop := fun ds R => ∃ (cs : List Int) (ws : List PySem.Str), ds = [.lst (cs.map .int), .int 2, .lst (ws.map .str), .int 3] ∧ cs.length = 6 ∧ ws.length ≤ 10 ∧ (∀ w ∈ ws, Wd w) ∧ R = fun d => ∃ rl : Rule, d = rl.e ∧ rl.fine
theorem strOk_cat {a b : PySem.Str} (ha : PyData.strOk a = true) (hb : PyData.strOk b = true) : PyData.strOk (a ++ b) = true := by
  have e : (a ++ b).cps.toList = a.cps.toList ++ b.cps.toList := by
    have := congrArg TL.tl (SX.S_cat (a := a.cps.toList) (b := b.cps.toList))
    rw [SX.S_tl, SX.S_tl] at this
    exact this
  unfold PyData.strOk at ha hb ⊢
  rw [← Array.all_toList] at ha hb ⊢
  rw [e, List.all_append, ha, hb]; rfl
theorem strOk_pre {w : PySem.Str} (h : Wd w) : PyData.strOk (("1." : PySem.Str) ++ w) = true ∧ PyData.strOk (("2." : PySem.Str) ++ w) = true := ⟨strOk_cat (by decide +kernel) h.2.2, strOk_cat (by decide +kernel) h.2.2⟩
theorem c_law_rule (hd : Hd k) : CalK k 1 "_law_rule" (spP k F_law_rule) := by
  refine defP (N := ["_law_cells", "_law_sides", "_law_words_here", "_law_most", "_law_texts", "_law_k", "_law_bits", "_law_many", "_law_share", "_law_rooms", "_law_rest", "_law_room", "_law_text", "_law_digit"]) (ps := ["_law_cells", "_law_sides", "_law_words_here", "_law_most"]) (st := s_law_rule) (hd.def_ 38 34 93 rfl rfl rfl) (fun _ _ _ _ _ _ us hl => match us, hl with | [_, _, _, _], _ => rfl) (by decide +kernel) (fun ds R h => ?_) (fun f cdv A outer s H E g ds R h => ?_)
  · obtain ⟨cs, ws, rfl, _⟩ := h; rfl
  · obtain ⟨cs, ws, rfl, hc, hw, hwd, rfl⟩ := h
    obtain ⟨c0, c1, c2, c3, c4, c5, rfl⟩ : ∃ c0 c1 c2 c3 c4 c5, cs = [c0, c1, c2, c3, c4, c5] := by
      match cs, hc with
      | [c0, c1, c2, c3, c4, c5], _ => exact ⟨_, _, _, _, _, _, rfl⟩
    refine b_new 4 xa_nil ?_
    have hb0 : ∀ x : Int, 0 ≤ x → True := fun _ _ => trivial
    refine b_forR (fun i ds1 => ∃ (ts : List PySem.Str) (x5 x6 x7 x8 x9 x10 x11 x12 x13 : Option Ent), ds1 = [some (.d (.lst ([c0, c1, c2, c3, c4, c5].map .int))), some (.d (.int 2)), some (.d (.lst (ws.map .str))), some (.d (.int 3)), some (.m true (mL k (ts.map .str))), x5, x6, x7, x8, x9, x10, x11, x12, x13] ∧ ts.length ≤ 2 * i ∧ ∀ t ∈ ts, PyData.strOk t = true) (n := (ws.map Dt.str).length) g 5 hd.range (x_len g hd.len (x_name 2 rfl) rfl) (by rw [List.length_map]; omega) ⟨[], _, _, _, _, _, _, _, _, _, rfl, Nat.le_refl _, fun t h => by cases h⟩ ?_ ?_
    · rintro i ds1 hi ⟨ts, x5, x6, x7, x8, x9, x10, x11, x12, x13, rfl, hl, hs⟩
      rw [List.length_map] at hi
      have hwi : atI (ws.map Dt.str) (i : Int) = some (.str ws[i]) := atI_nat (by rw [List.getElem?_map, List.getElem?_eq_getElem hi]; rfl)
      have hwo := hwd _ (List.getElem_mem hi)
      have hwl := hwo.2.1
      refine b_asg 6 (x_shr (x_mod (x_ixL g (x_name 0 rfl) x_int rfl) x_int (by decide)) (x_name 5 rfl) (by omega)) ?_
      refine b_ifF0 (t_w (w_and (t_c (q_eq (x_name 1 rfl) x_int rfl)) fun _ => (w_and1 (t_c (q_eq (x_band (x_name 6 rfl) x_int) x_int rfl))))) ?_
      have step2 : ∀ (ts : List PySem.Str), ts.length ≤ 2 * i + 1 → (∀ t ∈ ts, PyData.strOk t = true) → True := fun _ _ _ => trivial
      refine b_if (t_w (w_and (t_c (q_eq (x_name 1 rfl) x_int rfl)) fun _ => (w_and1 (t_c (q_eq (x_band (x_name 6 rfl) x_int) x_int rfl))))) (fun q => ?_) (fun q => ?_)
      · refine b_app 4 rfl g (x_adds x_str (x_ixL g (x_name 2 rfl) (x_name 5 rfl) hwi) (by show 2 + _ ≤ _; omega)) ?_ (by rw [List.length_map]; omega)
        refine b_nil ?_
        refine b_if (t_w (w_and (t_c (q_eq (x_name 1 rfl) x_int rfl)) fun _ => (w_and1 (t_c (q_eq (x_band (x_shr (x_name 6 rfl) x_int (by decide)) x_int) x_int rfl))))) (fun q => ?_) (fun q => ?_)
        · refine b_app 4 rfl g (x_adds x_str (x_ixL g (x_name 2 rfl) (x_name 5 rfl) hwi) (by show 2 + _ ≤ _; omega)) ?_ (by rw [List.length_append, List.length_map, List.length_cons, List.length_nil]; omega)
          refine b_nil (b_nil ⟨ts ++ ["1." ++ ws[i]] ++ ["2." ++ ws[i]], _, _, _, _, _, _, _, _, _, by rw [List.map_append, List.map_append]; rfl, by simp only [List.length_append, List.length_cons, List.length_nil]; omega, fun t ht => ?_⟩)
          simp only [List.mem_append, List.mem_singleton] at ht
          rcases ht with (z | z) | z
          · exact hs t z
          · rw [z]; exact (strOk_pre hwo).1
          · rw [z]; exact (strOk_pre hwo).2
        · refine b_nil (b_nil ⟨ts ++ ["1." ++ ws[i]], _, _, _, _, _, _, _, _, _, by rw [List.map_append]; rfl, by simp only [List.length_append, List.length_cons, List.length_nil]; omega, fun t ht => ?_⟩)
          simp only [List.mem_append, List.mem_singleton] at ht
          rcases ht with z | z
          · exact hs t z
          · rw [z]; exact (strOk_pre hwo).1
      · refine b_nil ?_
        refine b_if (t_w (w_and (t_c (q_eq (x_name 1 rfl) x_int rfl)) fun _ => (w_and1 (t_c (q_eq (x_band (x_shr (x_name 6 rfl) x_int (by decide)) x_int) x_int rfl))))) (fun q => ?_) (fun q => ?_)
        · refine b_app 4 rfl g (x_adds x_str (x_ixL g (x_name 2 rfl) (x_name 5 rfl) hwi) (by show 2 + _ ≤ _; omega)) ?_ (by rw [List.length_map]; omega)
          refine b_nil (b_nil ⟨ts ++ ["2." ++ ws[i]], _, _, _, _, _, _, _, _, _, by rw [List.map_append]; rfl, by simp only [List.length_append, List.length_cons, List.length_nil]; omega, fun t ht => ?_⟩)
          simp only [List.mem_append, List.mem_singleton] at ht
          rcases ht with z | z
          · exact hs t z
          · rw [z]; exact (strOk_pre hwo).2
        · exact b_nil (b_nil ⟨ts, _, _, _, _, _, _, _, _, _, rfl, by omega, hs⟩)
    · rintro ds1 ⟨ts, x5, x6, x7, x8, x9, x10, x11, x12, x13, rfl, hl, hs⟩
      rw [List.length_map] at hl
      refine b_frz 4 rfl ?_
      refine b_asgX 4 (xx_sortSetK (eD := Dt.str) (l := ts) g ksStr (fun x H => .str x) (fun xs l H r => r.strs) hd.sorted hd.set (x_name 4 rfl) (by omega)) ?_
      rintro d _ ⟨rfl, l', rfl, h1, h2⟩
      have hs' : ∀ t ∈ l', PyData.strOk t = true := fun t ht => hs t ((h1 t).mp ht)
      refine b_asg 7 (x_add x_int (x_mod (x_ixL g (x_name 0 rfl) x_int rfl) (x_name 3 rfl) (by decide))) ?_
      have sh : ∃ z : Int, 0 < z ∧ z ≤ 11 ∧ atI ([2, 3, 5, 11].map Dt.int) (c1 / 64 % 4) = some (.int z) := by
        obtain ⟨n, hn⟩ : ∃ n : Nat, c1 / 64 % 4 = (n : Int) := ⟨(c1 / 64 % 4).toNat, by omega⟩
        have : n < 4 := by omega
        rw [hn]
        match n, this with
        | 0, _ => exact ⟨2, by decide, by decide, rfl⟩
        | 1, _ => exact ⟨3, by decide, by decide, rfl⟩
        | 2, _ => exact ⟨5, by decide, by decide, rfl⟩
        | 3, _ => exact ⟨11, by decide, by decide, rfl⟩
        | n + 4, h => exact absurd h (by omega)
      obtain ⟨z, z0, z1, hz⟩ := sh
      refine b_asg 8 (x_ixL (d := .int z) g (x_lst (xa_cons x_int (xa_cons x_int (xa_cons x_int (xa_cons x_int xa_nil))))) (x_mod (x_div (x_ixL g (x_name 0 rfl) x_int rfl) x_int ⟨by decide, by decide⟩) x_int (by decide)) hz) ?_
      obtain ⟨m, hm⟩ : ∃ m : Nat, 1 + c1 % 3 = (m : Int) := ⟨(1 + c1 % 3).toNat, by omega⟩
      have m0 : 0 < m := by omega
      have m3 : m ≤ 3 := by omega
      rw [hm]
      refine b_new 9 xa_nil ?_
      refine b_forR (fun i ds1 => ∃ (rs : List (List (Option Nat))) (x5 x6 x10 x11 x12 x13 : Option Ent), ds1 = [some (.d (.lst ([c0, c1, c2, c3, c4, c5].map .int))), some (.d (.int 2)), some (.d (.lst (ws.map .str))), some (.d (.int 3)), some (.d (.lst (l'.map .str))), x5, x6, some (.d (dI m)), some (.d (.int z)), some (.m true (mL k (rs.map fun r => .lst (r.map oD)))), x10, x11, x12, x13] ∧ rs.length = i ∧ ∀ r ∈ rs, r.length = l'.length ∧ ∀ n, some n ∈ r → n < m) (n := m) g 5 hd.range (x_name 7 rfl) (by omega) ⟨[], _, _, _, _, _, _, rfl, rfl, fun t h => by cases h⟩ ?_ ?_
      · rintro i ds1 hi ⟨rs, x5, x6, x10, x11, x12, x13, rfl, hrl, hrs⟩
        have hcell : ∃ c : Int, atI ([c0, c1, c2, c3, c4, c5].map Dt.int) (2 + (i : Int) % 4) = some (.int c) := by
          match i, show i < 3 by omega with
          | 0, _ => exact ⟨c2, rfl⟩
          | 1, _ => exact ⟨c3, rfl⟩
          | 2, _ => exact ⟨c4, rfl⟩
          | n + 3, h => exact absurd h (by omega)
        obtain ⟨c, hcell⟩ := hcell
        have hmul : CMul 10 (i : Int) ∧ CMul c (48271 + 10 * (i : Int)) := by
          match i, show i < 3 by omega with
          | 0, _ => exact ⟨.inl (by decide), .inr (by decide)⟩
          | 1, _ => exact ⟨.inl (by decide), .inr (by decide)⟩
          | 2, _ => exact ⟨.inl (by decide), .inr (by decide)⟩
          | n + 3, h => exact absurd h (by omega)
        refine b_asg 10 (x_mod (x_mulS (x_ixL (d := .int c) g (x_name 0 rfl) (x_add x_int (x_mod (x_name 5 rfl) x_int (by decide))) hcell) (x_add x_int (x_mulS x_int (x_name 5 rfl) hmul.1)) hmul.2) (x_pow x_int x_int ⟨by decide, by decide, by decide⟩) (by decide)) ?_
        generalize c * (48271 + 10 * (i : Int)) % 10 ^ (36 : Int).toNat = rest0
        refine b_new 11 xa_nil ?_
        refine b_forD (l := l'.map .str) (fun j ds1 => ∃ (r : List (Option Nat)) (y : Int) (x12 x13 : Option Ent), ds1 = [some (.d (.lst ([c0, c1, c2, c3, c4, c5].map .int))), some (.d (.int 2)), some (.d (.lst (ws.map .str))), some (.d (.int 3)), some (.d (.lst (l'.map .str))), some (.d (dI i)), x6, some (.d (dI m)), some (.d (.int z)), some (.m true (mL k (rs.map fun r => .lst (r.map oD)))), some (.d (.int y)), some (.m true (mL k (r.map oD))), x12, x13] ∧ r.length = j ∧ ∀ n, some n ∈ r → n < m) 12 g (x_name 4 rfl) (.inl rfl) ⟨[], _, _, _, rfl, rfl, fun n h => by cases h⟩ ?_ ?_
        · rintro j d ds1 hd1 ⟨r, y, x12, x13, rfl, hr1, hr2⟩
          have hj : j < l'.length := by
            have := (List.getElem?_eq_some_iff.mp hd1).1
            rwa [List.length_map] at this
          have zlog : 0 < z ∧ z.natAbs.log2 < 9000 := ⟨z0, by
            have : z.natAbs < 2 ^ 9000 := Nat.lt_of_le_of_lt (show z.natAbs ≤ 2 ^ 4 by omega) (Nat.pow_lt_pow_right (by decide) (by decide))
            exact (Nat.log2_lt (by omega)).mpr this⟩
          refine b_asg 13 (x_mod (x_name 10 rfl) x_int (by decide)) ?_
          refine b_asg 10 (x_div (x_name 10 rfl) x_int ⟨by decide, by decide⟩) ?_
          refine b_if (t_c (q_eq (x_mod (x_name 13 rfl) (x_name 8 rfl) z0) x_int rfl)) (fun q => ?_) (fun q => ?_)
          · refine b_app 11 rfl g x_non ?_ (by rw [List.length_map]; omega)
            refine b_nil (b_nil ⟨r ++ [none], _, _, _, by rw [List.map_append]; rfl, by simp [hr1], fun n hn => ?_⟩)
            rcases List.mem_append.mp hn with w | w
            · exact hr2 n w
            · exact nomatch List.mem_singleton.mp w
          · have hv1 := Int.emod_nonneg (y % 1000 / z) (show (m : Int) ≠ 0 by omega)
            have hv2 := Int.emod_lt_of_pos (y % 1000 / z) (show (0 : Int) < (m : Int) by omega)
            obtain ⟨v, hv⟩ : ∃ v : Nat, y % 1000 / z % (m : Int) = (v : Int) := ⟨(y % 1000 / z % (m : Int)).toNat, by omega⟩
            refine b_app 11 rfl g (x_mod (x_div (x_name 13 rfl) (x_name 8 rfl) zlog) (x_name 7 rfl) (by omega)) ?_ (by rw [List.length_map]; omega)
            rw [hv]
            refine b_nil (b_nil ⟨r ++ [some v], _, _, _, by rw [List.map_append]; rfl, by simp [hr1], fun n hn => ?_⟩)
            rcases List.mem_append.mp hn with w | w
            · exact hr2 n w
            · cases List.mem_singleton.mp w; omega
        · rintro ds1 ⟨r, y, x12, x13, rfl, hr1, hr2⟩
          rw [List.length_map] at hr1
          refine b_frz 11 rfl ?_
          refine b_app 9 rfl g (x_name 11 rfl) ?_ (by rw [List.length_map]; omega)
          refine b_nil ⟨rs ++ [r], _, _, _, _, _, _, by rw [List.map_append]; rfl, by simp [hrl], fun r' hr' => ?_⟩
          rcases List.mem_append.mp hr' with w | w
          · exact hrs r' w
          · rw [List.mem_singleton.mp w]; exact ⟨hr1, hr2⟩
      · rintro ds1 ⟨rs, x5, x6, x10, x11, x12, x13, rfl, hrl, hrs⟩
        refine b_frz 9 rfl (b_ret (x_tup (xa_cons (x_name 1 rfl) (xa_cons (x_name 4 rfl) (xa_cons (x_name 9 rfl) xa_nil)))) ⟨⟨l', rs⟩, rfl, ⟨by show 0 < rs.length; omega, by show rs.length ≤ 3; omega, fun r hr => (hrs r hr).1, fun r hr n hn => by show n < rs.length; rw [hrl]; exact (hrs r hr).2 n hn⟩, hs', by show l'.length ≤ 100; omega⟩)
end
end Uw
end
section
set_option Elab.async false
set_option linter.all false
set_option maxRecDepth 100000
set_option maxHeartbeats 4000000
namespace Uw
open PySem PySem.Spec PyProof.Rows L2 Evl
section
variable {k : Kw}
theorem c_law_next (hd : Hd k) : CalK k 1 "_law_next" (spP k F_next_room) := by
  refine defP (N := ["_law_rule_here", "_law_room", "_law_text"]) (ps := ["_law_rule_here", "_law_room", "_law_text"]) (st := s_law_next) (hd.def_ 40 36 95 rfl rfl rfl) (fun _ _ _ _ _ _ us hl => match us, hl with | [_, _, _], _ => rfl) (by decide +kernel) (fun ds R h => ?_) (fun f cdv A outer s H E g ds R h => ?_)
  · obtain ⟨rl, room, w, rfl, _⟩ := h; rfl
  · obtain ⟨rl, room, w, rfl, ok, hr, rfl⟩ := h
    refine b_if (t_c (q_niS g (x_name 2 rfl) (x_ixT g (x_name 0 rfl) x_int rfl))) (fun h => ?_) (fun h => ?_)
    · refine b_ret (x_name 1 rfl) ?_
      have hw : w ∉ rl.texts := fun z => by
        have : rl.texts.any (· == w) = true := List.any_eq_true.mpr ⟨w, z, by simp⟩
        rw [this] at h; cases h
      show _ = _
      rw [nextR, if_neg hw]; rfl
    refine b_nil ?_
    have hw : w ∈ rl.texts := by
      have h' : rl.texts.any (· == w) = true := by
        cases q : rl.texts.any (· == w) with
        | true => rfl
        | false => rw [q] at h; cases h
      obtain ⟨x, hx, e⟩ := List.any_eq_true.mp h'
      rw [← (beq_iff_eq.mp e)]; exact hx
    have hl : (rl.rooms[room]).length = rl.texts.length := ok.len _ (List.getElem_mem hr)
    have hi : ixOf w rl.texts < rl.texts.length := (List.getElem?_eq_some_iff.mp (ixOf_at hw).1).1
    refine b_ret (x_ixL (d := oD (nextR rl room w)) g (x_ixL (d := .lst ((rl.rooms[room]).map oD)) g (x_ixT g (x_name 0 rfl) x_int rfl) (x_name 1 rfl) ?_) (x_m_index g (x_ixT g (x_name 0 rfl) x_int rfl) (x_name 2 rfl) hw) ?_) rfl
    · exact atI_nat (by rw [List.getElem?_map, List.getElem?_eq_getElem hr]; rfl)
    · refine atI_nat ?_
      rw [List.getElem?_map, List.getElem?_eq_getElem (by rw [hl]; exact hi), nextR, if_pos hw]
      have e : rl.rooms.getD room [] = rl.rooms[room] := by rw [List.getD_eq_getElem?_getD, List.getElem?_eq_getElem hr]; rfl
      rw [e, List.getD_eq_getElem?_getD, List.getElem?_eq_getElem (by rw [hl]; exact hi)]; rfl
/-- slots below m -/
def Row.inS (m : Nat) : Row → Prop
  | .opn _ s | .act _ s _ | .drp _ s => s < m
  | .cpy _ s t | .tie _ s t => s < m ∧ t < m
  | _ => True
theorem Row.inS.mono {m n : Nat} (h : m ≤ n) {r : Row} (hr : r.inS m) : r.inS n := by
  cases r <;> simp only [Row.inS] at hr ⊢ <;> omega
def slN1 (m : Nat) : Row → Nat
  | .opn _ s | .act _ s _ | .drp _ s => max m (s + 1)
  | .cpy _ s t | .tie _ s t => max m (max (s + 1) (t + 1))
  | _ => m
def slN (code : List Row) : Nat := code.foldl slN1 0
theorem slN1_le {m : Nat} {r : Row} (hr : r.ok) (hm : m ≤ 3) : slN1 m r ≤ 3 := by
  cases r <;> simp only [slN1, Row.ok] at hr ⊢ <;> omega
theorem slN1_ge {m : Nat} {r : Row} : m ≤ slN1 m r ∧ r.inS (slN1 m r) := by
  cases r <;> first | exact ⟨Nat.le_refl _, trivial⟩ | (simp only [slN1, Row.inS]; omega)
theorem slN_snoc (code : List Row) (r : Row) : slN (code ++ [r]) = slN1 (slN code) r := by rw [slN, slN, List.foldl_append]; rfl
theorem slN_take {code : List Row} {i : Nat} {r : Row} (h : code[i]? = some r) : slN (code.take (i + 1)) = slN1 (slN (code.take i)) r := by
  rw [List.take_add_one, h]; exact slN_snoc _ _
theorem slN_ok : ∀ (n : Nat) (code : List Row), code.length = n → (∀ r ∈ code, r.ok) → slN code ≤ 3 ∧ ∀ r ∈ code, r.inS (slN code)
  | 0, code, h, _ => by
    have : code = [] := List.eq_nil_of_length_eq_zero h
    subst this
    exact ⟨Nat.zero_le _, fun r h => absurd h List.not_mem_nil⟩
  | n + 1, code, h, ok => by
    rcases List.eq_nil_or_concat code with z | ⟨l, b, z⟩
    · rw [z] at h; cases h
    · rw [List.concat_eq_append] at z
      subst z
      have hl : l.length = n := by simp at h; exact h
      obtain ⟨h1, h2⟩ := slN_ok n l hl fun r hr => ok r (List.mem_append_left _ hr)
      rw [slN_snoc]
      refine ⟨slN1_le (ok b (by simp)) h1, fun r hr => ?_⟩
      rcases List.mem_append.mp hr with w | w
      · exact (h2 r w).mono slN1_ge.1
      · rw [List.mem_singleton.mp w]; exact slN1_ge.2
def F_law_slots : List Dt → (Dt → Prop) → Prop := fun ds R => ∃ code : List Row, ds = [codeD code] ∧ R = fun d => d = dI (slN code)
theorem c_law_slots (hd : Hd k) : CalK k 1 "_law_slots" (spP k F_law_slots) := by
  refine defP (N := ["_law_code_here", "_law_most", "_law_row"]) (ps := ["_law_code_here"]) (st := s_law_slots) (hd.def_ 39 35 94 rfl rfl rfl) (fun _ _ _ _ _ _ us hl => match us, hl with | [_], _ => rfl) (by decide +kernel) (fun ds R h => ?_) (fun f cdv A outer s H E g ds R h => ?_)
  · obtain ⟨code, rfl, _⟩ := h; rfl
  · obtain ⟨code, rfl, rfl⟩ := h
    refine b_asg 1 x_int ?_
    refine b_forD (l := code.map Row.e) (fun i ds1 => ∃ (x2 : Option Ent), ds1 = [some (.d (codeD code)), some (.d (dI (slN (code.take i)))), x2]) 2 g (x_name 0 rfl) (.inl rfl) ⟨_, rfl⟩ ?_ ?_
    · rintro i d ds1 hd1 ⟨x2, rfl⟩
      rw [List.getElem?_map] at hd1
      cases hx : code[i]? with
      | none => rw [hx] at hd1; cases hd1
      | some r =>
        rw [hx] at hd1
        cases hd1
        rw [slN_take hx]
        generalize slN (code.take i) = m
        have one : ∀ s : Nat, (if (s : Int) + 1 > (m : Int) then (s : Int) + 1 else (m : Int)) = ((max m (s + 1) : Nat) : Int) := fun s => by split <;> omega
        have two : ∀ s t : Nat, (if (s : Int) + 1 > (m : Int) then (if (t : Int) + 1 > (s : Int) + 1 then (t : Int) + 1 else (s : Int) + 1) else (if (t : Int) + 1 > (m : Int) then (t : Int) + 1 else (m : Int))) = ((max m (max (s + 1) (t + 1)) : Nat) : Int) := fun s t => by split <;> split <;> omega
        cases r
        case opn l s =>
          refine b_ifT (t_c (q_inS g (l := ["open", "do", "drop"]) (x_ixT g (x_name 2 rfl) x_int rfl) (x_tup (xa_cons x_str (xa_cons x_str (xa_cons x_str xa_nil)))))) ?_
          refine b_asg 1 (x_max2 g hd.max (xa_cons (x_name 1 rfl) (xa_cons (x_add (x_ixT g (x_name 2 rfl) x_int rfl) x_int) xa_nil))) ?_
          rw [one]
          refine b_nil (b_ifF0 (t_c (q_inS g (l := ["copy", "tie"]) (x_ixT g (x_name 2 rfl) x_int rfl) (x_tup (xa_cons x_str (xa_cons x_str xa_nil))))) (b_nil ⟨_, rfl⟩))
        case act l s w =>
          refine b_ifT (t_c (q_inS g (l := ["open", "do", "drop"]) (x_ixT g (x_name 2 rfl) x_int rfl) (x_tup (xa_cons x_str (xa_cons x_str (xa_cons x_str xa_nil)))))) ?_
          refine b_asg 1 (x_max2 g hd.max (xa_cons (x_name 1 rfl) (xa_cons (x_add (x_ixT g (x_name 2 rfl) x_int rfl) x_int) xa_nil))) ?_
          rw [one]
          refine b_nil (b_ifF0 (t_c (q_inS g (l := ["copy", "tie"]) (x_ixT g (x_name 2 rfl) x_int rfl) (x_tup (xa_cons x_str (xa_cons x_str xa_nil))))) (b_nil ⟨_, rfl⟩))
        case drp l s =>
          refine b_ifT (t_c (q_inS g (l := ["open", "do", "drop"]) (x_ixT g (x_name 2 rfl) x_int rfl) (x_tup (xa_cons x_str (xa_cons x_str (xa_cons x_str xa_nil)))))) ?_
          refine b_asg 1 (x_max2 g hd.max (xa_cons (x_name 1 rfl) (xa_cons (x_add (x_ixT g (x_name 2 rfl) x_int rfl) x_int) xa_nil))) ?_
          rw [one]
          refine b_nil (b_ifF0 (t_c (q_inS g (l := ["copy", "tie"]) (x_ixT g (x_name 2 rfl) x_int rfl) (x_tup (xa_cons x_str (xa_cons x_str xa_nil))))) (b_nil ⟨_, rfl⟩))
        case cpy l s t =>
          refine b_ifF0 (t_c (q_inS g (l := ["open", "do", "drop"]) (x_ixT g (x_name 2 rfl) x_int rfl) (x_tup (xa_cons x_str (xa_cons x_str (xa_cons x_str xa_nil)))))) ?_
          refine b_ifT (t_c (q_inS g (l := ["copy", "tie"]) (x_ixT g (x_name 2 rfl) x_int rfl) (x_tup (xa_cons x_str (xa_cons x_str xa_nil))))) ?_
          refine b_asg 1 (x_max3 g hd.max (xa_cons (x_name 1 rfl) (xa_cons (x_add (x_ixT g (x_name 2 rfl) x_int rfl) x_int) (xa_cons (x_add (x_ixT g (x_name 2 rfl) x_int rfl) x_int) xa_nil)))) ?_
          rw [two]
          exact b_nil (b_nil ⟨_, rfl⟩)
        case tie l s t =>
          refine b_ifF0 (t_c (q_inS g (l := ["open", "do", "drop"]) (x_ixT g (x_name 2 rfl) x_int rfl) (x_tup (xa_cons x_str (xa_cons x_str (xa_cons x_str xa_nil)))))) ?_
          refine b_ifT (t_c (q_inS g (l := ["copy", "tie"]) (x_ixT g (x_name 2 rfl) x_int rfl) (x_tup (xa_cons x_str (xa_cons x_str xa_nil))))) ?_
          refine b_asg 1 (x_max3 g hd.max (xa_cons (x_name 1 rfl) (xa_cons (x_add (x_ixT g (x_name 2 rfl) x_int rfl) x_int) (xa_cons (x_add (x_ixT g (x_name 2 rfl) x_int rfl) x_int) xa_nil)))) ?_
          rw [two]
          exact b_nil (b_nil ⟨_, rfl⟩)
        all_goals
          refine b_ifF0 (t_c (q_inS g (l := ["open", "do", "drop"]) (x_ixT g (x_name 2 rfl) x_int rfl) (x_tup (xa_cons x_str (xa_cons x_str (xa_cons x_str xa_nil)))))) ?_
          refine b_ifF0 (t_c (q_inS g (l := ["copy", "tie"]) (x_ixT g (x_name 2 rfl) x_int rfl) (x_tup (xa_cons x_str (xa_cons x_str xa_nil))))) ?_
          exact b_nil ⟨_, rfl⟩
    · rintro ds1 ⟨x2, rfl⟩
      refine b_ret (x_name 1 rfl) ?_
      rw [List.take_of_length_le (by rw [List.length_map]; exact Nat.le_refl _)]
      rfl
end
end Uw
end
section
set_option Elab.async false
set_option linter.all false
set_option maxRecDepth 100000
set_option maxHeartbeats 4000000
namespace Uw
open PySem PySem.Spec PyProof.Rows L2 Evl
section
variable {k : Kw}
def F_law_code : List Dt → (Dt → Prop) → Prop := fun ds R => ∃ (cs : List Int) (a b : Int) (ws : List PySem.Str), ds = [.lst (cs.map .int), .int a, .int b, .int 2, .lst (ws.map .str)] ∧ cs.length ≤ 12 ∧ 0 < ws.length ∧ ws.length ≤ 10 ∧ (∀ w ∈ ws, Wd w) ∧ R = CodR
theorem c_law_code (hd : Hd k) : CalK k 13 "_law_code" (spP k F_law_code) := by
  refine defP (N := ["_law_cells", "_law_first", "_law_second", "_law_sides", "_law_words_here", "_law_names", "_law_program_here", "_law_name"]) (ps := ["_law_cells", "_law_first", "_law_second", "_law_sides", "_law_words_here"]) (st := s_law_code) (hd.def_ 41 37 96 rfl rfl rfl) (fun _ _ _ _ _ _ us hl => match us, hl with | [_, _, _, _, _], _ => rfl) (by decide +kernel) (fun ds R h => ?_) (fun f cdv A outer s H E g ds R h => ?_)
  · obtain ⟨cs, a, b, ws, rfl, _⟩ := h; rfl
  · obtain ⟨cs, a, b, ws, rfl, hc, w1, w2, w3, rfl⟩ := h
    refine b_asgX 5 (xx_call g (c_words hd) (by decide) (xa_cons (x_div (x_name 1 rfl) x_int ⟨by decide, by decide⟩) (xa_cons (x_ixL (d := .int 2) g (x_lst (xa_cons (x_add x_int (x_mod (x_name 1 rfl) x_int (by decide))) (xa_cons x_int xa_nil))) (x_sub (x_name 3 rfl) x_int) rfl) xa_nil)) ⟨a / 8, 2, rfl, by decide, rfl⟩) ?_
    rintro _ _ ⟨⟨nm, rfl, hn, hnw⟩, rfl⟩
    obtain ⟨x, y, rfl⟩ : ∃ x y, nm = [x, y] := by
      match nm, hn with
      | [x, y], _ => exact ⟨x, y, rfl⟩
    refine b_asgX 6 (xx_call g (c_law_program hd) (by decide) (xa_cons (x_name 0 rfl) (xa_cons (x_name 5 rfl) (xa_cons (x_name 4 rfl) (xa_cons (x_sub x_int (x_name 3 rfl)) (xa_cons x_int xa_nil))))) ⟨cs, [x, y], ws, rfl, hc, Nat.le_of_ble_eq_true rfl, Nat.le_of_ble_eq_true rfl, w1, w2, w3, rfl⟩) ?_
    rintro _ _ ⟨⟨l, rfl, l1, l2, l3, l4⟩, rfl⟩
    have hx : x ∈ [x, y] := List.mem_cons_self
    have hy : y ∈ [x, y] := List.mem_cons_of_mem _ List.mem_cons_self
    have po : ProgOk l [x, y] := ⟨l1, hnw, l2, l3, by omega, rfl⟩
    have po2 : ProgOk (.pl (.opn x) :: .pl (.opn y) :: .pl (.tie x y) :: l) [x, y] := ⟨by
      rw [Stp.oks, Stp.oks, Stp.oks, Stp.ok, Stp.ok, Stp.ok]; exact ⟨hx, hy, ⟨hx, hy⟩, l1⟩, hnw, by rw [Stp.hts, Stp.hts, Stp.hts, Stp.ht, Stp.ht, Stp.ht]; omega, by rw [Stp.nls, Stp.nls, Stp.nls, Stp.nl, Stp.nl, Stp.nl]; omega, by rw [Stp.ns, Stp.ns, Stp.ns, Stp.n, Stp.n, Stp.n]; omega, rfl⟩
    have ell : (Stp.es l).length ≤ 28 := by
      have := len_ns l
      rw [es_map, List.length_map]; omega
    refine b_if (t_c (q_eq (x_mod (x_div (x_name 2 rfl) x_int ⟨by decide, by decide⟩) x_int (by decide)) x_int rfl)) (fun q => ?_) (fun q => ?_)
    · refine b_asg 6 (x_catL (m := Stp.es l) (x_catL (l := [.tup [.str "open", .str x], .tup [.str "open", .str y]]) (XD.is (x_lc "_law_name" 7 ["_law_cells", "_law_first", "_law_second", "_law_sides", "_law_words_here", "_law_names", "_law_program_here", "_law_name"] (C8.fnScope s_law_code) g (l := [.str x, .str y]) (([.str x, .str y].map fun d => Dt.tup [.str "open", d]).map some) (x_name 5 rfl) (.inl rfl) (Nat.le_of_ble_eq_true rfl) rfl (lcF (ds' := fun _ => []) fun i d hi => x_tup (xa_cons x_str (xa_cons (x_name 7 rfl) xa_nil))) isT_nil) rfl) (x_lst (xa_cons (x_tup (xa_cons x_str (xa_cons (x_ixL (d := .str x) g (x_name 5 rfl) x_int rfl) (xa_cons (x_ixL (d := .str y) g (x_name 5 rfl) x_int rfl) xa_nil)))) xa_nil)) (Nat.le_of_ble_eq_true rfl)) (x_name 6 rfl) (by simp only [List.length_append, List.length_cons, List.length_nil]; omega)) ?_
      have e2 : Dt.lst (([.tup [.str "open", .str x], .tup [.str "open", .str y]] ++ [.tup [.str "tie", .str x, .str y]]) ++ Stp.es l) = .lst (Stp.es (.pl (.opn x) :: .pl (.opn y) :: .pl (.tie x y) :: l)) := by
        rw [Stp.es, Stp.es, Stp.es, Stp.e, Stp.e, Stp.e]; rfl
      refine b_nil (b_if (t_c (q_eq (x_mod (x_name 2 rfl) x_int (by decide)) x_int rfl)) (fun q => ?_) (fun q => ?_))
      · exact b_retX (xx_call g (c_turned_code hd) (by decide) (xa_cons (x_name 6 rfl) xa_nil) ⟨_, [x, y], congrArg (fun z => [z]) e2, po2, rfl⟩) fun d ds' h => h.1
      · exact b_nil (b_retX (xx_call g (c_code_of hd) (by decide) (xa_cons (x_name 6 rfl) xa_nil) ⟨_, [x, y], congrArg (fun z => [z]) e2, po2, rfl⟩) fun d ds' h => h.1)
    · refine b_nil (b_if (t_c (q_eq (x_mod (x_name 2 rfl) x_int (by decide)) x_int rfl)) (fun q => ?_) (fun q => ?_))
      · exact b_retX (xx_call g (c_turned_code hd) (by decide) (xa_cons (x_name 6 rfl) xa_nil) ⟨l, [x, y], rfl, po, rfl⟩) fun d ds' h => h.1
      · exact b_nil (b_retX (xx_call g (c_code_of hd) (by decide) (xa_cons (x_name 6 rfl) xa_nil) ⟨l, [x, y], rfl, po, rfl⟩) fun d ds' h => h.1)
def bndR : Row → Option Int
  | .tst _ b _ => some b
  | _ => none
theorem keep_bnd (code : List Row) : keepD (code.map fun r => (bndR r).map Dt.int) = (code.filterMap bndR).map Dt.int := by
  induction code with
  | nil => rfl
  | cons r c ih =>
    rw [List.map_cons, List.filterMap_cons]
    cases h : bndR r with
    | none => simpa [keepD] using ih
    | some b => simpa [keepD] using ih
def F_law_inputs : List Dt → (Dt → Prop) → Prop := fun ds R => ∃ (cs : List Int) (code : List Row), ds = [.lst (cs.map .int), codeD code] ∧ cs.length ≤ 12 ∧ code.length ≤ 150 ∧ R = fun d => ∃ ins : List Int, d = .lst (ins.map .int) ∧ ins.length ≤ 12
theorem c_law_inputs (hd : Hd k) : CalK k 1 "_law_inputs" (spP k F_law_inputs) := by
  refine defP (N := ["_law_cells", "_law_code_here", "_law_bounds", "_law_row", "_law_found", "_law_cell", "_law_near", "_law_far"]) (ps := ["_law_cells", "_law_code_here"]) (st := s_law_inputs) (hd.def_ 42 38 97 rfl rfl rfl) (fun _ _ _ _ _ _ us hl => match us, hl with | [_, _], _ => rfl) (by decide +kernel) (fun ds R h => ?_) (fun f cdv A outer s H E g ds R h => ?_)
  · obtain ⟨cs, code, rfl, _⟩ := h; rfl
  · obtain ⟨cs, code, rfl, hc, hk, rfl⟩ := h
    have hb : (code.filterMap bndR).length ≤ code.length := List.length_filterMap_le _ _
    have key : ∀ (i : Nat) (d : Dt), (code.map Row.e)[i]? = some d → ∃ r, code[i]? = some r ∧ d = r.e := fun i d hi => by
      rw [List.getElem?_map] at hi
      cases hx : code[i]? with
      | none => rw [hx] at hi; cases hi
      | some r => rw [hx] at hi; cases hi; exact ⟨r, rfl, rfl⟩
    refine b_asg 2 (x_catL (l := (code.filterMap bndR).map .int) (m := [.int 0]) (XD.is (x_lc "_law_row" 3 ["_law_cells", "_law_code_here", "_law_bounds", "_law_row", "_law_found", "_law_cell", "_law_near", "_law_far"] (C8.fnScope s_law_inputs) g (l := code.map Row.e) (code.map fun r => (bndR r).map Dt.int) (x_name 1 rfl) (.inl rfl) (by rw [List.length_map]; omega) (by rw [List.length_map, List.length_map]) (fun i d hi => ?_) ?_) (congrArg Dt.lst (keep_bnd code))) (x_lst (xa_cons x_int xa_nil)) (by rw [List.length_map]; simp only [List.length_cons, List.length_nil]; omega)) ?_
    · obtain ⟨r, hx, rfl⟩ := key i d hi
      refine ⟨(bndR r).map Dt.int, by rw [List.getElem?_map, hx]; rfl, .inr ⟨_, _, rfl, t_c (q_eq (x_ixT (bk_good g) (x_name 3 rfl) x_int (row_tag r)) x_str rfl), fun q => ?_, fun q => ?_⟩⟩
      · cases r
        case tst l b t => exact ⟨.int b, rfl, x_ixT (bk_good g) (x_name 3 rfl) x_int rfl⟩
        all_goals exact noT q
      · cases r
        case tst l b t => exact noF q
        all_goals rfl
    · exact isT_one
    · have e0 : Dt.lst ((code.filterMap bndR).map .int ++ [.int 0]) = .lst ((code.filterMap bndR ++ [0]).map .int) := by rw [List.map_append]; rfl
      rw [e0]
      refine b_new 4 xa_nil ?_
      generalize hbs : code.filterMap bndR ++ [0] = bs
      have b1 : 0 < bs.length := by rw [← hbs]; simp
      have bn : bs ≠ [] := fun z => by rw [z] at b1; exact absurd b1 (by decide)
      refine b_forD (l := cs.map .int) (fun i ds1 => ∃ (ins : List Int) (x5 x6 x7 : Option Ent), ds1 = [some (.d (.lst (cs.map .int))), some (.d (codeD code)), some (.d (.lst (bs.map .int))), none, some (.m true (mL k (ins.map .int))), x5, x6, x7] ∧ ins.length = i) 5 g (x_name 0 rfl) (.inl rfl) ⟨[], _, _, _, rfl, rfl⟩ ?_ ?_
      · rintro i d ds1 hd1 ⟨ins, x5, x6, x7, rfl, hi⟩
        rw [List.getElem?_map] at hd1
        cases hx : cs[i]? with
        | none => rw [hx] at hd1; cases hd1
        | some c =>
          rw [hx] at hd1
          cases hd1
          have hlt : i < cs.length := (List.getElem?_eq_some_iff.mp hx).1
          have lb : ((bs.map Dt.int).length : Int) = (bs.length : Int) := by rw [List.length_map]
          have a1 := Int.emod_nonneg (c / 4) (show (bs.length : Int) ≠ 0 by omega)
          have a2 := Int.emod_lt_of_pos (c / 4) (show (0 : Int) < (bs.length : Int) by omega)
          obtain ⟨n, hn⟩ : ∃ n : Nat, c / 4 % (bs.length : Int) = (n : Int) := ⟨(c / 4 % (bs.length : Int)).toNat, by omega⟩
          have hnl : n < bs.length := by omega
          refine b_asg 6 (x_ixL (d := .int bs[n]) g (x_name 2 rfl) (x_mod (x_div (x_name 5 rfl) x_int ⟨by decide, by decide⟩) (x_len g hd.len (x_name 2 rfl) rfl) (by rw [lb]; omega)) (by rw [lb, hn]; exact atI_nat (by rw [List.getElem?_map, List.getElem?_eq_getElem hnl]; rfl))) ?_
          refine b_asg 7 (x_add (x_sub (x_mod (x_mulS (x_name 5 rfl) x_int (.inr (by decide))) (x_sub (x_mulS x_int (x_pow x_int x_int ⟨by decide, by decide, by decide⟩) (.inl (by decide))) x_int) (by decide)) (x_pow x_int x_int ⟨by decide, by decide, by decide⟩)) x_int) ?_
          generalize c * 69621 % (2 * 10 ^ (61 : Int).toNat - 1) - 10 ^ (61 : Int).toNat + 1 = far
          have all : ∀ m < 4, ∃ v : Int, ([.int bs[n], .int (bs[n] + 1), .int (maxL bs + 1), .int far] : List Dt)[m]? = some (.int v) := fun m hm => by
            match m, hm with
            | 0, _ => exact ⟨_, rfl⟩
            | 1, _ => exact ⟨_, rfl⟩
            | 2, _ => exact ⟨_, rfl⟩
            | 3, _ => exact ⟨_, rfl⟩
            | m + 4, h => exact absurd h (by omega)
          obtain ⟨n4, hn4⟩ : ∃ n : Nat, c % 4 = (n : Int) := ⟨(c % 4).toNat, by omega⟩
          obtain ⟨v, hv⟩ := all n4 (by omega)
          refine b_app 4 rfl g (x_ixL (d := .int v) g (x_lst (xa_cons (x_name 6 rfl) (xa_cons (x_add (x_name 6 rfl) x_int) (xa_cons (x_add (x_max1 g hd.max (x_name 2 rfl) bn) x_int) (xa_cons (x_name 7 rfl) xa_nil))))) (x_mod (x_name 5 rfl) x_int (by decide)) (by rw [hn4]; exact atI_nat hv)) ?_ (by rw [List.length_map]; omega)
          exact b_nil ⟨ins ++ [v], _, _, _, by rw [List.map_append]; rfl, by simp [hi]⟩
      · rintro ds1 ⟨ins, x5, x6, x7, rfl, hi⟩
        rw [List.length_map] at hi
        exact b_frz 4 rfl (b_ret (x_name 4 rfl) ⟨ins, rfl, by omega⟩)
end
end Uw
end
section
set_option Elab.async false
set_option linter.all false
set_option maxRecDepth 100000
set_option maxHeartbeats 4000000
namespace Uw
open PySem PySem.Spec PyProof.Rows L2 Evl
/-! one dict of tokens, that changes -/
def mDn (k : Kw) (ks : List TK) : Mut where
  at_ v H0 H fp := ∃ (p : Addr) (xs : List KA), v = .ref p ∧ fp = [p] ∧ H p = some (DNO k.P k.w p xs) ∧ (p == sysModules) = false ∧ (xs.map (·.1)).Nodup ∧ (∀ y ∈ xs, KeyH H0 y) ∧ xs.map (·.1) = ks
  keep := by
    rintro v H0 H H0' H' fp ⟨p, xs, rfl, rfl, h1, h2, h3, h4, h5⟩ e kp
    exact ⟨p, xs, rfl, rfl, by rw [kp p List.mem_cons_self]; exact h1, h2, h3, fun y hy => (h4 y hy).mono e, h5⟩
section
variable {X : Cx} {k : Kw} {lv : Nat} {ds : EV} {e a b c ie ke : Expr} {pos : Pos} {rest : List Stmt} {N : EV → Prop} {R : Ent → EV → Prop}
theorem b_newDn (g : Good (yX X) k lv) (n : Nat) {x : PySem.Str} {p p2 : Pos} (m : XB X k rest (ds.set n (some (.m true (mDn k [])))) N R) (hd : X.N.Nodup := by exact Good.nd (Y := yX _) (by assumption) ()) (hN : X.N[n]? = some x := by rfl) (hl : Loc X.env.scope x := by first | exact .inl rfl | exact .inr rfl)
    (hs : swapsWith (.Dict [] [] p2) (some (.Name x p)) pos.line X.env = pure false := by rfl) (hf : X.fn x = true ∨ X.env.scope.names.lookup x = some .local := by first | exact .inr rfl | exact .inl rfl) : XB X k (.Assign [.Name x p] (.Dict [] [] p2) pos :: rest) ds N R := by
  have hp : PE X (.Dict [] [] p2) (tDNewN k.P k.w) := by
    have z := pe_dnewN (X := X) (pos := p2)
    rw [show X.prog = k.P from g.eP (), show X.w = k.w from g.ew ()] at z
    exact z
  refine b_st (ps_set hd hN hl hp hs hf) fun M G0 G σ H0 H D E nx r => fun q hq hs => ?_
  refine nx _ H0 _ _ m (E.setM (fp := [q]) (fun b hb => ?_) (fun b hb => ?_) ⟨q, [], rfl, rfl, upd_same, hs, List.nodup_nil, ⟨fun y (hy : y ∈ ([] : List KA)) => absurd hy List.not_mem_nil, rfl⟩⟩) (Ex.refl _)
  · exact upd_ne fun z => hb (by rw [z]; exact List.mem_cons_self)
  · rw [List.mem_singleton.mp hb]; exact ⟨hq, by rw [upd_same]; exact fun z => nomatch z⟩
theorem Env.getDn {M : List Addr × V} {G0 G H0 H : Hp} {σ : L2.St} (E : Env k M G0 G σ H0 H ds) {n : Nat} {own : Bool} {ks : List TK} (h : ds[n]? = some (some (.m own (mDn k ks)))) :
    ∃ p xs, σ[n]? = some (some (.ref p)) ∧ H p = some (DNO k.P k.w p xs) ∧ (p == sysModules) = false ∧ (xs.map (·.1)).Nodup ∧ (∀ y ∈ xs, KeyH H0 y) ∧ xs.map (·.1) = ks := by
  obtain ⟨F, f, _⟩ := E.ent
  obtain ⟨v, h1, ⟨p, xs, rfl, _, h2⟩, _⟩ := f n _ h
  exact ⟨p, xs, h1, h2⟩
/-- known[t] = True -/
theorem b_setDn (g : Good (yX X) k lv) (n : Nat) {x : PySem.Str} {p p2 p4 : Pos} {j0 : Nat} {own : Bool} {ks : List TK} {t : TK} (hx : ds[n]? = some (some (.m own (mDn k ks)))) (hke : XD (yX X) k ke ds (keyD t)) (hn : t ∉ ks) (hz : ks.length < 100000)
    (m : XB X k rest (ds.set n (some (.m own (mDn k (ks ++ [t]))))) N R) (hN : X.N[n]? = some x := by rfl) (hv : Vis X.env.scope x := by first | exact .inl rfl | exact .inr (.inl rfl) | exact .inr (.inr rfl)) (h1 : (x == ("__debug__" : PySem.Str)) = false := by decide) (h2 : (x == ("__classdict__" : PySem.Str)) = false := by decide)
    (a1 : ∀ v : Value, assign (.Subscript (.Name x p) ke p2) X.env v = (do let ov ← holding [v] (eval (.Name x p) X.env); let iv ← holding [v, ov] (eval ke X.env); standAt p2; holding [v, ov, iv] (setItem ov iv v); release [v, ov, iv] []) := by intro v; rfl)
    (a2 : swapsWithSole [.Subscript (.Name x p) ke p2] (.Constant (.bool true) j0 p4) pos.line X.env = pure false := by rfl) (a3 : swappedStores [.Subscript (.Name x p) ke p2] (.Constant (.bool true) j0 p4) X.env = pure none := by rfl)
    (a4 : (assignEach [.Subscript (.Name x p) ke p2] X.env).map (fun x => x.2) = [assign (.Subscript (.Name x p) ke p2) X.env] := by rfl) :
    XB X k (.Assign [.Subscript (.Name x p) ke p2] (.Constant (.bool true) j0 p4) pos :: rest) ds N R := by
  obtain ⟨tk, pk, ek⟩ := hke
  have hset : PSet X (rSetN k.P k.w k.K) := by
    have z := set_dN (X := X) (by have := hc64 g (); show X.A.units + 1 < cLine; have z : X.A.units + 64 < cLine := this; omega)
    rw [show X.K = k.K from g.eK (), show X.prog = k.P from g.eP (), show X.w = k.w from g.ew ()] at z
    exact z
  refine b_st (t := tAsg (tC (.bl true)) (gSub (tVar n) tk (rSetN k.P k.w k.K))) (ps_asg pe_bl (pg_sub (tE_slot (p := p) hN hv h1 h2) (pk ()) hset a1) a2 a3 a4) fun M G0 G σ H0 H D E nx r => ?_
  obtain ⟨q, xs, s1, s2, s3, s4, s5, s6⟩ := E.getDn hx
  refine ⟨_, s1, ek M G0 G σ H0 H E _ fun y H1 H1' E1 w1 r1 => ?_⟩
  obtain ⟨q', xs', t1, t2, t3, t4, t5, t6⟩ := E1.getDn hx
  rw [s1] at t1
  cases t1
  refine ⟨q, xs', t, rfl, rfl, ⟨t2, t3, t4, fun y hy => ((t5 y hy).mono E1.wld.in_).at_⟩, keyV_mono E1.wld.in_ (key_v r1).1, by rw [t6]; exact hn, sz_lt (by rw [← List.length_map (f := (·.1)), t6]; exact hz), fun b eb _ => ?_⟩
  subst eb
  refine nx σ H1 _ _ m (E1.mut hx s1 fun fp ⟨p', xs2, e1, e2, e3, e4, e5, e6, e7⟩ hf => ?_) w1.fz
  cases e1
  subst e2
  refine ⟨[q], fun b hb => .inl hb, fun b hb => ?_, fun b hb _ => ?_, fun b hb => ?_, q, _, rfl, rfl, upd_same, t3, ?_, fun y hy => ?_, ?_⟩
  · rw [List.mem_singleton.mp hb, upd_same]; exact fun z => nomatch z
  · exact upd_ne fun z => hb (by rw [z]; exact List.mem_cons_self)
  · rw [List.mem_singleton.mp hb, upd_same]; exact fun z => nomatch z
  · rw [List.map_append, t6, List.nodup_append]
    exact ⟨by rw [← t6]; exact t4, by simp, fun y hy z hz e => hn (by
      have hz' : z = t := by simpa using hz
      rw [← hz', ← e]; exact hy)⟩
  · rcases List.mem_append.mp hy with w | w
    · exact t5 y w
    · rw [List.mem_singleton.mp w]; exact (key_v r1).2
  · rw [List.map_append, t6]; rfl
/-- a dict that won't change from here on -/
theorem b_frzDn (n : Nat) {sts : List Stmt} {ks : List TK} (h : ds[n]? = some (some (.m true (mDn k ks)))) (m : XB X k sts (ds.set n (some (.d (.dct ks)))) N R) : XB X k sts ds N R := fun M G0 G σ H0 H D E nx r => by
  obtain ⟨F, f1, f2, f3⟩ := E.ent
  obtain ⟨v, h1, ⟨p, xs, rfl, hF, h2, h3, h4, h5, h6⟩, ho⟩ := f1 n _ h
  have hp : p ∈ F n := by rw [hF]; exact List.mem_cons_self
  have hp0 : H0 p = none := (f3 n p hp).1
  let H0' : Hp := upd H0 p (DNO k.P k.w p xs)
  have at_ : H0' p = some (DNO k.P k.w p xs) := upd_same
  have oth : ∀ b, b ≠ p → H0' b = H0 b := fun b c => upd_ne c
  have ex : Ex H0 H0' := fun b o e => by rw [oth b (ne_of_none e hp0)]; exact e
  have ex2 : Ex H0' H := fun b o e => by
    by_cases z : b = p
    · rw [z, at_] at e; rw [z, h2]; exact e
    · rw [oth b z] at e; exact E.wld.in_ b o e
  have E' : Env k M G0 G σ H0' H (ds.set n (some (.d (.dct ks)))) := by
    refine ⟨⟨E.wld.fz.trans ex, ex2, E.wld.kp, fun b e => ?_, E.wld.tr⟩, by rw [List.length_set, E.len], pin_set0 E.pin (fun u z => nomatch z), fun j => if j = n then [] else F j, fun j e he => ?_, fun j l b ha hb => ?_, fun j b ha => ?_⟩
    · by_cases z : b = p
      · rw [z]; exact .inr (ho rfl p hp)
      · rw [oth b z] at e; exact E.wld.nw b e
    · by_cases q : n = j
      · subst q
        rw [List.getElem?_set] at he
        split at he
        · split at he
          · cases he
            refine ⟨_, h1, ?_⟩
            rw [← h6]
            exact .dct ⟨at_, h3, h4, fun y hy => ((h5 y hy).mono ex).at_⟩ fun y hy => (h5 y hy).mono ex
          · cases he
        · exact absurd rfl ‹_›
      · rw [List.getElem?_set_ne q] at he
        obtain ⟨v', g1, g2⟩ := f1 j e he
        refine ⟨v', g1, ?_⟩
        dsimp only
        rw [if_neg (show ¬ j = n from fun z => q z.symm)]
        cases e with
        | d x => exact Rp.mono ex g2
        | m own u' => exact ⟨u'.keep g2.1 ex fun b _ => rfl, g2.2⟩
    · dsimp only at ha hb
      split at ha
      · cases ha
      · split at hb
        · cases hb
        · exact f2 _ _ b ha hb
    · dsimp only at ha
      split at ha
      · cases ha
      · have z : b ≠ p := fun z => ‹¬ j = n› (f2 j n b ha (by rw [z]; exact hp))
        exact ⟨by rw [oth b z]; exact (f3 j b ha).1, (f3 j b ha).2⟩
  exact m M G0 G σ H0' H D E' (fun σ' H1 H' ds' q E1 e1 => nx σ' H1 H' ds' q E1 (ex.trans e1)) r
end
section
variable {ι : Type} {Y : ι → Cx} {k : Kw} {lv : Nat} {ds : EV} {e a b c : Expr} {pos : Pos}
/-- t not in d, d a dict of tokens -/
theorem q_niD (g : Good Y k lv) {t : TK} {ks : List TK} (ha : XD Y k a ds (keyD t)) (hb : XD Y k b ds (.dct ks)) (hm : behindInMarks .NotIn b = false := by rfl) : XC Y k a .NotIn b ds (!decide (t ∈ ks)) :=
  q_op2 (r := rInN k.P k.w k.K true) ha hb (fun i => by
    have z := op_notInN (X := Y i) (by have z : (Y i).A.units + 64 < cLine := hc64 g i; omega)
    rw [g.eK i, g.eP i, g.ew i] at z
    exact z) hm fun H x y r1 r2 => by
    cases r2
    rename_i d xs dn kh
    refine ⟨.bl _, .bl _, fun H' ex Q q => ⟨d, xs, t, rfl, dicN_mono ex dn, keyV_mono ex (key_v r1).1, ?_⟩⟩
    rw [if_pos rfl]
    exact q
theorem x_isTup (g : Good Y k lv) {l : List Dt} {p p2 : Pos} (hm : k.mg "isinstance" = none) (hm2 : k.mg "tuple" = none) (ha : XD Y k a ds (.tup l)) (hg : ∀ i, Gl (Y i) "isinstance" := by intro _; rfl) (hg2 : ∀ i, Gl (Y i) "tuple" := by intro _; rfl)
    (he : ∀ i, starEach [a, .Name "tuple" p2] (Y i).env = (false, eval a (Y i).env) :: starEach [.Name "tuple" p2] (Y i).env := by intro _; rfl) (he2 : ∀ i, starEach [.Name "tuple" p2] (Y i).env = (false, eval (.Name "tuple" p2) (Y i).env) :: starEach [] (Y i).env := by intro _; rfl) (hpl : ∀ i, ((backTo pos (starEach [.Name "tuple" p2] (Y i).env)).any fun x => x.1) = false := by intro _; rfl) :
    XD Y k (.Call (.Name "isinstance" p) [a, .Name "tuple" p2] [] pos) ds (.bl true) := by
  obtain ⟨ta, pa, ea⟩ := ha
  refine ⟨_, fun i => pe_callB RZ.call_isTy (hg i) (by rw [g.em i]; exact hm) (by decide +kernel) (pa_cons (pa i) (pa_cons (pe_bltn (v := .ty "tuple") (hg2 i) (by rw [g.em i]; exact hm2) (u := .type "tuple") (by decide +kernel) rfl) pa_nil (he2 i)) (he i)) (by decide) (by decide) (he i) (hpl i), fun M G0 G σ H0 H E Q q => ?_⟩
  refine ea M G0 G σ H0 H E _ fun v H1 H1' E1 w1 r1 => ?_
  cases r1
  rename_i aa xs r1 r2
  exact ⟨_, "tuple", rfl, .tup (E1.wld.in_ _ _ r1), q _ _ _ E1 w1 (.bl _)⟩
theorem x_isLst (g : Good Y k lv) {l : List Dt} {p p2 : Pos} (hm : k.mg "isinstance" = none) (hm2 : k.mg "list" = none) (ha : XD Y k a ds (.lst l)) (hg : ∀ i, Gl (Y i) "isinstance" := by intro _; rfl) (hg2 : ∀ i, Gl (Y i) "list" := by intro _; rfl)
    (he : ∀ i, starEach [a, .Name "list" p2] (Y i).env = (false, eval a (Y i).env) :: starEach [.Name "list" p2] (Y i).env := by intro _; rfl) (he2 : ∀ i, starEach [.Name "list" p2] (Y i).env = (false, eval (.Name "list" p2) (Y i).env) :: starEach [] (Y i).env := by intro _; rfl) (hpl : ∀ i, ((backTo pos (starEach [.Name "list" p2] (Y i).env)).any fun x => x.1) = false := by intro _; rfl) :
    XD Y k (.Call (.Name "isinstance" p) [a, .Name "list" p2] [] pos) ds (.bl true) := by
  obtain ⟨ta, pa, ea⟩ := ha
  refine ⟨_, fun i => pe_callB RZ.call_isTy (hg i) (by rw [g.em i]; exact hm) (by decide +kernel) (pa_cons (pa i) (pa_cons (pe_bltn (v := .ty "list") (hg2 i) (by rw [g.em i]; exact hm2) (u := .type "list") (by decide +kernel) rfl) pa_nil (he2 i)) (he i)) (by decide) (by decide) (he i) (hpl i), fun M G0 G σ H0 H E Q q => ?_⟩
  refine ea M G0 G σ H0 H E _ fun v H1 H1' E1 w1 r1 => ?_
  cases r1
  rename_i aa xs r1 r2
  exact ⟨_, "list", rfl, .lst (E1.wld.in_ _ _ r1), q _ _ _ E1 w1 (.bl _)⟩
end
end Uw
end
section
set_option Elab.async false
set_option linter.all false
set_option maxRecDepth 100000
set_option maxHeartbeats 4000000
namespace Uw
open PySem PySem.Spec PyProof.Rows L2 Evl
theorem nodup_mapI {α β : Type} {f : α → β} (hf : ∀ a b, f a = f b → a = b) : ∀ {l : List α}, l.Nodup → (l.map f).Nodup
  | [], _ => List.nodup_nil
  | a :: l, h => by
    rw [List.nodup_cons] at h
    rw [List.map_cons, List.nodup_cons]
    refine ⟨fun z => ?_, nodup_mapI hf h.2⟩
    obtain ⟨b, hb, e⟩ := List.mem_map.mp z
    exact h.1 (by rw [← hf _ _ e]; exact hb)
theorem nodup_at {α : Type} {l : List α} {i : Nat} {x : α} (h : l.Nodup) (hx : l[i]? = some x) : x ∉ l.take i ∧ l.take (i + 1) = l.take i ++ [x] := by
  have e : l.take (i + 1) = l.take i ++ [x] := by rw [List.take_add_one, hx]; rfl
  refine ⟨fun z => ?_, e⟩
  have h2 : (l.take (i + 1) ++ l.drop (i + 1)).Nodup := by rw [List.take_append_drop]; exact h
  rw [List.nodup_append, e, List.nodup_append] at h2
  exact h2.1.2.2 x z x (List.mem_singleton.mpr rfl) rfl
section
variable {ι : Type} {Y : ι → Cx} {k : Kw} {lv : Nat} {ds : EV} {e a b c : Expr} {pos : Pos}
theorem x_ixM (g : Good Y k lv) (n : Nat) {x : PySem.Str} {p : Pos} {own : Bool} {l : List Dt} {i : Int} {d : Dt} (hx : ds[n]? = some (some (.m own (mL k l)))) (hb : XD Y k b ds (.int i)) (h : atI l i = some d) (hp : PlainIx b := by exact fun _ _ => rfl) (hN : ∀ i, (Y i).N[n]? = some x := by intro _; rfl) (hv : ∀ i, Vis (Y i).env.scope x := by intro _; first | exact .inl rfl | exact .inr (.inl rfl) | exact .inr (.inr rfl))
    (h1 : (x == ("__debug__" : PySem.Str)) = false := by decide) (h2 : (x == ("__classdict__" : PySem.Str)) = false := by decide) : XD Y k (.Subscript (.Name x p) b pos) ds d := by
  obtain ⟨tb, pb, eb⟩ := hb
  refine ⟨tOp (rIxL k.K) (tVar n) tb, fun q => ?_, fun M G0 G σ H0 H E Q q => ?_⟩
  · have z := pe_ix (X := Y q) (pos := pos) ix_list (tE_slot (p := p) (hN q) (hv q) h1 h2) (pb q) hp
    rw [g.eK q] at z
    exact z
  · obtain ⟨p0, xs, s1, s2, s3⟩ := E.getM hx
    refine ⟨_, s1, eb M G0 G σ H0 H E _ fun v H1 H1' E1 w1 r1 => ?_⟩
    cases r1
    obtain ⟨p1, xs1, t1, t2, t3⟩ := E1.getM hx
    rw [s1] at t1
    cases t1
    obtain ⟨v, hv1, hv2⟩ := atI_D t3 h
    exact ⟨p0, xs1, i, v, rfl, rfl, sq_of t2, hv1, q _ _ _ E1 w1 hv2⟩
end
section
variable {k : Kw}
def F_law_known : List Dt → (Dt → Prop) → Prop := fun ds R => ∃ l : List Tok, ds = [.lst (l.map Tok.e)] ∧ l.Nodup ∧ l.length ≤ 521 ∧ R = fun d => d = .dct (l.map fun t => some t.l)
theorem c_law_known (hd : Hd k) : CalK k 1 "_law_known" (spP k F_law_known) := by
  refine defP (N := ["_law_tokens", "_law_known_here", "_law_token"]) (ps := ["_law_tokens"]) (st := s_law_known) (hd.def_ 47 43 102 rfl rfl rfl) (fun _ _ _ _ _ _ us hl => match us, hl with | [_], _ => rfl) (by decide +kernel) (fun ds R h => ?_) (fun f cdv A outer s H E g ds R h => ?_)
  · obtain ⟨l, rfl, _⟩ := h; rfl
  · obtain ⟨l, rfl, nd, hl, rfl⟩ := h
    have nk : (l.map fun t => some t.l).Nodup := nodup_mapI (fun a b e => Tok.l_inj (Option.some.inj e)) nd
    refine b_newDn g 1 ?_
    refine b_forD (l := l.map Tok.e) (fun i ds1 => ∃ x2 : Option Ent, ds1 = [some (.d (.lst (l.map Tok.e))), some (.m true (mDn k ((l.map fun t => some t.l).take i))), x2]) 2 g (x_name 0 rfl) (.inl rfl) ⟨_, rfl⟩ ?_ ?_
    · rintro i d ds1 hd1 ⟨x2, rfl⟩
      rw [List.getElem?_map] at hd1
      cases hx : l[i]? with
      | none => rw [hx] at hd1; cases hd1
      | some t =>
        rw [hx] at hd1
        cases hd1
        have hk : (l.map fun t => some t.l)[i]? = some (some t.l) := by rw [List.getElem?_map, hx]; rfl
        obtain ⟨n1, n2⟩ := nodup_at nk hk
        refine b_ifT (t_v (x_isTup g hd.isinstance hd.tuple (x_name 2 rfl))) ?_
        refine b_setDn g 1 (t := some t.l) rfl (x_name 2 rfl) n1 (by rw [List.length_take, List.length_map]; omega) ?_
        refine b_nil (b_nil ?_)
        show ∃ x2 : Option Ent, _ = _
        rw [n2]
        exact ⟨_, rfl⟩
    · rintro ds1 ⟨x2, rfl⟩
      refine b_frzDn 1 rfl (b_ret (x_name 1 rfl) ?_)
      show Dt.dct _ = _
      rw [List.take_of_length_le (by rw [List.length_map, List.length_map]; exact Nat.le_refl _)]
def F_law_pairs : List Dt → (Dt → Prop) → Prop := fun ds R => ∃ (ss : List Nat) (ks : List TK), ds = [.lst (ss.map dI), .dct ks] ∧ ss.length ≤ 1000 ∧ (∀ (i : Nat) a, ss[i]? = some a → some [(a : Int)] ∈ ks) ∧
  (∀ (i j : Nat) a b, i < j → ss[i]? = some a → ss[j]? = some b → some [(a : Int), (b : Int), 1] ∈ ks ∧ some [(b : Int), (a : Int), 2] ∈ ks) ∧ R = fun d => d = .bl true
theorem c_law_pairs (hd : Hd k) : CalK k 1 "_law_pairs_stand" (spP k F_law_pairs) := by
  refine defP (N := ["_law_sums", "_law_tokens", "_law_one", "_law_other"]) (ps := ["_law_sums", "_law_tokens"]) (st := s_law_pairs_stand) (hd.def_ 43 39 98 rfl rfl rfl) (fun _ _ _ _ _ _ us hl => match us, hl with | [_, _], _ => rfl) (by decide +kernel) (fun ds R h => ?_) (fun f cdv A outer s H E g ds R h => ?_)
  · obtain ⟨ss, ks, rfl, _⟩ := h; rfl
  · obtain ⟨ss, ks, rfl, hl, h1, h2, rfl⟩ := h
    have at_ : ∀ {i : Nat}, (hi : i < ss.length) → atI (ss.map dI) (i : Int) = some (dI ss[i]) := fun hi => atI_nat (by rw [List.getElem?_map, List.getElem?_eq_getElem hi]; rfl)
    refine b_forR (fun i ds1 => ∃ x2 x3 : Option Ent, ds1 = [some (.d (.lst (ss.map dI))), some (.d (.dct ks)), x2, x3]) (n := (ss.map dI).length) g 2 hd.range (x_len g hd.len (x_name 0 rfl) rfl) (by rw [List.length_map]; omega) ⟨_, _, rfl⟩ ?_ ?_
    · rintro i ds1 hi ⟨x2, x3, rfl⟩
      rw [List.length_map] at hi
      have m1 := h1 i _ (List.getElem?_eq_getElem hi)
      refine b_ifF0 (t_c (q_niD (t := some [(ss[i] : Int)]) g (XD.is (x_tup (xa_cons (x_ixL g (x_name 0 rfl) (x_name 2 rfl) (at_ hi)) xa_nil)) rfl) (x_name 1 rfl))) ?_ (by rw [decide_eq_true m1]; rfl)
      refine b_forR2 (fun j ds1 => ∃ x3 : Option Ent, ds1 = [some (.d (.lst (ss.map dI))), some (.d (.dct ks)), some (.d (dI i)), x3]) (m := i + 1) (n := (ss.map dI).length) g 3 hd.range (xa_cons (XD.is (x_add (x_name 2 rfl) x_int) rfl) (xa_cons (x_len g hd.len (x_name 0 rfl) rfl) xa_nil)) ⟨by omega, by rw [List.length_map]; omega⟩ ⟨_, rfl⟩ ?_ ?_
      · rintro j ds1 hj ⟨x3, rfl⟩
        rw [List.length_map] at hj
        obtain ⟨m2, m3⟩ := h2 i (i + 1 + j) _ _ (by omega) (List.getElem?_eq_getElem hi) (List.getElem?_eq_getElem hj)
        refine b_ifF0 (t_w (w_or (t_c (q_niD (t := some [(ss[i] : Int), (ss[i + 1 + j] : Int), 1]) g (XD.is (x_tup (xa_cons (x_ixL g (x_name 0 rfl) (x_name 2 rfl) (at_ hi)) (xa_cons (x_ixL g (x_name 0 rfl) (x_name 3 rfl) (at_ hj)) (xa_cons x_int xa_nil)))) rfl) (x_name 1 rfl))) fun _ => w_or1 (t_c (q_niD (t := some [(ss[i + 1 + j] : Int), (ss[i] : Int), 2]) g (XD.is (x_tup (xa_cons (x_ixL g (x_name 0 rfl) (x_name 3 rfl) (at_ hj)) (xa_cons (x_ixL g (x_name 0 rfl) (x_name 2 rfl) (at_ hi)) (xa_cons x_int xa_nil)))) rfl) (x_name 1 rfl))))) ?_ (by rw [decide_eq_true m2, decide_eq_true m3]; rfl)
        exact b_nil ⟨_, rfl⟩
      · rintro ds1 ⟨x3, rfl⟩
        exact b_nil ⟨_, _, rfl⟩
    · rintro ds1 ⟨x2, x3, rfl⟩
      exact b_ret x_bl rfl
/-! handles and ties of the run -/
def sumI (sl : List (Option Nat)) (h : Nat) : Nat → Nat
  | 0 => 0
  | i + 1 => sumI sl h i + (if sl[i]? = some (some h) then 2 ^ i else 0)
def sumS (sl : List (Option Nat)) (h : Nat) : Nat := sumI sl h sl.length
structure Tie where
  o : Nat
  t : Nat
  r : Option Nat
def Tie.e (x : Tie) : Dt := .tup [dI x.o, dI x.t, oD x.r]
def older (o t : Nat) : Nat := if t < o then 2 else 1
def F_law_stands (k : Kw) : FM := fun u ds R => ∃ (sl : List (Option Nat)) (many : Nat) (ties : List Tie) (ks : List TK), u = mL k (sl.map oD) ∧ ds = [dI many, .lst (ties.map Tie.e), .dct ks] ∧ sl.length ≤ 3 ∧ many ≤ 10000 ∧ (∀ h, some h ∈ sl → h < many) ∧
  (∀ x ∈ ties, x.o < many ∧ x.t < many ∧ ∀ r, x.r = some r → some [(sumS sl x.o : Int), (sumS sl x.t : Int), (older x.o x.t : Int), (r : Int)] ∈ ks) ∧
  (∀ h, h < many → some [(sumS sl h : Int)] ∈ ks) ∧ (∀ a b, a < b → b < many → b < 6 → some [(sumS sl a : Int), (sumS sl b : Int), 1] ∈ ks ∧ some [(sumS sl b : Int), (sumS sl a : Int), 2] ∈ ks) ∧ R = fun d u' => d = .bl true ∧ u' = u
theorem c_law_stands (hd : Hd k) : CalK k 2 "_law_stands" (spM k (F_law_stands k)) := by
  refine defM (N := ["_law_slots_here", "_law_many", "_law_ties", "_law_tokens", "_law_sums", "_law_handle", "_law_slot", "_law_one", "_law_other", "_law_room", "_law_older"]) (ps := ["_law_slots_here", "_law_many", "_law_ties", "_law_tokens"]) (st := s_law_stands) (hd.def_ 44 40 99 rfl rfl rfl) (fun _ _ _ _ _ _ us hl => match us, hl with | [_, _, _, _], _ => rfl) (by decide +kernel) (fun u ds R h => ?_) (fun f cdv A outer s H E g u ds R h => ?_)
  · obtain ⟨sl, many, ties, ks, rfl, rfl, _⟩ := h; rfl
  · obtain ⟨sl, many, ties, ks, rfl, rfl, hs3, hm, hsl, ht, hp1, hp2, rfl⟩ := h
    refine b_setLcR 4 "_law_handle" 5 ["_law_slots_here", "_law_many", "_law_ties", "_law_tokens", "_law_sums", "_law_handle", "_law_slot", "_law_one", "_law_other", "_law_room", "_law_older"] (C8.fnScope s_law_stands) g ((List.range many).map fun h => some (dI 0)) hd.range (x_name 1 rfl) (by omega) (by rw [List.length_map, List.length_range]) (fun i hi => ⟨some (dI 0), by rw [List.getElem?_map, List.getElem?_range hi]; rfl, .inl ⟨rfl, _, rfl, x_int⟩⟩) isT_nil ?_
    have e0 : keepD ((List.range many).map fun h => some (dI 0)) = (List.range many).map fun h => dI (sumI sl h 0) := by
      generalize List.range many = l
      induction l with
      | nil => rfl
      | cons x r ih => simp [keepD, sumI, ih]
    rw [e0]
    refine b_forR (fun i ds1 => ∃ x5 x6 : Option Ent, ds1 = [some (.m false (mL k (sl.map oD))), some (.d (dI many)), some (.d (.lst (ties.map Tie.e))), some (.d (.dct ks)), some (.m true (mL k ((List.range many).map fun h => dI (sumI sl h i)))), x5, x6, none, none, none, none]) (n := (sl.map oD).length) g 6 hd.range (x_lenM g 0 rfl hd.len) (by rw [List.length_map]; omega) ⟨_, _, rfl⟩ ?_ ?_
    · rintro i ds1 hi ⟨x5, x6, rfl⟩
      rw [List.length_map] at hi
      have hat : atI (sl.map oD) (i : Int) = some (oD sl[i]) := atI_nat (by rw [List.getElem?_map, List.getElem?_eq_getElem hi]; rfl)
      have hgi := List.getElem?_eq_getElem hi
      cases hx : sl[i] with
      | none =>
        rw [hx] at hat hgi
        refine b_ifF0 (t_c (q_notN (x_ixM g 0 rfl (x_name 6 rfl) hat))) (b_nil ?_)
        have e : ∀ h, sumI sl h (i + 1) = sumI sl h i := fun h => by rw [sumI, hgi, if_neg (fun z => nomatch z), Nat.add_zero]
        have e2 : (List.range many).map (fun h => dI (sumI sl h (i + 1))) = (List.range many).map (fun h => dI (sumI sl h i)) := by simp only [e]
        show ∃ x5 x6 : Option Ent, _ = _
        rw [e2]
        exact ⟨_, _, rfl⟩
      | some h0 =>
        rw [hx] at hat hgi
        have hh : h0 < many := hsl h0 (by rw [← hx]; exact List.getElem_mem hi)
        refine b_ifT (t_c (q_notN (x_ixM g 0 rfl (x_name 6 rfl) hat))) ?_
        refine b_setI (j := h0) (d := dI (sumI sl h0 i + 2 ^ i)) 4 rfl (XD.is (x_add (x_ixM (d := dI (sumI sl h0 i)) g 4 rfl (x_ixM (d := dI h0) g 0 rfl (x_name 6 rfl) hat) ?_) (x_shl x_int (x_name 6 rfl) ⟨by omega, by omega, by decide⟩)) ?_) (x_ixM (d := dI h0) g 0 rfl (x_name 6 rfl) hat) ?_ ?_
        · exact atI_nat (by rw [List.getElem?_map, List.getElem?_range hh]; rfl)
        · show Dt.int _ = Dt.int _
          rw [Int.toNat_natCast]
          push_cast
          rw [Int.one_mul]
        · rw [List.length_map, List.length_range]; exact ixN_nat hh
        · have e2 : ((List.range many).map (fun h => dI (sumI sl h i))).set h0 (dI (sumI sl h0 i + 2 ^ i)) = (List.range many).map (fun h => dI (sumI sl h (i + 1))) := by
            apply List.ext_getElem?
            intro q
            rw [List.getElem?_set, List.length_map, List.length_range]
            by_cases z : h0 = q
            · subst z
              rw [if_pos rfl, if_pos hh, List.getElem?_map, List.getElem?_range hh, Option.map_some, sumI, hgi, if_pos rfl]
            · rw [if_neg z, List.getElem?_map, List.getElem?_map]
              by_cases w : q < many
              · rw [List.getElem?_range w, Option.map_some, Option.map_some, sumI, hgi, if_neg (fun y => z (Option.some.inj (Option.some.inj y))), Nat.add_zero]
              · rw [List.getElem?_eq_none (by rw [List.length_range]; omega)]; rfl
          refine b_nil (b_nil ?_)
          show ∃ x5 x6 : Option Ent, _ = _
          rw [← e2]
          exact ⟨_, _, rfl⟩
    · rintro ds1 ⟨x5, x6, rfl⟩
      have eS : (List.range many).map (fun h => dI (sumI sl h (sl.map oD).length)) = (List.range many).map (fun h => dI (sumS sl h)) := by
        rw [List.length_map]; rfl
      rw [eS]
      refine b_frz 4 rfl ?_
      have sat : ∀ {h : Nat}, h < many → atI ((List.range many).map fun h => dI (sumS sl h)) (h : Int) = some (dI (sumS sl h)) := fun hh => atI_nat (by rw [List.getElem?_map, List.getElem?_range hh]; rfl)
      refine b_forW (l := ties.map Tie.e) (Po := fun ds' => ds' = _) (fun i ds1 => ∃ x5 x6 x7 x8 x9 x10 : Option Ent, ds1 = [some (.m false (mL k (sl.map oD))), some (.d (dI many)), some (.d (.lst (ties.map Tie.e))), some (.d (.dct ks)), some (.d (.lst ((List.range many).map fun h => dI (sumS sl h)))), x5, x6, x7, x8, x9, x10]) g (.inl rfl) (x_name 2 rfl).xx (fun ds' e => ⟨_, _, _, _, _, _, e⟩) ?_ ?_
      · rintro i d ds1 hd1 ⟨x5, x6, x7, x8, x9, x10, rfl⟩
        rw [List.getElem?_map] at hd1
        cases hx : ties[i]? with
        | none => rw [hx] at hd1; cases hd1
        | some x =>
          rw [hx] at hd1
          cases hd1
          obtain ⟨t1, t2, t3⟩ := ht x (List.mem_of_getElem? hx)
          refine ⟨_, xg_tup g (xgs_cons (xg_name 7) (xgs_cons (xg_name 8) (xgs_cons (xg_name 9) xgs_nil))), ?_⟩
          refine b_asg (d := dI (older x.o x.t)) 10 (XD.is (x_add x_int (x_intB g hd.int (x_c (q_lt (x_name 8 rfl) (x_name 7 rfl))))) ?_) ?_
          · show Dt.int _ = Dt.int _
            rw [older]
            by_cases z : x.t < x.o
            · rw [if_pos z, decide_eq_true (show (x.t : Int) < (x.o : Int) by omega)]; rfl
            · rw [if_neg z, decide_eq_false (show ¬ (x.t : Int) < (x.o : Int) by omega)]; rfl
          · cases hr : x.r with
            | none =>
              refine b_ifF0 (t_w (w_and (q := false) (t_c (q_notN (x_name (d := .non) 9 rfl))) fun q => noT q)) (b_nil ⟨_, _, _, _, _, _, rfl⟩)
            | some r =>
              have mem := t3 r hr
              refine b_ifF0 (t_w (w_and (t_c (q_notN (x_name (d := dI r) 9 rfl))) fun _ => w_and1 (t_c (q_niD (t := some [(sumS sl x.o : Int), (sumS sl x.t : Int), (older x.o x.t : Int), (r : Int)]) g (XD.is (x_tup (xa_cons (x_ixL g (x_name 4 rfl) (x_name 7 rfl) (sat t1)) (xa_cons (x_ixL g (x_name 4 rfl) (x_name 8 rfl) (sat t2)) (xa_cons (x_name 10 rfl) (xa_cons (x_name (d := dI r) 9 rfl) xa_nil))))) rfl) (x_name 3 rfl))))) (b_nil ⟨_, _, _, _, _, _, rfl⟩) (by rw [decide_eq_true mem]; rfl)
      · rintro ds1 ⟨x5, x6, x7, x8, x9, x10, rfl⟩
        have ec : cutD ((List.range many).map fun h => dI (sumS sl h)) none (some 6) = (((List.range many).map (sumS sl)).take 6).map dI := by
          unfold cutD
          rw [HT.sIx_none, show (some (6 : Int)) = some ((6 : Nat) : Int) from rfl, HT.sIx_nat, Nat.sub_zero, List.drop_zero, List.map_take, List.map_map]
          rw [List.length_map, List.length_range]
          show List.take (min 6 many) ((List.range many).map fun h => dI (sumS sl h)) = List.take 6 ((List.range many).map fun h => dI (sumS sl h))
          by_cases z : 6 ≤ many
          · rw [Nat.min_eq_left z]
          · rw [Nat.min_eq_right (by omega), List.take_of_length_le (by simp), List.take_of_length_le (by simp; omega)]
        refine b_retX (xx_call g (c_law_pairs hd) (by decide) (xa_cons (XD.is (x_slL g (x_name 4 rfl) xo_none (xo_some x_int)) (congrArg Dt.lst ec)) (xa_cons (x_name 3 rfl) xa_nil)) ⟨_, ks, rfl, by rw [List.length_take]; omega, fun i a ha => ?_, fun i j a b hij ha hb => ?_, rfl⟩) ?_
        · rw [List.getElem?_take] at ha
          split at ha
          · rw [List.getElem?_map] at ha
            by_cases z : i < many
            · rw [List.getElem?_range z] at ha; cases ha; exact hp1 i z
            · rw [List.getElem?_eq_none (by rw [List.length_range]; omega)] at ha; cases ha
          · cases ha
        · rw [List.getElem?_take] at ha hb
          split at hb
          · rw [if_pos (by omega)] at ha
            rw [List.getElem?_map] at ha hb
            by_cases z : j < many
            · rw [List.getElem?_range z] at hb; cases hb
              rw [List.getElem?_range (by omega)] at ha; cases ha
              exact hp2 i j hij z ‹_›
            · rw [List.getElem?_eq_none (by rw [List.length_range]; omega)] at hb; cases hb
          · cases hb
        · rintro d ds' ⟨rfl, rfl⟩
          exact ⟨_, rfl, rfl, rfl⟩
end
end Uw
end
section
set_option Elab.async false
set_option linter.all false
set_option maxRecDepth 100000
set_option maxHeartbeats 4000000
namespace Uw
open PySem PySem.Spec PyProof.Rows L2 Evl
section
variable {X : Cx} {k : Kw} {ds : EV} {c : Expr} {pos : Pos} {rest s t : List Stmt} {N : EV → Prop} {R : Ent → EV → Prop} {p : Bool}
theorem XB.weak {sts : List Stmt} {N' : EV → Prop} (h : XB X k sts ds N' R) (hk : ∀ ds', N' ds' → N ds') : XB X k sts ds N R := fun M G0 G σ H0 H D E nx r => h M G0 G σ H0 H D E (fun σ' H1 H' ds' q E1 e1 => nx σ' H1 H' ds' (hk ds' q) E1 e1) r
theorem b_ifK (P : EV → Prop) (hc : XT (yX X) k c ds p) (h1 : p = true → XB X k s ds P R) (h2 : p = false → XB X k t ds P R) (hk : ∀ ds', P ds' → XB X k rest ds' N R) : XB X k (.If c s t pos :: rest) ds N R := b_if hc (fun q => (h1 q).weak hk) (fun q => (h2 q).weak hk)
end
section
variable {k : Kw}
def stpR (rl : Rule) (w : PySem.Str) (p : Prop) [Decidable p] (r : Option Nat) : Option Nat := match r with
  | none => none
  | some y => if p then nextR rl y w else some y
def movT (rl : Rule) (h : Nat) (w : PySem.Str) (x : Tie) : Tie := ⟨x.o, x.t, stpR rl (("2." : PySem.Str) ++ w) (x.t = h) (stpR rl (("1." : PySem.Str) ++ w) (x.o = h) x.r)⟩
theorem stpR_lt {rl : Rule} (ok : rl.ok) {w : PySem.Str} {p : Prop} [Decidable p] {r : Option Nat} (hr : ∀ y, r = some y → y < rl.rooms.length) : ∀ y, stpR rl w p r = some y → y < rl.rooms.length := fun y hy => by
  cases r with
  | none => cases hy
  | some z =>
    have hz := hr z rfl
    unfold stpR at hy
    dsimp only at hy
    split at hy
    · exact nextR_lt ok hz hy
    · cases hy; exact hz
def F_law_moved : List Dt → (Dt → Prop) → Prop := fun ds R => ∃ (rl : Rule) (ties : List Tie) (h : Nat) (w : PySem.Str), ds = [rl.e, .lst (ties.map Tie.e), dI h, .str w] ∧ rl.ok ∧ ties.length ≤ 1000 ∧ w.length ≤ 100 ∧ (∀ x ∈ ties, ∀ y, x.r = some y → y < rl.rooms.length) ∧ R = fun d => d = .lst ((ties.map (movT rl h w)).map Tie.e)
theorem c_law_moved (hd : Hd k) : CalK k 2 "_law_moved" (spP k F_law_moved) := by
  refine defP (N := ["_law_rule_here", "_law_ties", "_law_handle", "_law_word", "_law_found", "_law_one", "_law_other", "_law_room"]) (ps := ["_law_rule_here", "_law_ties", "_law_handle", "_law_word"]) (st := s_law_moved) (hd.def_ 45 41 100 rfl rfl rfl) (fun _ _ _ _ _ _ us hl => match us, hl with | [_, _, _, _], _ => rfl) (by decide +kernel) (fun ds R h => ?_) (fun f cdv A outer s H E g ds R h => ?_)
  · obtain ⟨rl, ties, h, w, rfl, _⟩ := h; rfl
  · obtain ⟨rl, ties, h, w, rfl, ok, hl, hw, hr, rfl⟩ := h
    refine b_new 4 xa_nil ?_
    refine b_forW (l := ties.map Tie.e) (Po := fun ds' => ds' = _) (fun i ds1 => ∃ x5 x6 x7 : Option Ent, ds1 = [some (.d rl.e), some (.d (.lst (ties.map Tie.e))), some (.d (dI h)), some (.d (.str w)), some (.m true (mL k (((ties.map (movT rl h w)).take i).map Tie.e))), x5, x6, x7]) g (.inl rfl) (x_name 1 rfl).xx (fun ds' e => ⟨_, _, _, e⟩) ?_ ?_
    · rintro i d ds1 hd1 ⟨x5, x6, x7, rfl⟩
      rw [List.getElem?_map] at hd1
      cases hx : ties[i]? with
      | none => rw [hx] at hd1; cases hd1
      | some x =>
        rw [hx] at hd1
        cases hd1
        have hxr := hr x (List.mem_of_getElem? hx)
        have hi : i < ties.length := (List.getElem?_eq_some_iff.mp hx).1
        refine ⟨_, xg_tup g (xgs_cons (xg_name 5) (xgs_cons (xg_name 6) (xgs_cons (xg_name 7) xgs_nil))), ?_⟩
        obtain ⟨o, t, r⟩ := x
        refine b_ifK (p := !isN (oD r) && decide (o = h)) (fun ds' => ds' = [some (.d rl.e), some (.d (.lst (ties.map Tie.e))), some (.d (dI h)), some (.d (.str w)), some (.m true (mL k (((ties.map (movT rl h w)).take i).map Tie.e))), some (.d (dI o)), some (.d (dI t)), some (.d (oD (stpR rl (("1." : PySem.Str) ++ w) (o = h) r)))]) ?_ (fun q => ?_) (fun q => ?_) ?_
        · refine t_w (w_and (t_c (q_notN (x_name (d := oD r) 7 rfl))) fun _ => w_and1 ?_)
          have e : eqD (dI o) (dI h) = decide (o = h) := by show decide _ = _; exact decide_eq_decide.mpr ⟨fun z => by omega, fun z => by omega⟩
          rw [← e]
          exact t_c (q_eq (x_name 5 rfl) (x_name 2 rfl) rfl)
        · cases r with
          | none => exact noT q
          | some y =>
            have q2 : o = h := of_decide_eq_true (by simpa [isN, oD] using q)
            refine b_asg 7 (x_call g (c_law_next hd) (by decide) (xa_cons (x_name 0 rfl) (xa_cons (x_name (d := dI y) 7 rfl) (xa_cons (x_adds x_str (x_name 3 rfl) (by show 2 + _ ≤ _; omega)) xa_nil))) ⟨rl, y, _, rfl, ok, hxr y rfl, rfl⟩) (b_nil ?_)
            rw [stpR, if_pos q2]; rfl
        · refine b_nil ?_
          cases r with
          | none => rfl
          | some y =>
            have q2 : ¬ o = h := of_decide_eq_false (by simpa [isN, oD] using q)
            rw [stpR, if_neg q2]; rfl
        · rintro _ rfl
          have hr1 := stpR_lt ok (w := ("1." : PySem.Str) ++ w) (p := o = h) hxr
          generalize hr1e : stpR rl (("1." : PySem.Str) ++ w) (o = h) r = r1 at hr1
          refine b_ifK (p := !isN (oD r1) && decide (t = h)) (fun ds' => ds' = [some (.d rl.e), some (.d (.lst (ties.map Tie.e))), some (.d (dI h)), some (.d (.str w)), some (.m true (mL k (((ties.map (movT rl h w)).take i).map Tie.e))), some (.d (dI o)), some (.d (dI t)), some (.d (oD (stpR rl (("2." : PySem.Str) ++ w) (t = h) r1)))]) ?_ (fun q => ?_) (fun q => ?_) ?_
          · refine t_w (w_and (t_c (q_notN (x_name (d := oD r1) 7 rfl))) fun _ => w_and1 ?_)
            have e : eqD (dI t) (dI h) = decide (t = h) := by show decide _ = _; exact decide_eq_decide.mpr ⟨fun z => by omega, fun z => by omega⟩
            rw [← e]
            exact t_c (q_eq (x_name 6 rfl) (x_name 2 rfl) rfl)
          · cases r1 with
            | none => exact noT q
            | some y =>
              have q2 : t = h := of_decide_eq_true (by simpa [isN, oD] using q)
              refine b_asg 7 (x_call g (c_law_next hd) (by decide) (xa_cons (x_name 0 rfl) (xa_cons (x_name (d := dI y) 7 rfl) (xa_cons (x_adds x_str (x_name 3 rfl) (by show 2 + _ ≤ _; omega)) xa_nil))) ⟨rl, y, _, rfl, ok, hr1 y rfl, rfl⟩) (b_nil ?_)
              rw [stpR, if_pos q2]; rfl
          · refine b_nil ?_
            cases r1 with
            | none => rfl
            | some y =>
              have q2 : ¬ t = h := of_decide_eq_false (by simpa [isN, oD] using q)
              rw [stpR, if_neg q2]
          · rintro _ rfl
            refine b_app 4 rfl g (x_tup (xa_cons (x_name 5 rfl) (xa_cons (x_name 6 rfl) (xa_cons (x_name 7 rfl) xa_nil)))) ?_ (by rw [List.length_map, List.length_take, List.length_map]; omega)
            refine b_nil ?_
            have e : (ties.map (movT rl h w)).take (i + 1) = (ties.map (movT rl h w)).take i ++ [movT rl h w ⟨o, t, r⟩] := by
              rw [List.take_add_one, List.getElem?_map, hx]; rfl
            show ∃ x5 x6 x7 : Option Ent, _ = _
            rw [e, List.map_append, ← hr1e]
            exact ⟨_, _, _, rfl⟩
    · rintro ds1 ⟨x5, x6, x7, rfl⟩
      refine b_frz 4 rfl (b_ret (x_name 4 rfl) ?_)
      show Dt.lst _ = _
      rw [List.take_of_length_le (by rw [List.length_map, List.length_map]; exact Nat.le_refl _)]
def tiedT (sl : List (Option Nat)) (s t : Nat) (ties : List Tie) : List Tie := match sl[s]?.getD none, sl[t]?.getD none with
  | some o, some p => if o = p ∨ max o p > 5 ∨ ties.length > 5 then ties else ties ++ [⟨o, p, some 0⟩]
  | _, _ => ties
def F_law_tied (k : Kw) : FM := fun u ds R => ∃ (sl : List (Option Nat)) (l : Int) (s t : Nat) (ties : List Tie), u = mL k (sl.map oD) ∧ ds = [(Row.tie l s t).e, .lst (ties.map Tie.e)] ∧ s < sl.length ∧ t < sl.length ∧ ties.length ≤ 1000 ∧ R = fun d u' => d = .lst ((tiedT sl s t ties).map Tie.e) ∧ u' = u
theorem c_law_tied (hd : Hd k) : CalK k 1 "_law_tied" (spM k (F_law_tied k)) := by
  refine defM (N := ["_law_slots_here", "_law_row", "_law_ties", "_law_one", "_law_other"]) (ps := ["_law_slots_here", "_law_row", "_law_ties"]) (st := s_law_tied) (hd.def_ 46 42 101 rfl rfl rfl) (fun _ _ _ _ _ _ us hl => match us, hl with | [_, _, _], _ => rfl) (by decide +kernel) (fun u ds R h => ?_) (fun f cdv A outer s H E g u ds R h => ?_)
  · obtain ⟨sl, l, s, t, ties, rfl, rfl, _⟩ := h; rfl
  · obtain ⟨sl, l, s, t, ties, rfl, rfl, hs, ht, hl, rfl⟩ := h
    have at_ : ∀ {i : Nat}, (hi : i < sl.length) → atI (sl.map oD) (i : Int) = some (oD sl[i]) := fun hi => atI_nat (by rw [List.getElem?_map, List.getElem?_eq_getElem hi]; rfl)
    refine b_asg 3 (x_ixM g 0 rfl (x_ixT (d := dI s) g (x_name 1 rfl) x_int rfl) (at_ hs)) ?_
    refine b_asg 4 (x_ixM g 0 rfl (x_ixT (d := dI t) g (x_name 1 rfl) x_int rfl) (at_ ht)) ?_
    have es : sl[s]?.getD none = sl[s] := by rw [List.getElem?_eq_getElem hs]; rfl
    have et : sl[t]?.getD none = sl[t] := by rw [List.getElem?_eq_getElem ht]; rfl
    unfold tiedT
    rw [es, et]
    generalize sl[s] = a
    generalize sl[t] = b
    cases a with
    | none => exact b_ifT (t_w (w_or (q := false) (t_c (q_isN (x_name (d := .non) 3 rfl))) fun q => noF q)) (b_ret (x_name 2 rfl) ⟨_, rfl, rfl, rfl⟩)
    | some o =>
      cases b with
      | none => exact b_ifT (t_w (w_or (t_c (q_isN (x_name (d := dI o) 3 rfl))) fun _ => w_or (q := false) (t_c (q_isN (x_name (d := .non) 4 rfl))) fun q => noF q)) (b_ret (x_name 2 rfl) ⟨_, rfl, rfl, rfl⟩)
      | some p =>
        refine b_if (t_w (w_or (t_c (q_isN (x_name (d := dI o) 3 rfl))) fun _ => w_or (t_c (q_isN (x_name (d := dI p) 4 rfl))) fun _ => w_or (t_c (q_eq (x_name (d := dI o) 3 rfl) (x_name (d := dI p) 4 rfl) rfl)) fun _ => w_or (t_c (q_gt (x_max2 g hd.max (xa_cons (x_name (d := dI o) 3 rfl) (xa_cons (x_name (d := dI p) 4 rfl) xa_nil))) x_int)) fun _ => w_or1 (t_c (q_gt (x_len g hd.len (x_name 2 rfl) rfl) x_int)))) (fun q => ?_) (fun q => ?_)
        all_goals
          have e1 : eqD (dI o) (dI p) = decide (o = p) := by show decide _ = _; exact decide_eq_decide.mpr ⟨fun z => by omega, fun z => by omega⟩
          have e2 : (decide ((5 : Int) < (if (p : Int) > (o : Int) then (p : Int) else (o : Int)))) = decide (max o p > 5) := decide_eq_decide.mpr (by split <;> omega)
          have e3 : (decide ((5 : Int) < (((ties.map Tie.e).length : Nat) : Int))) = decide (ties.length > 5) := decide_eq_decide.mpr (by rw [List.length_map]; omega)
          rw [e1, e2, e3] at q
          simp only [isN, Bool.false_or] at q
        · have q' : o = p ∨ max o p > 5 ∨ ties.length > 5 := by simpa using q
          refine b_ret (x_name 2 rfl) ⟨_, rfl, ?_, rfl⟩
          show _ = Dt.lst (List.map Tie.e (if o = p ∨ max o p > 5 ∨ ties.length > 5 then ties else _))
          rw [if_pos q']
        · have q' : ¬ (o = p ∨ max o p > 5 ∨ ties.length > 5) := by simpa using q
          refine b_nil (b_ret (x_catL (x_name 2 rfl) (x_lst (xa_cons (x_tup (xa_cons (x_name (d := dI o) 3 rfl) (xa_cons (x_name (d := dI p) 4 rfl) (xa_cons x_int xa_nil)))) xa_nil)) (by rw [List.length_map]; simp only [List.length_cons, List.length_nil]; omega)) ⟨_, rfl, ?_, rfl⟩)
          show _ = Dt.lst (List.map Tie.e (if o = p ∨ max o p > 5 ∨ ties.length > 5 then ties else _))
          rw [if_neg q', List.map_append]; rfl
end
end Uw
end
section
set_option Elab.async false
set_option linter.all false
set_option maxRecDepth 100000
set_option maxHeartbeats 4000000
namespace Uw
open PySem PySem.Spec PyProof.Rows L2 Evl
/-! sums of handles -/
def sumB : List Bool → Nat → Nat
  | _, 0 => 0
  | bs, i + 1 => sumB bs i + (if bs[i]? = some true then 2 ^ i else 0)
def hB (h : Nat) (sl : List (Option Nat)) : List Bool := sl.map fun x => decide (x = some h)
theorem sumI_B (sl : List (Option Nat)) (h : Nat) : ∀ i, sumI sl h i = sumB (hB h sl) i
  | 0 => rfl
  | i + 1 => by
    rw [sumI, sumB, sumI_B sl h i]
    congr 1
    rw [hB, List.getElem?_map]
    cases q : sl[i]? with
    | none => rw [if_neg (by simp), if_neg (by simp)]
    | some x =>
      by_cases z : x = some h
      · rw [if_pos (by rw [z]), if_pos (by simp [z])]
      · rw [if_neg (fun w => z (Option.some.inj w)), if_neg (by simp [z])]
theorem sumS_B (sl : List (Option Nat)) (h : Nat) : sumS sl h = sumB (hB h sl) (hB h sl).length := by
  rw [sumS, sumI_B, hB, List.length_map]
def allBs (P : List Bool → Bool) : Bool := P [] && ([false, true].all fun a => P [a] && ([false, true].all fun b => P [a, b] && ([false, true].all fun c => P [a, b, c])))
theorem allBs_ok {P : List Bool → Bool} (h : allBs P = true) : ∀ bs : List Bool, bs.length ≤ 3 → P bs = true := by
  unfold allBs at h
  simp only [List.all_cons, List.all_nil, Bool.and_true, Bool.and_eq_true] at h
  intro bs hl
  match bs, hl with
  | [], _ => exact h.1
  | [a], _ => cases a <;> simp_all
  | [a, b], _ => cases a <;> cases b <;> simp_all
  | [a, b, c], _ => cases a <;> cases b <;> cases c <;> simp_all
  | a :: b :: c :: d :: r, h => simp at h
theorem sumB_facts : ∀ bs : List Bool, bs.length ≤ 3 → (decide (sumB bs bs.length < 8) && (List.range 3).all fun s => (decide ((sumB bs bs.length).testBit s = decide (bs[s]? = some true)) && (decide (bs.length ≤ s) || (decide (sumB (bs.set s true) bs.length = withS (sumB bs bs.length) s) && decide (sumB (bs.set s false) bs.length = withoutS (sumB bs bs.length) s))))) = true :=
  allBs_ok (by decide +kernel)
theorem sumS_lt {sl : List (Option Nat)} (hl : sl.length ≤ 3) (h : Nat) : sumS sl h < 8 := by
  have := sumB_facts (hB h sl) (by rw [hB, List.length_map]; exact hl)
  rw [Bool.and_eq_true] at this
  rw [sumS_B]; exact of_decide_eq_true this.1
theorem sumS_bit {sl : List (Option Nat)} (hl : sl.length ≤ 3) (h : Nat) {s : Nat} (hs : s < 3) : (sumS sl h).testBit s = decide (sl[s]? = some (some h)) := by
  have := sumB_facts (hB h sl) (by rw [hB, List.length_map]; exact hl)
  rw [Bool.and_eq_true, List.all_eq_true] at this
  have := this.2 s (List.mem_range.mpr hs)
  rw [Bool.and_eq_true] at this
  rw [sumS_B, of_decide_eq_true this.1]
  rw [hB, List.getElem?_map]
  cases q : sl[s]? with
  | none => simp
  | some x => simp
theorem hB_set (h : Nat) (sl : List (Option Nat)) (s : Nat) (x : Option Nat) : hB h (sl.set s x) = (hB h sl).set s (decide (x = some h)) := by rw [hB, List.map_set]; rfl
theorem sumS_set {sl : List (Option Nat)} (hl : sl.length ≤ 3) (h : Nat) {s : Nat} (hs : s < sl.length) (x : Option Nat) : sumS (sl.set s x) h = if x = some h then withS (sumS sl h) s else withoutS (sumS sl h) s := by
  have := sumB_facts (hB h sl) (by rw [hB, List.length_map]; exact hl)
  rw [Bool.and_eq_true, List.all_eq_true] at this
  have := this.2 s (List.mem_range.mpr (by omega))
  rw [Bool.and_eq_true, Bool.or_eq_true, Bool.and_eq_true] at this
  have h2 := this.2.resolve_left (by rw [hB, List.length_map]; simp; omega)
  rw [sumS_B, sumS_B, hB_set, List.length_set]
  by_cases z : x = some h
  · rw [if_pos z, decide_eq_true z]; exact of_decide_eq_true h2.1
  · rw [if_neg z, decide_eq_false z]; exact of_decide_eq_true h2.2
theorem sumI_zero {sl : List (Option Nat)} {h : Nat} (hn : some h ∉ sl) : ∀ i, sumI sl h i = 0
  | 0 => rfl
  | i + 1 => by
    rw [sumI, sumI_zero hn i, if_neg fun z => hn (List.mem_of_getElem? z)]
theorem sumS_zero {sl : List (Option Nat)} {h : Nat} (hn : some h ∉ sl) : sumS sl h = 0 := sumI_zero hn _
/-! the code's rows -/
theorem codeW_at {code : List Row} (w : CodeW code) {p : Nat} {r : Row} (h : code[p]? = some r) : p < code.length ∧ ((p + 1 < code.length ∧ RowAt 0 (code.length - 1) (code.take (code.length - 1)) p r) ∨ (p + 1 = code.length ∧ ∃ l, r = .fin l)) := by
  have hp := (List.getElem?_eq_some_iff.mp h).1
  refine ⟨hp, ?_⟩
  by_cases z : p + 1 < code.length
  · left
    refine ⟨z, ?_⟩
    have e : (code.take (code.length - 1))[p]? = some r := by rw [List.getElem?_take, if_pos (by omega)]; exact h
    have := w.seg p r e
    rwa [List.length_take, Nat.min_eq_left (by omega)] at this
  · right
    refine ⟨by omega, ?_⟩
    obtain ⟨l, hl⟩ := w.last
    rw [show code.length - 1 = p by omega, h] at hl
    exact ⟨l, Option.some.inj hl⟩
theorem codeW_tst {code : List Row} (w : CodeW code) {p t : Nat} {l b : Int} (h : code[p]? = some (.tst l b t)) : p < t ∧ t < code.length := by
  obtain ⟨h0, h1 | ⟨_, l, h1⟩⟩ := codeW_at w h
  · have h3 : 0 + p < t ∧ t ≤ 0 + (code.length - 1) := h1.2.2
    omega
  · cases h1
theorem codeW_jmp {code : List Row} (w : CodeW code) {p t : Nat} {l : Int} (h : code[p]? = some (.jmp l t)) : (p < t ∧ t < code.length) ∨ (t < p ∧ ∃ l b, code[t]? = some (.tst l b (p + 1))) := by
  obtain ⟨h0, h1 | ⟨_, l, h1⟩⟩ := codeW_at w h
  · have h3 : (0 + p < t ∧ t ≤ 0 + (code.length - 1)) ∨ (0 ≤ t ∧ t < 0 + p ∧ ∃ l b, (code.take (code.length - 1))[t - 0]? = some (.tst l b (0 + p + 1))) := h1.2.2
    rcases h3 with h3 | ⟨_, h3, l', b', h4⟩
    · left; omega
    · right
      refine ⟨by omega, l', b', ?_⟩
      rw [Nat.sub_zero, List.getElem?_take, if_pos (by omega), Nat.zero_add] at h4
      exact h4
  · cases h1
theorem codeW_nx {code : List Row} (w : CodeW code) {p : Nat} {r : Row} (h : code[p]? = some r) (hn : ∀ l, r ≠ .fin l) : p + 1 < code.length := by
  obtain ⟨h0, h1 | ⟨_, l, h1⟩⟩ := codeW_at w h
  · exact h1.1
  · exact absurd h1 (hn l)
theorem codeW_ok {code : List Row} (w : CodeW code) : ∀ r ∈ code, r.ok := fun r hr => by
  obtain ⟨p, hp⟩ := List.mem_iff_getElem?.mp hr
  obtain ⟨h0, h1 | ⟨_, l, h1⟩⟩ := codeW_at w hp
  · exact h1.2.1
  · rw [h1]; trivial
theorem codeW_G {code : List Row} (w : CodeW code) (hl : code.length ≤ 150) : CodeG code := by
  obtain ⟨m, hm⟩ := w.n
  refine ⟨by omega, hl, codeW_ok w, fun i r hr j hj => ?_⟩
  cases r with
  | fin l => cases hj
  | jmp l t =>
    rw [List.mem_singleton.mp hj]
    rcases codeW_jmp w hr with h | ⟨h, _⟩
    · exact h.2
    · have := (List.getElem?_eq_some_iff.mp hr).1; omega
  | tst l b t =>
    have h1 := codeW_tst w hr
    have h2 := codeW_nx w hr fun l z => nomatch z
    have hj' : j = i + 1 ∨ j = t := by simpa [succs] using hj
    rcases hj' with rfl | rfl
    · exact h2
    · exact h1.2
  | _ =>
    rw [List.mem_singleton.mp hj]
    exact codeW_nx w hr fun l z => nomatch z
/-! how long a run may be -/
def isTst : Option Row → Option Nat
  | some (.tst _ _ t) => some t
  | _ => none
def Phi (code : List Row) (r p : Nat) : Nat := match r, isTst code[p]? with
  | 0, some t => 2 * (code.length - t) + 1
  | 0, none => 2 * (code.length - p)
  | r + 1, some _ => (r + 1) * (code.length + 1) + code.length
  | r + 1, none => (r + 1) * (code.length + 1) + code.length + (code.length - p)
theorem isTst_some {code : List Row} {p t : Nat} (h : isTst code[p]? = some t) : ∃ l b, code[p]? = some (.tst l b t) := by
  cases q : code[p]? with
  | none => rw [q] at h; cases h
  | some r => rw [q] at h; cases r <;> cases h; exact ⟨_, _, rfl⟩
/-- forward, no test here -/
theorem phi_fwd {code : List Row} (w : CodeW code) {r p q : Nat} (hp : isTst code[p]? = none) (h1 : p < q) (h2 : q < code.length) : Phi code r q < Phi code r p := by
  unfold Phi
  rw [hp]
  cases hq : isTst code[q]? with
  | none => cases r <;> dsimp only <;> omega
  | some t =>
    obtain ⟨l, b, e⟩ := isTst_some hq
    have := codeW_tst w e
    cases r <;> dsimp only <;> omega
/-- back to a loop's test -/
theorem phi_back {code : List Row} (w : CodeW code) {r p q : Nat} {l b : Int} (hp : isTst code[p]? = none) (h1 : p + 1 < code.length) (h2 : code[q]? = some (.tst l b (p + 1))) : Phi code r q < Phi code r p := by
  unfold Phi
  rw [hp, h2]
  cases r <;> dsimp only [isTst] <;> omega
/-- a test with input left -/
theorem phi_tst {code : List Row} (w : CodeW code) {r p q : Nat} {l b : Int} {t : Nat} (hp : code[p]? = some (.tst l b t)) (h1 : p < q) (h2 : q < code.length) : Phi code r q < Phi code (r + 1) p := by
  unfold Phi
  rw [hp]
  cases hq : isTst code[q]? with
  | none =>
    cases r with
    | zero => dsimp only [isTst]; omega
    | succ r => dsimp only [isTst]; rw [Nat.succ_mul (r + 1)]; omega
  | some t' =>
    obtain ⟨l, b, e⟩ := isTst_some hq
    have := codeW_tst w e
    cases r with
    | zero => dsimp only [isTst]; omega
    | succ r => dsimp only [isTst]; rw [Nat.succ_mul (r + 1)]; omega
/-- a test with none left goes to its target -/
theorem phi_tst0 {code : List Row} (w : CodeW code) {p : Nat} {l b : Int} {t : Nat} (hp : code[p]? = some (.tst l b t)) : Phi code 0 t < Phi code 0 p := by
  have ht := codeW_tst w hp
  unfold Phi
  rw [hp]
  cases hq : isTst code[t]? with
  | none => dsimp only [isTst]; omega
  | some t' =>
    obtain ⟨l, b, e⟩ := isTst_some hq
    have := codeW_tst w e
    dsimp only [isTst]; omega
theorem phi_le {code : List Row} (w : CodeW code) {r : Nat} (hr : r ≤ 12) (hl : code.length ≤ 94) : Phi code r 0 ≤ 1400 := by
  have hm : r * (code.length + 1) ≤ 12 * 95 := Nat.mul_le_mul hr (by omega)
  unfold Phi
  cases hq : isTst code[0]? with
  | none => cases r <;> dsimp only <;> omega
  | some t => cases r <;> dsimp only <;> omega
theorem phi_pos {code : List Row} {r p : Nat} (hp : p < code.length) : 0 < Phi code r p := by
  unfold Phi
  cases hq : isTst code[p]? with
  | none => cases r <;> dsimp only <;> omega
  | some t =>
    cases r with
    | zero => dsimp only; omega
    | succ r => dsimp only; omega
end Uw
end
section
set_option Elab.async false
set_option linter.all false
set_option maxRecDepth 100000
set_option maxHeartbeats 4000000
namespace Uw
open PySem PySem.Spec PyProof.Rows L2 Evl
/-- what the run keeps -/
structure RJ (rl : Rule) (K : List (List OT)) (p : Nat) (sl : List (Option Nat)) (many : Nat) (ties : List Tie) : Prop where
  root : At K p none
  hs : ∀ h, some h ∈ sl → h < many
  sl3 : sl.length ≤ 3
  one : ∀ h, h < many → At K p (some (.a (sumS sl h)))
  two : ∀ a b, a < many → b < many → a ≠ b → At K p (some (.b (sumS sl a) (sumS sl b) (older a b)))
  tie : ∀ x ∈ ties, x.o < many ∧ x.t < many ∧ x.o ≠ x.t ∧ ∀ r, x.r = some r → r < rl.rooms.length ∧ At K p (some (.c (sumS sl x.o) (sumS sl x.t) (older x.o x.t) r))
  few : ties.length ≤ 6
section
variable {code : List Row} {rl : Rule} {K : List (List OT)} {p j : Nat} {sl : List (Option Nat)} {many : Nat} {ties : List Tie} {r : Row}
theorem tr_beh (hC : ∀ i t, At K i t → Cl code rl K i t) (hr : code[p]? = some r) (hj : j ∈ succs r p) {x y : Tok} (h : At K p (some x)) (hb : behT rl r x = some y) : At K j (some y) :=
  hC p _ h r hr _ (List.mem_append_right _ (by rw [hb]; exact List.mem_singleton.mpr rfl)) j hj
theorem tr_beg (hC : ∀ i t, At K i t → Cl code rl K i t) (hr : code[p]? = some r) (hj : j ∈ succs r p) {x : Option Tok} {y : Tok} (h : At K p x) (hb : y ∈ begT r x) : At K j (some y) := by
  cases x with
  | none => exact hC p _ h r hr _ (List.mem_cons_of_mem _ (List.mem_map_of_mem hb)) j hj
  | some x => exact hC p _ h r hr _ (List.mem_append_left _ (List.mem_map_of_mem hb)) j hj
theorem tr_root (hC : ∀ i t, At K i t → Cl code rl K i t) (hr : code[p]? = some r) (hj : j ∈ succs r p) (h : At K p none) : At K j none :=
  hC p _ h r hr _ List.mem_cons_self j hj
theorem no_fin (hj : j ∈ succs r p) : r.isFin = false := by
  cases r <;> first | rfl | cases hj
theorem behT_a (h : r.isFin = false) {x : Nat} : behT rl r (.a x) = some (.a (behS r x)) := by
  cases r <;> first | rfl | cases h
theorem behT_b (h : r.isFin = false) {x y o : Nat} : behT rl r (.b x y o) = some (.b (behS r x) (behS r y) o) := by
  cases r <;> first | rfl | cases h
theorem behT_c (h : r.isFin = false) {x y o m m' : Nat} (hm : roomR rl r x y m = some m') : behT rl r (.c x y o m) = some (.c (behS r x) (behS r y) o m') := by
  have e : behT rl r (.c x y o m) = (roomR rl r x y m).map fun m' => .c (behS r x) (behS r y) o m' := by
    cases r <;> first | rfl | (cases h; done)
  rw [e, hm]; rfl
theorem stpR_s {w : PySem.Str} {p : Prop} [Decidable p] {y : Nat} : stpR rl w p (some y) = if p then nextR rl y w else some y := rfl
def Row.isAct : Row → Bool
  | .act _ _ _ => true
  | _ => false
theorem roomR_no (h : r.isAct = false) {x y m : Nat} : roomR rl r x y m = some m := by
  cases r <;> first | rfl | cases h
/-- the old handles go through a row that is no act -/
theorem RJ.old (J : RJ rl K p sl many ties) (hC : ∀ i t, At K i t → Cl code rl K i t) (hr : code[p]? = some r) (hj : j ∈ succs r p) (ha : r.isAct = false) {sl' : List (Option Nat)} (h3 : sl'.length ≤ 3) (hs : ∀ h, some h ∈ sl' → h < many) (hS : ∀ h, h < many → sumS sl' h = behS r (sumS sl h)) : RJ rl K j sl' many ties := by
  have nf := no_fin hj
  refine ⟨tr_root hC hr hj J.root, hs, h3, fun h hh => ?_, fun a b h1 h2 h3 => ?_, fun x hx => ?_, J.few⟩
  · rw [hS h hh]; exact tr_beh hC hr hj (J.one h hh) (behT_a nf)
  · rw [hS a h1, hS b h2]; exact tr_beh hC hr hj (J.two a b h1 h2 h3) (behT_b nf)
  · obtain ⟨h1, h2, h3, h4⟩ := J.tie x hx
    refine ⟨h1, h2, h3, fun q hq => ⟨(h4 q hq).1, ?_⟩⟩
    rw [hS _ h1, hS _ h2]; exact tr_beh hC hr hj (h4 q hq).2 (behT_c nf (roomR_no ha))
theorem RJ.tst (J : RJ rl K p sl many ties) (hC : ∀ i t, At K i t → Cl code rl K i t) {l b : Int} {t : Nat} (hr : code[p]? = some (.tst l b t)) (hj : j ∈ succs (.tst l b t) p) : RJ rl K j sl many ties :=
  J.old hC hr hj rfl J.sl3 J.hs fun _ _ => rfl
theorem RJ.jmp (J : RJ rl K p sl many ties) (hC : ∀ i t, At K i t → Cl code rl K i t) {l : Int} {t : Nat} (hr : code[p]? = some (.jmp l t)) : RJ rl K t sl many ties :=
  J.old hC hr (List.mem_singleton.mpr rfl) rfl J.sl3 J.hs fun _ _ => rfl
theorem RJ.drp (J : RJ rl K p sl many ties) (hC : ∀ i t, At K i t → Cl code rl K i t) {l : Int} {s : Nat} (hr : code[p]? = some (.drp l s)) (hs : s < sl.length) : RJ rl K (p + 1) (sl.set s none) many ties :=
  J.old hC hr (List.mem_singleton.mpr rfl) rfl (by rw [List.length_set]; exact J.sl3) (fun h hh => by
    rcases List.mem_or_eq_of_mem_set hh with z | z
    · exact J.hs h z
    · cases z) fun h _ => by rw [sumS_set J.sl3 h hs]; rfl
theorem RJ.cpy (J : RJ rl K p sl many ties) (hC : ∀ i t, At K i t → Cl code rl K i t) {l : Int} {s t : Nat} (hr : code[p]? = some (.cpy l s t)) (hs : s < sl.length) (ht : t < sl.length) : RJ rl K (p + 1) (sl.set s (sl[t])) many ties :=
  J.old hC hr (List.mem_singleton.mpr rfl) rfl (by rw [List.length_set]; exact J.sl3) (fun h hh => by
    rcases List.mem_or_eq_of_mem_set hh with z | z
    · exact J.hs h z
    · exact J.hs h (by rw [z]; exact List.getElem_mem ht)) fun h _ => by
      have h3 := J.sl3
      rw [sumS_set J.sl3 h hs]
      show _ = copyS _ _ _
      rw [copyS, sumS_bit J.sl3 h (s := t) (by omega), List.getElem?_eq_getElem ht]
      by_cases z : sl[t] = some h
      · rw [if_pos z, if_pos (by simp [z])]
      · rw [if_neg z, if_neg (by simp [z])]
theorem RJ.opn (J : RJ rl K p sl many ties) (hC : ∀ i t, At K i t → Cl code rl K i t) {l : Int} {s : Nat} (hr : code[p]? = some (.opn l s)) (hs : s < sl.length) : RJ rl K (p + 1) (sl.set s (some many)) (many + 1) ties := by
  have hj : p + 1 ∈ succs (.opn l s) p := List.mem_singleton.mpr rfl
  have new : some many ∉ sl := fun z => absurd (J.hs many z) (by omega)
  have hold : ∀ h, h < many → sumS (sl.set s (some many)) h = withoutS (sumS sl h) s := fun h hh => by rw [sumS_set J.sl3 h hs, if_neg (fun z => by cases z; omega)]
  have hnew : sumS (sl.set s (some many)) many = withS 0 s := by rw [sumS_set J.sl3 many hs, if_pos rfl, sumS_zero new]
  refine ⟨tr_root hC hr hj J.root, fun h hh => ?_, by rw [List.length_set]; exact J.sl3, fun h hh => ?_, fun a b h1 h2 h3 => ?_, fun x hx => ?_, J.few⟩
  · rcases List.mem_or_eq_of_mem_set hh with z | z
    · exact Nat.lt_succ_of_lt (J.hs h z)
    · cases z; exact Nat.lt_succ_self _
  · by_cases z : h = many
    · rw [z, hnew]; exact tr_beg hC hr hj J.root List.mem_cons_self
    · rw [hold h (by omega)]; exact tr_beh hC hr hj (J.one h (by omega)) (behT_a rfl)
  · by_cases z1 : a = many
    · have hb : b < many := by omega
      rw [z1, hnew, hold b hb, show older many b = 2 by rw [older, if_pos hb]]
      exact tr_beg hC hr hj (J.one b hb) (List.mem_cons_of_mem _ (List.mem_cons_of_mem _ List.mem_cons_self))
    · by_cases z2 : b = many
      · have ha : a < many := by omega
        rw [z2, hnew, hold a ha, show older a many = 1 by rw [older, if_neg (by omega)]]
        exact tr_beg hC hr hj (J.one a ha) (List.mem_cons_of_mem _ List.mem_cons_self)
      · rw [hold a (by omega), hold b (by omega)]; exact tr_beh hC hr hj (J.two a b (by omega) (by omega) h3) (behT_b rfl)
  · obtain ⟨h1, h2, h3, h4⟩ := J.tie x hx
    refine ⟨by omega, by omega, h3, fun q hq => ⟨(h4 q hq).1, ?_⟩⟩
    rw [hold _ h1, hold _ h2]; exact tr_beh hC hr hj (h4 q hq).2 (behT_c rfl rfl)
theorem RJ.act0 (J : RJ rl K p sl many ties) (hC : ∀ i t, At K i t → Cl code rl K i t) {l : Int} {s : Nat} {w : PySem.Str} (hr : code[p]? = some (.act l s w)) (hs : s < sl.length) (hx : sl[s] = none) : RJ rl K (p + 1) sl many ties := by
  have hj : p + 1 ∈ succs (.act l s w) p := List.mem_singleton.mpr rfl
  have h3 := J.sl3
  have bit : ∀ h, (sumS sl h).testBit s = false := fun h => by rw [sumS_bit J.sl3 h (by omega), List.getElem?_eq_getElem hs, hx]; simp
  refine ⟨tr_root hC hr hj J.root, J.hs, J.sl3, fun h hh => tr_beh hC hr hj (J.one h hh) (behT_a rfl), fun a b h1 h2 h3 => tr_beh hC hr hj (J.two a b h1 h2 h3) (behT_b rfl), fun x hx => ?_, J.few⟩
  obtain ⟨h1, h2, h3, h4⟩ := J.tie x hx
  refine ⟨h1, h2, h3, fun q hq => ⟨(h4 q hq).1, tr_beh hC hr hj (h4 q hq).2 (behT_c rfl ?_)⟩⟩
  rw [roomR, textsR]
  simp only [bit]
  rfl
theorem RJ.act (J : RJ rl K p sl many ties) (ok : rl.ok) (hC : ∀ i t, At K i t → Cl code rl K i t) {l : Int} {s : Nat} {w : PySem.Str} {h0 : Nat} (hr : code[p]? = some (.act l s w)) (hs : s < sl.length) (hx : sl[s] = some h0) : RJ rl K (p + 1) sl many (ties.map (movT rl h0 w)) := by
  have hj : p + 1 ∈ succs (.act l s w) p := List.mem_singleton.mpr rfl
  have h3 := J.sl3
  have bit : ∀ h, (sumS sl h).testBit s = decide (h = h0) := fun h => by
    rw [sumS_bit J.sl3 h (by omega), List.getElem?_eq_getElem hs, hx]
    by_cases z : h = h0
    · simp [z]
    · rw [decide_eq_false z, decide_eq_false (fun y => z (Option.some.inj (Option.some.inj y)).symm)]
  refine ⟨tr_root hC hr hj J.root, J.hs, J.sl3, fun h hh => tr_beh hC hr hj (J.one h hh) (behT_a rfl), fun a b h1 h2 h3 => tr_beh hC hr hj (J.two a b h1 h2 h3) (behT_b rfl), fun x' hx' => ?_, by rw [List.length_map]; exact J.few⟩
  obtain ⟨x, hx, rfl⟩ := List.mem_map.mp hx'
  obtain ⟨h1, h2, h3, h4⟩ := J.tie x hx
  refine ⟨h1, h2, h3, fun q hq => ?_⟩
  obtain ⟨o, t, r⟩ := x
  dsimp only at h1 h2 h3 h4
  have hq' : stpR rl (("2." : PySem.Str) ++ w) (t = h0) (stpR rl (("1." : PySem.Str) ++ w) (o = h0) r) = some q := hq
  refine ⟨stpR_lt ok (stpR_lt ok fun y hy => (h4 y hy).1) q hq', ?_⟩
  cases r with
  | none => cases hq'
  | some m =>
    refine tr_beh hC hr hj (h4 m rfl).2 (behT_c rfl ?_)
    rw [roomR, textsR, bit, bit]
    by_cases z1 : o = h0
    · have z2 : ¬ t = h0 := fun z => h3 (by rw [z1, z])
      rw [decide_eq_true z1]
      rw [stpR_s, if_pos z1] at hq'
      show nextR rl m _ = _
      cases hn : nextR rl m (("1." : PySem.Str) ++ w) with
      | none => rw [hn] at hq'; cases hq'
      | some y => rw [hn, stpR_s, if_neg z2] at hq'; exact hq'
    · rw [decide_eq_false z1]
      have e : stpR rl (("1." : PySem.Str) ++ w) (o = h0) (some m) = some m := by rw [stpR_s, if_neg z1]
      rw [e, stpR_s] at hq'
      by_cases z2 : t = h0
      · rw [decide_eq_true z2]
        rw [if_pos z2] at hq'
        exact hq'
      · rw [decide_eq_false z2]
        rw [if_neg z2] at hq'
        exact hq'
theorem RJ.tie_ (J : RJ rl K p sl many ties) (ok : rl.ok) (hC : ∀ i t, At K i t → Cl code rl K i t) {l : Int} {s t : Nat} (hr : code[p]? = some (.tie l s t)) (hs : s < sl.length) (ht : t < sl.length) : RJ rl K (p + 1) sl many (tiedT sl s t ties) := by
  have hj : p + 1 ∈ succs (.tie l s t) p := List.mem_singleton.mpr rfl
  have h3 := J.sl3
  have J' : RJ rl K (p + 1) sl many ties := J.old hC hr hj rfl J.sl3 J.hs fun _ _ => rfl
  unfold tiedT
  rw [List.getElem?_eq_getElem hs, List.getElem?_eq_getElem ht]
  cases e1 : sl[s] with
  | none => exact J'
  | some o =>
    cases e2 : sl[t] with
    | none => exact J'
    | some q =>
      show RJ rl K (p + 1) sl many (if o = q ∨ max o q > 5 ∨ ties.length > 5 then ties else ties ++ [⟨o, q, some 0⟩])
      by_cases z : o = q ∨ max o q > 5 ∨ ties.length > 5
      · rw [if_pos z]; exact J'
      · rw [if_neg z]
        have ho : o < many := J.hs o (by rw [← e1]; exact List.getElem_mem hs)
        have hq : q < many := J.hs q (by rw [← e2]; exact List.getElem_mem ht)
        have hne : o ≠ q := fun w => z (.inl w)
        refine ⟨J'.root, J'.hs, J'.sl3, J'.one, J'.two, fun x hx => ?_, by rw [List.length_append]; simp only [List.length_cons, List.length_nil]; omega⟩
        rcases List.mem_append.mp hx with w | w
        · exact J'.tie x w
        · rw [List.mem_singleton.mp w]
          refine ⟨ho, hq, hne, fun m hm => ?_⟩
          cases hm
          refine ⟨ok.pos, tr_beg hC hr hj (J.two o q ho hq hne) ?_⟩
          have b1 : (sumS sl o).testBit s = true := by rw [sumS_bit J.sl3 o (by omega), List.getElem?_eq_getElem hs, e1]; simp
          have b2 : (sumS sl q).testBit t = true := by rw [sumS_bit J.sl3 q (by omega), List.getElem?_eq_getElem ht, e2]; simp
          show _ ∈ (if _ then _ else _)
          rw [if_pos ⟨b1, b2⟩]
          exact List.mem_singleton.mpr rfl
theorem RJ.start {K : List (List OT)} (h : At K 0 none) (m : Nat) (hm : m ≤ 3) : RJ rl K 0 (List.replicate m none) 0 [] :=
  ⟨h, fun h hh => (nomatch (List.eq_of_mem_replicate hh)), (by rw [List.length_replicate]; exact hm), fun h hh => absurd hh (Nat.not_lt_zero h), fun a b h1 => absurd h1 (Nat.not_lt_zero a), fun x hx => absurd hx List.not_mem_nil, Nat.zero_le _⟩
end
end Uw
end
section
set_option Elab.async false
set_option linter.all false
set_option maxRecDepth 100000
set_option maxHeartbeats 4000000
namespace Uw
open PySem PySem.Spec PyProof.Rows L2 Evl
section
variable {X : Cx} {k : Kw} {lv : Nat} {ds : EV} {e a b c : Expr} {pos pp : Pos} {rest s : List Stmt} {N : EV → Prop} {R : Ent → EV → Prop}
/-- if not e: .., e a call that says True -/
theorem b_ifNX {Po : Dt → EV → Prop} (h : XX (yX X) k e ds Po) (m : ∀ d ds', Po d ds' → d = .bl true ∧ XB X k rest ds' N R) (hs : ∀ (whole : Sem Value), PySem.isTrue e X.env whole = (do let v ← whole; standAt e.pos; holding [v] (truthy v)) := by intro whole; rfl) : XB X k (.If (.UnaryOp .Not e pp) s [] pos :: rest) ds N R := by
  refine b_st (ps_if (pt_not (pt_val (pe_tE (Y := yX X) ()) hs)) (ps_tB (sts := s)) (ps_tB (sts := []))) fun M G0 G σ H0 H D E n r => ?_
  refine h M G0 G σ H0 H E _ fun v H1 H1' d ds1 p1 E1 e1 r1 => ?_
  obtain ⟨rfl, hm⟩ := m d ds1 p1
  cases r1
  refine ⟨true, rfl, ?_⟩
  have z : XB X k [] ds1 (fun ds' => XB X k rest ds' N R) R := b_nil hm
  exact z M G0 G σ H1 H1' D E1 (fun σ' H0' H' ds' q E' ex => n σ' H0' H' ds' q E' (e1.trans ex)) r
end
section
variable {ι : Type} {Y : ι → Cx} {k : Kw} {ds : EV} {a b c : Expr} {pos : Pos}
theorem x_ifT {d : Dt} {p : Bool} (hc : XT Y k c ds p) (ha : p = true → XD Y k a ds d) (hb : p = false → XD Y k b ds d) : XD Y k (.IfExp c a b pos) ds d := by
  obtain ⟨tc, pc, ec⟩ := hc
  obtain ⟨ta, pa, ea⟩ := x_opt ha
  obtain ⟨tb, pb, eb⟩ := x_opt hb
  refine ⟨_, fun i => pe_ifExp (pc i) (pa i) (pb i), fun M G0 G σ H0 H E Q q => ?_⟩
  refine ec M G0 G σ H0 H E _ fun H1 H1' E1 e1 => ?_
  cases p with
  | true => exact ea rfl M G0 G σ H1 H1' E1 _ fun z H2 H2' E2 e2 r2 => q z H2 H2' E2 (e1.trans e2) r2
  | false => exact eb rfl M G0 G σ H1 H1' E1 _ fun z H2 H2' E2 e2 r2 => q z H2 H2' E2 (e1.trans e2) r2
end
section
variable {k : Kw}
def kD (l : List Tok) : Dt := .dct (l.map fun t => some t.l)
def F_law_run : List Dt → (Dt → Prop) → Prop := fun ds R => ∃ (code : List Row) (rl : Rule) (P : List (List Tok)) (ins : List Int), ds = [codeD code, rl.e, .lst (P.map kD), .lst (ins.map .int)] ∧ CodeW code ∧ code.length ≤ 94 ∧ rl.ok ∧ PapR code rl P ∧ ins.length ≤ 12 ∧ R = fun d => d = .bl true
theorem c_law_run (hd : Hd k) : CalK k 3 "_law_run" (spP k F_law_run) := by
  refine defP (N := ["_law_code_here", "_law_rule_here", "_law_paper", "_law_inputs_here", "_law_slots_here", "_law_k", "_law_many", "_law_ties", "_law_at", "_law_used", "_law_count", "_law_row"]) (ps := ["_law_code_here", "_law_rule_here", "_law_paper", "_law_inputs_here"]) (st := s_law_run) (hd.def_ 48 44 103 rfl rfl rfl) (fun _ _ _ _ _ _ us hl => match us, hl with | [_, _, _, _], _ => rfl) (by decide +kernel) (fun ds R h => ?_) (fun f cdv A outer s H E g ds R h => ?_)
  · obtain ⟨code, rl, P, ins, rfl, _⟩ := h; rfl
  · obtain ⟨code, rl, P, ins, rfl, w, hl, ok, pap, hin, rfl⟩ := h
    obtain ⟨K, K0, hC, hP⟩ := pap.cl
    obtain ⟨m3, inS⟩ := slN_ok code.length code rfl (codeW_ok w)
    refine b_setLcR 4 "_law_k" 5 ["_law_code_here", "_law_rule_here", "_law_paper", "_law_inputs_here", "_law_slots_here", "_law_k", "_law_many", "_law_ties", "_law_at", "_law_used", "_law_count", "_law_row"] (C8.fnScope s_law_run) g ((List.range (slN code)).map fun _ => some (oD none)) hd.range (x_call g (c_law_slots hd) (by decide) (xa_cons (x_name 0 rfl) xa_nil) ⟨code, rfl, rfl⟩) (by omega) (by rw [List.length_map, List.length_range]) (fun i hi => ⟨some (oD none), by rw [List.getElem?_map, List.getElem?_range hi]; rfl, .inl ⟨rfl, _, rfl, x_non⟩⟩) isT_nil ?_
    have e0 : ∀ n, keepD ((List.range n).map fun _ => some (oD none)) = (List.replicate n none).map oD := fun n => by
      have : ∀ l : List Nat, keepD (l.map fun _ => some (oD none)) = (List.replicate l.length none).map oD := fun l => by
        induction l with
        | nil => rfl
        | cons x r ih => rw [List.length_cons, List.replicate_succ, List.map_cons, List.map_cons, ← ih]; rfl
      rw [this, List.length_range]
    rw [e0]
    refine b_asg 6 x_int ?_
    refine b_asg 7 (x_lst xa_nil) ?_
    refine b_asg 8 x_int ?_
    refine b_asg 9 x_int ?_
    refine b_forR (fun i ds1 => ∃ (p : Nat) (sl : List (Option Nat)) (many : Nat) (ties : List Tie) (used : Nat) (x5 x10 x11 : Option Ent), ds1 = [some (.d (codeD code)), some (.d rl.e), some (.d (.lst (P.map kD))), some (.d (.lst (ins.map .int))), some (.m true (mL k (sl.map oD))), x5, some (.d (dI many)), some (.d (.lst (ties.map Tie.e))), some (.d (dI p)), some (.d (dI used)), x10, x11] ∧
      RJ rl K p sl many ties ∧ sl.length = slN code ∧ many ≤ i ∧ p < code.length ∧ used ≤ ins.length ∧ i + Phi code (ins.length - used) p ≤ 1400) (n := 2000) g 10 hd.range x_int (by decide) ⟨0, List.replicate (slN code) none, 0, [], 0, _, _, _, rfl, RJ.start K0 _ m3, List.length_replicate, Nat.le_refl _, by obtain ⟨q, hq⟩ := w.n; omega, Nat.zero_le _, by rw [Nat.zero_add]; exact phi_le w (by omega) hl⟩ ?_ ?_
    · rintro i ds1 hi ⟨p, sl, many, ties, used, x5, x10, x11, rfl, J, hsl, hmany, hp, hu, hphi⟩
      have hrow : atI (code.map Row.e) (p : Int) = some code[p].e := atI_nat (by rw [List.getElem?_map, List.getElem?_eq_getElem hp]; rfl)
      have hget := List.getElem?_eq_getElem hp
      have hPl : p < P.length := by rw [pap.len]; exact hp
      have hpap : atI (P.map kD) (p : Int) = some (kD P[p]) := atI_nat (by rw [List.getElem?_map, List.getElem?_eq_getElem hPl]; rfl)
      have known : ∀ t, At K p (some t) → some t.l ∈ P[p].map fun t => some t.l := fun t ht => by
        obtain ⟨l, h1, h2⟩ := hP p t ht
        rw [List.getElem?_eq_getElem hPl] at h1
        cases h1
        exact List.mem_map_of_mem h2
      have hphi0 := phi_pos (code := code) (r := ins.length - used) hp
      have hin_ := inS _ (List.getElem_mem hp)
      generalize hr : code[p] = r at hrow hget hin_
      refine b_asg 11 (x_ixL g (x_name 0 rfl) (x_name 8 rfl) hrow) ?_
      refine b_ifNX (xx_callM 4 rfl g (c_law_stands hd) (by decide) (xa_cons (x_name 6 rfl) (xa_cons (x_name 7 rfl) (xa_cons (x_ixL g (x_name 2 rfl) (x_name 8 rfl) hpap) xa_nil))) ⟨sl, many, ties, P[p].map fun t => some t.l, rfl, rfl, J.sl3, by omega, J.hs, fun x hx => ?_, fun h hh => known _ (J.one h hh), fun a b h1 h2 h3 => ⟨?_, ?_⟩, rfl⟩) ?_
      · obtain ⟨t1, t2, t3, t4⟩ := J.tie x hx
        exact ⟨t1, t2, fun r hr => known _ (t4 r hr).2⟩
      · have := known _ (J.two a b (by omega) h2 (by omega))
        rwa [show older a b = 1 by rw [older, if_neg (by omega)]] at this
      · have := known _ (J.two b a h2 (by omega) (by omega))
        rwa [show older b a = 2 by rw [older, if_pos h1]] at this
      · rintro d ds2 ⟨u', ⟨rfl, rfl⟩, rfl⟩
        refine ⟨rfl, ?_⟩
        refine b_asg 8 (x_add (x_name 8 rfl) x_int) ?_
        have nt : isTst code[p]? = none → p + 1 < code.length → i + 1 + Phi code (ins.length - used) (p + 1) ≤ 1400 := fun h1 h2 => by
          have := phi_fwd w (r := ins.length - used) h1 (show p < p + 1 by omega) h2
          omega
        cases r
        case fin l => exact b_ifT (t_c (q_eq (x_ixT g (x_name 11 rfl) x_int rfl) x_str rfl)) (b_ret x_bl rfl)
        case opn l s =>
          have hs : s < sl.length := by rw [hsl]; exact hin_
          have hn := codeW_nx w hget fun l z => nomatch z
          refine b_ifF0 (t_c (q_eq (x_ixT g (x_name 11 rfl) x_int rfl) x_str rfl)) ?_
          refine b_ifT (t_c (q_eq (x_ixT g (x_name 11 rfl) x_int rfl) x_str rfl)) ?_
          refine b_setI (j := s) 4 rfl (x_name 6 rfl) (x_ixT (d := dI s) g (x_name 11 rfl) x_int rfl) (by rw [List.length_map]; exact ixN_nat hs) ?_
          refine b_asg 6 (x_add (x_name 6 rfl) x_int) (b_nil ?_)
          refine b_ifF0 (t_w (w_and (q := false) (t_c (q_eq (x_ixT g (x_name 11 rfl) x_int rfl) x_str rfl)) fun q => noT q)) ?_
          refine b_ifF0 (t_c (q_inS g (l := ["copy", "drop"]) (x_ixT g (x_name 11 rfl) x_int rfl) (x_tup (xa_cons x_str (xa_cons x_str xa_nil))))) ?_
          refine b_ifF0 (t_c (q_eq (x_ixT g (x_name 11 rfl) x_int rfl) x_str rfl)) ?_
          refine b_ifF0 (t_c (q_eq (x_ixT g (x_name 11 rfl) x_int rfl) x_str rfl)) ?_
          refine b_ifF0 (t_c (q_eq (x_ixT g (x_name 11 rfl) x_int rfl) x_str rfl)) ?_
          exact b_nil ⟨p + 1, sl.set s (some many), many + 1, ties, used, _, _, _, by rw [List.map_set]; rfl, J.opn hC hget hs, by rw [List.length_set]; exact hsl, by omega, hn, hu, nt (by rw [hget]; rfl) hn⟩
        case act l s wd =>
          have hs : s < sl.length := by rw [hsl]; exact hin_
          have hn := codeW_nx w hget fun l z => nomatch z
          have hok : (Row.act l s wd).ok := codeW_ok w _ (List.mem_of_getElem? hget)
          have hat : atI (sl.map oD) (s : Int) = some (oD sl[s]) := atI_nat (by rw [List.getElem?_map, List.getElem?_eq_getElem hs]; rfl)
          refine b_ifF0 (t_c (q_eq (x_ixT g (x_name 11 rfl) x_int rfl) x_str rfl)) ?_
          refine b_ifF0 (t_c (q_eq (x_ixT g (x_name 11 rfl) x_int rfl) x_str rfl)) ?_
          cases hx : sl[s] with
          | none =>
            rw [hx] at hat
            refine b_ifF0 (t_w (w_and (t_c (q_eq (x_ixT g (x_name 11 rfl) x_int rfl) x_str rfl)) fun _ => w_and1 (t_c (q_notN (x_ixM (d := .non) g 4 rfl (x_ixT (d := dI s) g (x_name 11 rfl) x_int rfl) hat))))) ?_
            refine b_ifF0 (t_c (q_inS g (l := ["copy", "drop"]) (x_ixT g (x_name 11 rfl) x_int rfl) (x_tup (xa_cons x_str (xa_cons x_str xa_nil))))) ?_
            refine b_ifF0 (t_c (q_eq (x_ixT g (x_name 11 rfl) x_int rfl) x_str rfl)) ?_
            refine b_ifF0 (t_c (q_eq (x_ixT g (x_name 11 rfl) x_int rfl) x_str rfl)) ?_
            refine b_ifF0 (t_c (q_eq (x_ixT g (x_name 11 rfl) x_int rfl) x_str rfl)) ?_
            exact b_nil ⟨p + 1, sl, many, ties, used, _, _, _, rfl, J.act0 hC hget hs hx, hsl, by omega, hn, hu, nt (by rw [hget]; rfl) hn⟩
          | some h0 =>
            rw [hx] at hat
            refine b_ifT (t_w (w_and (t_c (q_eq (x_ixT g (x_name 11 rfl) x_int rfl) x_str rfl)) fun _ => w_and1 (t_c (q_notN (x_ixM (d := dI h0) g 4 rfl (x_ixT (d := dI s) g (x_name 11 rfl) x_int rfl) hat))))) ?_
            refine b_asg 7 (x_call g (c_law_moved hd) (by decide) (xa_cons (x_name 1 rfl) (xa_cons (x_name 7 rfl) (xa_cons (x_ixM (d := dI h0) g 4 rfl (x_ixT (d := dI s) g (x_name 11 rfl) x_int rfl) hat) (xa_cons (x_ixT (d := .str wd) g (x_name 11 rfl) x_int rfl) xa_nil)))) ⟨rl, ties, h0, wd, rfl, ok, by have := J.few; omega, hok.2.1, fun x hx y hy => ((J.tie x hx).2.2.2 y hy).1, rfl⟩) (b_nil ?_)
            refine b_ifF0 (t_c (q_inS g (l := ["copy", "drop"]) (x_ixT g (x_name 11 rfl) x_int rfl) (x_tup (xa_cons x_str (xa_cons x_str xa_nil))))) ?_
            refine b_ifF0 (t_c (q_eq (x_ixT g (x_name 11 rfl) x_int rfl) x_str rfl)) ?_
            refine b_ifF0 (t_c (q_eq (x_ixT g (x_name 11 rfl) x_int rfl) x_str rfl)) ?_
            refine b_ifF0 (t_c (q_eq (x_ixT g (x_name 11 rfl) x_int rfl) x_str rfl)) ?_
            exact b_nil ⟨p + 1, sl, many, ties.map (movT rl h0 wd), used, _, _, _, rfl, J.act ok hC hget hs hx, hsl, by omega, hn, hu, nt (by rw [hget]; rfl) hn⟩
        case cpy l s t =>
          have hs : s < sl.length := by rw [hsl]; exact hin_.1
          have ht : t < sl.length := by rw [hsl]; exact hin_.2
          have hn := codeW_nx w hget fun l z => nomatch z
          have hat : atI (sl.map oD) (t : Int) = some (oD sl[t]) := atI_nat (by rw [List.getElem?_map, List.getElem?_eq_getElem ht]; rfl)
          refine b_ifF0 (t_c (q_eq (x_ixT g (x_name 11 rfl) x_int rfl) x_str rfl)) ?_
          refine b_ifF0 (t_c (q_eq (x_ixT g (x_name 11 rfl) x_int rfl) x_str rfl)) ?_
          refine b_ifF0 (t_w (w_and (q := false) (t_c (q_eq (x_ixT g (x_name 11 rfl) x_int rfl) x_str rfl)) fun q => noT q)) ?_
          refine b_ifT (t_c (q_inS g (l := ["copy", "drop"]) (x_ixT g (x_name 11 rfl) x_int rfl) (x_tup (xa_cons x_str (xa_cons x_str xa_nil))))) ?_
          refine b_setI (j := s) (d := oD sl[t]) 4 rfl (x_ifT (t_c (q_eq (x_ixT g (x_name 11 rfl) x_int rfl) x_str rfl)) (fun _ => x_ixM g 4 rfl (x_ixT (d := dI t) g (x_name 11 rfl) x_int rfl) hat) (fun q => noF q)) (x_ixT (d := dI s) g (x_name 11 rfl) x_int rfl) (by rw [List.length_map]; exact ixN_nat hs) (b_nil ?_)
          refine b_ifF0 (t_c (q_eq (x_ixT g (x_name 11 rfl) x_int rfl) x_str rfl)) ?_
          refine b_ifF0 (t_c (q_eq (x_ixT g (x_name 11 rfl) x_int rfl) x_str rfl)) ?_
          refine b_ifF0 (t_c (q_eq (x_ixT g (x_name 11 rfl) x_int rfl) x_str rfl)) ?_
          exact b_nil ⟨p + 1, sl.set s sl[t], many, ties, used, _, _, _, by rw [List.map_set]; rfl, J.cpy hC hget hs ht, by rw [List.length_set]; exact hsl, by omega, hn, hu, nt (by rw [hget]; rfl) hn⟩
        case drp l s =>
          have hs : s < sl.length := by rw [hsl]; exact hin_
          have hn := codeW_nx w hget fun l z => nomatch z
          refine b_ifF0 (t_c (q_eq (x_ixT g (x_name 11 rfl) x_int rfl) x_str rfl)) ?_
          refine b_ifF0 (t_c (q_eq (x_ixT g (x_name 11 rfl) x_int rfl) x_str rfl)) ?_
          refine b_ifF0 (t_w (w_and (q := false) (t_c (q_eq (x_ixT g (x_name 11 rfl) x_int rfl) x_str rfl)) fun q => noT q)) ?_
          refine b_ifT (t_c (q_inS g (l := ["copy", "drop"]) (x_ixT g (x_name 11 rfl) x_int rfl) (x_tup (xa_cons x_str (xa_cons x_str xa_nil))))) ?_
          refine b_setI (j := s) (d := .non) 4 rfl (x_ifT (t_c (q_eq (x_ixT g (x_name 11 rfl) x_int rfl) x_str rfl)) (fun q => noT q) (fun q => x_non)) (x_ixT (d := dI s) g (x_name 11 rfl) x_int rfl) (by rw [List.length_map]; exact ixN_nat hs) (b_nil ?_)
          refine b_ifF0 (t_c (q_eq (x_ixT g (x_name 11 rfl) x_int rfl) x_str rfl)) ?_
          refine b_ifF0 (t_c (q_eq (x_ixT g (x_name 11 rfl) x_int rfl) x_str rfl)) ?_
          refine b_ifF0 (t_c (q_eq (x_ixT g (x_name 11 rfl) x_int rfl) x_str rfl)) ?_
          exact b_nil ⟨p + 1, sl.set s none, many, ties, used, _, _, _, by rw [List.map_set]; rfl, J.drp hC hget hs, by rw [List.length_set]; exact hsl, by omega, hn, hu, nt (by rw [hget]; rfl) hn⟩
        case tie l s t =>
          have hs : s < sl.length := by rw [hsl]; exact hin_.1
          have ht : t < sl.length := by rw [hsl]; exact hin_.2
          have hn := codeW_nx w hget fun l z => nomatch z
          refine b_ifF0 (t_c (q_eq (x_ixT g (x_name 11 rfl) x_int rfl) x_str rfl)) ?_
          refine b_ifF0 (t_c (q_eq (x_ixT g (x_name 11 rfl) x_int rfl) x_str rfl)) ?_
          refine b_ifF0 (t_w (w_and (q := false) (t_c (q_eq (x_ixT g (x_name 11 rfl) x_int rfl) x_str rfl)) fun q => noT q)) ?_
          refine b_ifF0 (t_c (q_inS g (l := ["copy", "drop"]) (x_ixT g (x_name 11 rfl) x_int rfl) (x_tup (xa_cons x_str (xa_cons x_str xa_nil))))) ?_
          refine b_ifT (t_c (q_eq (x_ixT g (x_name 11 rfl) x_int rfl) x_str rfl)) ?_
          refine b_asgX 7 (xx_callM 4 rfl g (c_law_tied hd) (by decide) (xa_cons (x_name 11 rfl) (xa_cons (x_name 7 rfl) xa_nil)) ⟨sl, l, s, t, ties, rfl, rfl, hs, ht, by have := J.few; omega, rfl⟩) ?_
          rintro d ds2 ⟨u', ⟨rfl, rfl⟩, rfl⟩
          refine b_nil ?_
          refine b_ifF0 (t_c (q_eq (x_ixT g (x_name 11 rfl) x_int rfl) x_str rfl)) ?_
          refine b_ifF0 (t_c (q_eq (x_ixT g (x_name 11 rfl) x_int rfl) x_str rfl)) ?_
          exact b_nil ⟨p + 1, sl, many, tiedT sl s t ties, used, _, _, _, rfl, J.tie_ ok hC hget hs ht, hsl, by omega, hn, hu, nt (by rw [hget]; rfl) hn⟩
        case jmp l t =>
          have hn := codeW_nx w hget fun l z => nomatch z
          refine b_ifF0 (t_c (q_eq (x_ixT g (x_name 11 rfl) x_int rfl) x_str rfl)) ?_
          refine b_ifF0 (t_c (q_eq (x_ixT g (x_name 11 rfl) x_int rfl) x_str rfl)) ?_
          refine b_ifF0 (t_w (w_and (q := false) (t_c (q_eq (x_ixT g (x_name 11 rfl) x_int rfl) x_str rfl)) fun q => noT q)) ?_
          refine b_ifF0 (t_c (q_inS g (l := ["copy", "drop"]) (x_ixT g (x_name 11 rfl) x_int rfl) (x_tup (xa_cons x_str (xa_cons x_str xa_nil))))) ?_
          refine b_ifF0 (t_c (q_eq (x_ixT g (x_name 11 rfl) x_int rfl) x_str rfl)) ?_
          refine b_ifT (t_c (q_eq (x_ixT g (x_name 11 rfl) x_int rfl) x_str rfl)) ?_
          refine b_asg 8 (x_ixT (d := dI t) g (x_name 11 rfl) x_int rfl) (b_nil ?_)
          refine b_ifF0 (t_c (q_eq (x_ixT g (x_name 11 rfl) x_int rfl) x_str rfl)) ?_
          refine b_nil ⟨t, sl, many, ties, used, _, _, _, rfl, J.jmp hC hget, hsl, by omega, ?_, hu, ?_⟩
          · rcases codeW_jmp w hget with h | ⟨h, _⟩
            · exact h.2
            · omega
          · rcases codeW_jmp w hget with h | ⟨h, l', b', h2⟩
            · have := phi_fwd w (r := ins.length - used) (p := p) (by rw [hget]; rfl) h.1 h.2
              omega
            · have := phi_back w (r := ins.length - used) (p := p) (by rw [hget]; rfl) hn h2
              omega
        case tst l b t =>
          have ht := codeW_tst w hget
          have hn := codeW_nx w hget fun l z => nomatch z
          refine b_ifF0 (t_c (q_eq (x_ixT g (x_name 11 rfl) x_int rfl) x_str rfl)) ?_
          refine b_ifF0 (t_c (q_eq (x_ixT g (x_name 11 rfl) x_int rfl) x_str rfl)) ?_
          refine b_ifF0 (t_w (w_and (q := false) (t_c (q_eq (x_ixT g (x_name 11 rfl) x_int rfl) x_str rfl)) fun q => noT q)) ?_
          refine b_ifF0 (t_c (q_inS g (l := ["copy", "drop"]) (x_ixT g (x_name 11 rfl) x_int rfl) (x_tup (xa_cons x_str (xa_cons x_str xa_nil))))) ?_
          refine b_ifF0 (t_c (q_eq (x_ixT g (x_name 11 rfl) x_int rfl) x_str rfl)) ?_
          refine b_ifF0 (t_c (q_eq (x_ixT g (x_name 11 rfl) x_int rfl) x_str rfl)) ?_
          refine b_ifT (t_c (q_eq (x_ixT g (x_name 11 rfl) x_int rfl) x_str rfl)) ?_
          have lin : ((ins.map Dt.int).length : Int) = (ins.length : Int) := by rw [List.length_map]
          have mn : (if (((ins.map Dt.int).length : Nat) : Int) < (used : Int) + 1 then (((ins.map Dt.int).length : Nat) : Int) else (used : Int) + 1) = ((min (used + 1) ins.length : Nat) : Int) := by rw [lin]; split <;> omega
          by_cases hu2 : used = ins.length
          · refine b_ifT (t_w (w_or (q := false) (t_c (q_eq (x_name 9 rfl) (x_len g hd.len (x_name 3 rfl) rfl) rfl)) fun q => ?_)) ?_ ?_
            · exact absurd q (by show ¬ decide (_ = _) = false; rw [lin, hu2]; simp)
            · refine b_asg 8 (x_ixT (d := dI t) g (x_name 11 rfl) x_int rfl) (b_nil ?_)
              refine b_asg (d := dI (min (used + 1) ins.length)) 9 (XD.is (x_min2 g hd.min (xa_cons (x_add (x_name 9 rfl) x_int) (xa_cons (x_len g hd.len (x_name 3 rfl) rfl) xa_nil))) (congrArg Dt.int mn)) ?_
              refine b_nil (b_nil ⟨t, sl, many, ties, min (used + 1) ins.length, _, _, _, rfl, J.tst hC hget (List.mem_cons_of_mem _ (List.mem_singleton.mpr rfl)), hsl, by omega, ht.2, by omega, ?_⟩)
              have := phi_tst0 w hget
              rw [show ins.length - used = 0 by omega] at hphi
              rw [show ins.length - min (used + 1) ins.length = 0 by omega]
              omega
            · show (decide (_ = _) || false) = true
              rw [lin, hu2]; simp
          · have hu3 : used < ins.length := by omega
            have hat : atI (ins.map Dt.int) (used : Int) = some (.int ins[used]) := atI_nat (by rw [List.getElem?_map, List.getElem?_eq_getElem hu3]; rfl)
            have hr1 : ins.length - used = (ins.length - (used + 1)) + 1 := by omega
            have fin : ∀ q, (q = p + 1 ∨ q = t) → i + 1 + Phi code (ins.length - min (used + 1) ins.length) q ≤ 1400 := fun q hq => by
              rw [hr1] at hphi
              rw [show ins.length - min (used + 1) ins.length = ins.length - (used + 1) by omega]
              have := phi_tst w (r := ins.length - (used + 1)) (q := q) hget (by omega) (by omega)
              omega
            refine b_ifK (p := false || decide (ins[used] ≤ b)) (fun ds' => ∃ q, (q = p + 1 ∨ q = t) ∧ ds' = [some (.d (codeD code)), some (.d rl.e), some (.d (.lst (P.map kD))), some (.d (.lst (ins.map .int))), some (.m true (mL k (sl.map oD))), x5, some (.d (dI many)), some (.d (.lst (ties.map Tie.e))), some (.d (dI q)), some (.d (dI used)), some (.d (dI i)), some (.d (Row.tst l b t).e)]) ?_ (fun q => ?_) (fun q => ?_) ?_
            · refine t_w (w_or ?_ fun _ => w_or1 (t_c (q_le (x_ixL g (x_name 3 rfl) (x_name 9 rfl) hat) (x_ixT g (x_name 11 rfl) x_int rfl))))
              have e : eqD (dI used) (.int (((ins.map Dt.int).length : Nat) : Int)) = false := by show decide (_ = _) = false; rw [lin]; exact decide_eq_false (by omega)
              rw [← e]
              exact t_c (q_eq (x_name 9 rfl) (x_len g hd.len (x_name 3 rfl) rfl) rfl)
            · exact b_asg 8 (x_ixT (d := dI t) g (x_name 11 rfl) x_int rfl) (b_nil ⟨t, .inr rfl, rfl⟩)
            · exact b_nil ⟨p + 1, .inl rfl, rfl⟩
            · rintro _ ⟨q, hq, rfl⟩
              refine b_asg (d := dI (min (used + 1) ins.length)) 9 (XD.is (x_min2 g hd.min (xa_cons (x_add (x_name 9 rfl) x_int) (xa_cons (x_len g hd.len (x_name 3 rfl) rfl) xa_nil))) (congrArg Dt.int mn)) ?_
              refine b_nil (b_nil ⟨q, sl, many, ties, min (used + 1) ins.length, _, _, _, rfl, J.tst hC hget ?_, hsl, by omega, by omega, by omega, fin q hq⟩)
              rcases hq with rfl | rfl
              · exact List.mem_cons_self
              · exact List.mem_cons_of_mem _ (List.mem_singleton.mpr rfl)
    · rintro ds1 ⟨p, sl, many, ties, used, x5, x10, x11, rfl, J, hsl, hmany, hp, hu, hphi⟩
      omega
end
end Uw
end
section
set_option Elab.async false
set_option linter.all false
set_option maxRecDepth 100000
set_option maxHeartbeats 4000000
namespace Uw
open PySem PySem.Spec PyProof.Rows L2 Evl
section
variable {k : Kw}
def cellAt (ns : List Int) (j : Nat) : Int := (ns[j]?).getD 0
def F_cell2 : List Dt → (Dt → Prop) → Prop := fun ds R => ∃ (ns : List Int) (j : Nat), ds = [.scr ns, dI j] ∧ R = fun d => d = .int (cellAt ns j)
theorem c_cell2 (hd : Hd k) : CalK k 1 "_law_cell_at" (spP k F_cell2) := by
  refine defP (N := ["_law_script", "_law_k"]) (ps := ["_law_script", "_law_k"]) (st := s_law_cell_at) (hd.def_ 32 28 87 rfl rfl rfl) (fun _ _ _ _ _ _ us hl => match us, hl with | [_, _], _ => rfl) (by decide +kernel) (fun ds R h => ?_) (fun f cdv A outer s H E g ds R h => ?_)
  · obtain ⟨ns, j, rfl, _⟩ := h; rfl
  · obtain ⟨ns, j, rfl, rfl⟩ := h
    refine b_if (t_c (q_lt (x_name 1 rfl) (x_lenScr g hd.len (x_name 0 rfl)))) (fun q => ?_) (fun q => ?_)
    · have hj : j < ns.length := by have := of_decide_eq_true q; omega
      refine b_ret (x_ixScr g (x_name 0 rfl) (x_name 1 rfl) (atI_nat (List.getElem?_eq_getElem hj))) ?_
      show _ = _
      rw [cellAt, List.getElem?_eq_getElem hj]; rfl
    · have hj : ¬ j < ns.length := by have := of_decide_eq_false q; omega
      refine b_nil (b_ret x_int ?_)
      show _ = _
      rw [cellAt, List.getElem?_eq_none (by omega)]; rfl
theorem row_okD {r : Row} (h : r.ok) : okD 1 r.e = true := by
  have t1 : PyData.strOk ("open" : PySem.Str) = true := by decide +kernel
  have t2 : PyData.strOk ("do" : PySem.Str) = true := by decide +kernel
  have t3 : PyData.strOk ("copy" : PySem.Str) = true := by decide +kernel
  have t4 : PyData.strOk ("drop" : PySem.Str) = true := by decide +kernel
  have t5 : PyData.strOk ("tie" : PySem.Str) = true := by decide +kernel
  have t6 : PyData.strOk ("test" : PySem.Str) = true := by decide +kernel
  have t7 : PyData.strOk ("jump" : PySem.Str) = true := by decide +kernel
  have t8 : PyData.strOk ("end" : PySem.Str) = true := by decide +kernel
  cases r with
  | act l s w => simp [Row.e, Row.l, okD, t2, h.2.2]
  | _ => simp [Row.e, Row.l, okD, t1, t2, t3, t4, t5, t6, t7, t8]
theorem code_okD {code : List Row} (h : ∀ r ∈ code, r.ok) : okD 2 (codeD code) = true := by
  show (code.map Row.e).all (okD 1) = true
  rw [List.all_eq_true]
  intro d hd
  obtain ⟨r, hr, rfl⟩ := List.mem_map.mp hd
  exact row_okD (h r hr)
theorem texts_okD {ts : List PySem.Str} (h : ∀ t ∈ ts, PyData.strOk t = true) : okD 1 (.lst (ts.map .str)) = true := by
  show (ts.map Dt.str).all (okD 0) = true
  rw [List.all_eq_true]
  intro d hd
  obtain ⟨t, ht, rfl⟩ := List.mem_map.mp hd
  exact h t ht
theorem rooms_okD (rs : List (List (Option Nat))) : okD 2 (.lst (rs.map fun r => .lst (r.map oD))) = true := by
  show (rs.map fun r => Dt.lst (r.map oD)).all (okD 1) = true
  rw [List.all_eq_true]
  intro d hd
  obtain ⟨r, hr, rfl⟩ := List.mem_map.mp hd
  show (r.map oD).all (okD 0) = true
  rw [List.all_eq_true]
  intro d hd
  obtain ⟨x, hx, rfl⟩ := List.mem_map.mp hd
  cases x <;> rfl
theorem XA.xxa {ι : Type} {Y : ι → Cx} {ds : EV} {es : List Expr} {l : List Dt} (h : XA Y k es ds l) : XXA Y k es ds (fun l' ds' => l' = l ∧ ds' = ds) := fun M G0 G σ H0 H E Q q => by
  obtain ⟨ta, pa, ea⟩ := h
  exact ⟨ta, pa, ea M G0 G σ H0 H E _ fun vs H1 H1' E1 w1 r1 => q vs H1 H1' l ds ⟨rfl, rfl⟩ E1 w1.fz r1⟩
theorem XXA.mono {ι : Type} {Y : ι → Cx} {ds : EV} {es : List Expr} {P P' : List Dt → EV → Prop} (h : XXA Y k es ds P) (m : ∀ l ds', P l ds' → P' l ds') : XXA Y k es ds P' := fun M G0 G σ H0 H E Q q => h M G0 G σ H0 H E Q fun vs H1 H1' l ds' p => q vs H1 H1' l ds' (m _ _ p)
def F_law : List Dt → (Dt → Prop) → Prop := fun ds R => ∃ ns : List Int, ds = [.scr ns] ∧ R = fun d => d = .bl true
theorem okP {x : PySem.Str} {st : Stmt} {N ps : List PySem.Str} {lv : Nat} {F : List Dt → (Dt → Prop) → Prop} {f : Addr} {fd : FuncData} {sp : Sp} (hc : ∀ vs H Q E, sp vs H Q E → spP k F vs H Q E) (D : C8.Def k.K k.mg x st f fd) (S : C8.scC N ps (C8.fnScope st) = true) (len : ∀ ds R, F ds R → ds.length = ps.length)
    (body : ∀ f cdv A outer s H E, Good (yX (bX k N x st f cdv A outer s H E)) k lv → ∀ ds R, F ds R → XB (bX k N x st f cdv A outer s H E) k (C8.fnBody st) (sd ds ++ List.replicate (N.length - ds.length) none) (fun _ => R .non) (rD R)) : FnOk k.P k.w k.K k.mg k.base C8.CX0 (lv + 1) f fd ps sp := by
  refine C8.fn0 D.fn (C8.fnScope_by S) (fun vs H Q E h => ?_) fun cdv A outer s H vs Q E hr h => ⟨_, ps_tB, ?_⟩
  · obtain ⟨G0, ds, R, h1, h2, h3, h4⟩ := hc _ _ _ _ h
    rw [h2.length]
    exact len ds R h3
  · obtain ⟨G0, ds, R, h1, h2, h3, h4⟩ := hc _ _ _ _ h
    refine body _ cdv A outer s H E (bX_good S hr) ds R h3 ([], .non) G0 H _ G0 H _ (start_env h1 h2) (fun σ' H0' H' ds' n E' _ => ?_) (fun v σ' H0' H' d ds' fp rr E' r hf => ?_)
    · exact h4 .non n .non H0' H' E'.wld .non
    · cases d with
      | d d => exact h4 d rr v H0' H' E'.wld r
      | m _ _ => exact rr.elim
def spL (K : PySem.W.Frag) : Sp := fun vs H Q _ => ∃ (a : Addr) (ns : List Int), vs = [.ref a] ∧ SqL K H a (ns.map V.int) ∧ ∀ H', Q (.bl true) H'
theorem spL_ok {vs : List V} {H : Hp} {Q : VK} {E : XK} (h : spL k.K vs H Q E) : spP k F_law vs H Q E := by
  obtain ⟨a, ns, rfl, hS, hQ⟩ := h
  refine ⟨H, [.scr ns], _, Ex.refl _, .cons (.scr hS) .nil, ⟨ns, rfl, rfl⟩, fun d hd v H0 H' _ r => ?_⟩
  cases hd
  cases r
  exact hQ H'
theorem ok_law (hd : Hd k) {f : Addr} {fd : FuncData} (D : C8.Def k.K k.mg "law" s_law f fd) : FnOk k.P k.w k.K k.mg k.base C8.CX0 14 f fd ["_law_script"] (spL k.K) := by
  refine okP (F := F_law) (fun vs H Q E h => spL_ok h) (N := ["_law_script", "_law_second", "_law_words_here", "_law_cells", "_law_k", "_law_rule_here", "_law_code_here", "_law_inputs_here", "_law_kept", "_law_room", "_law_paper", "_law_tokens"]) (st := s_law) D (by decide +kernel) (fun ds R h => ?_) (fun f cdv A outer s H E g ds R h => ?_)
  · obtain ⟨ns, rfl, _⟩ := h; rfl
  · obtain ⟨ns, rfl, rfl⟩ := h
    refine b_asg 1 (x_call g (c_cell2 hd) (by decide) (xa_cons (x_name 0 rfl) (xa_cons x_int xa_nil)) ⟨ns, 1, rfl, rfl⟩) ?_
    generalize cellAt ns 1 = c1
    have wd4 : ∀ w ∈ (["open", "lend", "back", "end"] : List PySem.Str), Wd w := fun w hw => by
      simp only [List.mem_cons, List.not_mem_nil, or_false] at hw
      rcases hw with rfl | rfl | rfl | rfl <;> exact ⟨by decide +kernel, by decide +kernel, by decide +kernel⟩
    refine b_asgX 2 (Po := fun d ds' => (∃ ws : List PySem.Str, d = .lst (ws.map .str) ∧ ws.length = 6 ∧ ∀ w ∈ ws, Wd w) ∧ ds' = [some (.d (.scr ns)), some (.d (.int c1)), none, none, none, none, none, none, none, none, none, none]) (xx_catL (xx_call g (c_words hd) (by decide) (xa_cons (x_div (x_name 1 rfl) x_int ⟨by decide, by decide⟩) (xa_cons x_int xa_nil)) ⟨_, 2, rfl, by decide, rfl⟩) fun d ds' h => ?_) ?_
    · obtain ⟨⟨ws, rfl, h2, h3⟩, rfl⟩ := h
      refine (x_lst (xa_cons x_str (xa_cons x_str (xa_cons x_str (xa_cons x_str xa_nil))))).xx.mono fun d2 ds2 h => ?_
      obtain ⟨rfl, rfl⟩ := h
      refine ⟨ws.map .str, _, rfl, rfl, by rw [List.length_map, h2]; decide, ⟨ws ++ (["open", "lend", "back", "end"] : List PySem.Str), by rw [List.map_append]; rfl, by rw [List.length_append, h2]; rfl, fun w hw => ?_⟩, rfl⟩
      rcases List.mem_append.mp hw with z | z
      · exact h3 w z
      · exact wd4 w z
    rintro _ _ ⟨⟨ws, rfl, w1, w2⟩, rfl⟩
    refine b_setLcR 3 "_law_k" 4 ["_law_script", "_law_second", "_law_words_here", "_law_cells", "_law_k", "_law_rule_here", "_law_code_here", "_law_inputs_here", "_law_kept", "_law_room", "_law_paper", "_law_tokens"] (C8.fnScope s_law) (n0 := 6) g ((List.range 6).map fun j => some (.int (cellAt ns (2 + j)))) hd.range x_int (by decide) (by rw [List.length_map, List.length_range]) (fun i hi => ⟨some (.int (cellAt ns (2 + i))), by rw [List.getElem?_map, List.getElem?_range hi]; rfl, .inl ⟨rfl, _, rfl, x_call (bk_good g) (c_cell2 hd) (by decide) (xa_cons (x_name 0 rfl) (xa_cons (x_add x_int (x_name 4 rfl)) xa_nil)) ⟨ns, 2 + i, congrArg (fun z => [Dt.scr ns, Dt.int z]) (by omega), rfl⟩⟩⟩) isT_nil ?_
    refine b_frz 3 rfl ?_
    have ek : keepD ((List.range 6).map fun j => some (.int (cellAt ns (2 + j)))) = ((List.range 6).map fun j => cellAt ns (2 + j)).map .int := rfl
    rw [ek]
    refine b_asgX 5 (xx_call g (c_law_rule hd) (by decide) (xa_cons (x_name 3 rfl) (xa_cons x_int (xa_cons (x_name 2 rfl) (xa_cons x_int xa_nil)))) ⟨_, ws, rfl, by rw [List.length_map, List.length_range], by omega, w2, rfl⟩) ?_
    rintro _ _ ⟨⟨rl, rfl, rf⟩, rfl⟩
    generalize ((List.range 6).map fun j => cellAt ns (2 + j)) = cells
    refine b_asgX 6 (Po := fun d ds' => CodR d ∧ ds' = [some (.d (.scr ns)), some (.d (.int c1)), some (.d (.lst (ws.map .str))), some (.d (.lst (cells.map .int))), none, some (.d rl.e), none, none, none, none, none, none]) (xx_callX g (c_law_code hd) (by decide) (PL := fun l => ∃ zs : List Int, zs.length ≤ 12 ∧ l = [.lst (zs.map .int), .int (cellAt ns 0), .int c1, .int 2, .lst (ws.map .str)]) (xxa_cons (xr_step g (x_name 0 rfl) x_int x_int x_int (by decide) (by decide) (by decide) (by decide)).xx fun d ds' h => ?_) fun l h => ?_) ?_
    · obtain ⟨⟨zs, rfl, hz⟩, rfl⟩ := h
      refine (xa_cons (x_call g (c_cell2 hd) (by decide) (xa_cons (x_name 0 rfl) (xa_cons x_int xa_nil)) ⟨ns, 0, rfl, rfl⟩) (xa_cons (x_name 1 rfl) (xa_cons x_int (xa_cons (x_name 2 rfl) xa_nil)))).xxa.mono fun l ds' h => ?_
      obtain ⟨rfl, rfl⟩ := h
      exact ⟨⟨zs, by have : (zs.length : Int) ≤ 12 := hz; omega, rfl⟩, rfl⟩
    · obtain ⟨zs, hz, rfl⟩ := h
      exact ⟨_, ⟨zs, _, _, ws, rfl, hz, by omega, by omega, w2, rfl⟩, fun d h => h⟩
    rintro _ _ ⟨⟨code, rfl, cw, cl⟩, rfl⟩
    have cg := codeW_G cw (by omega)
    refine b_asgX 7 (Po := fun d ds' => (∃ ins : List Int, d = .lst (ins.map .int) ∧ ins.length ≤ 12) ∧ ds' = [some (.d (.scr ns)), some (.d (.int c1)), some (.d (.lst (ws.map .str))), some (.d (.lst (cells.map .int))), none, some (.d rl.e), some (.d (codeD code)), none, none, none, none, none]) (xx_callX g (c_law_inputs hd) (by decide) (PL := fun l => ∃ zs : List Int, zs.length ≤ 12 ∧ l = [.lst (zs.map .int), codeD code]) (xxa_cons (xr_step g (x_name 0 rfl) x_int x_int x_int (by decide) (by decide) (by decide) (by decide)).xx fun d ds' h => ?_) fun l h => ?_) ?_
    · obtain ⟨⟨zs, rfl, hz⟩, rfl⟩ := h
      refine (xa_cons (x_name (d := codeD code) 6 rfl) xa_nil).xxa.mono fun l ds' h => ?_
      obtain ⟨rfl, rfl⟩ := h
      exact ⟨⟨zs, by have : (zs.length : Int) ≤ 12 := hz; omega, rfl⟩, rfl⟩
    · obtain ⟨zs, hz, rfl⟩ := h
      exact ⟨_, ⟨zs, code, rfl, hz, by omega, rfl⟩, fun d h => h⟩
    rintro _ _ ⟨⟨ins, rfl, hin⟩, rfl⟩
    refine b_asg (d := .lst [codeD code, .lst (rl.texts.map .str), .lst (rl.rooms.map fun r => .lst (r.map oD))]) 8 (x_lst (xa_cons (x_list (l := code.map Row.e) g hd.list (x_name 6 rfl)) (xa_cons (x_list (l := rl.texts.map .str) g hd.list (x_ixT g (x_name 5 rfl) x_int rfl)) (xa_cons (XD.is (x_lc "_law_room" 9 ["_law_script", "_law_second", "_law_words_here", "_law_cells", "_law_k", "_law_rule_here", "_law_code_here", "_law_inputs_here", "_law_kept", "_law_room", "_law_paper", "_law_tokens"] (C8.fnScope s_law) g (l := rl.rooms.map fun r => .lst (r.map oD)) ((rl.rooms.map fun r => Dt.lst (r.map oD)).map some) (x_ixT g (x_name 5 rfl) x_int rfl) (.inl rfl) (by rw [List.length_map]; have := rf.ok.few; omega) (by rw [List.length_map, List.length_map, List.length_map]) (fun i d hi => ?_) isT_nil) ?_) xa_nil)))) ?_
    · rw [List.getElem?_map] at hi
      cases hx : rl.rooms[i]? with
      | none => rw [hx] at hi; cases hi
      | some r =>
        rw [hx] at hi
        cases hi
        exact ⟨some (.lst (r.map oD)), by rw [List.getElem?_map, List.getElem?_map, hx]; rfl, .inl ⟨rfl, _, rfl, x_list (bk_good g) hd.list (x_name 9 rfl)⟩⟩
    · have : ∀ l : List Dt, keepD (l.map some) = l := fun l => by
        induction l with
        | nil => rfl
        | cons x r ih => simp [keepD, ih]
      rw [this]
    refine b_asgX 10 (xx_call g (c_paper_of hd) (by decide) (xa_cons (x_name (d := codeD code) 6 rfl) (xa_cons (x_name 5 rfl) xa_nil)) ⟨code, rl, rfl, rf.ok, cg, rfl⟩) ?_
    rintro _ _ ⟨⟨P, rfl, pap⟩, rfl⟩
    have hok := codeW_ok cw
    refine b_ifF0 (t_w (w_or (t_not (t_v (x_isLst (l := P.map fun l : List Tok => Dt.lst (l.map Tok.e)) g hd.isinstance hd.list (x_name (d := pD P) 10 rfl)))) fun _ => w_or1 (t_c (q_ne (x_len (l := P.map fun l : List Tok => Dt.lst (l.map Tok.e)) g hd.len (x_name (d := pD P) 10 rfl) rfl) (x_len (l := code.map Row.e) g hd.len (x_name (d := codeD code) 6 rfl) rfl) rfl)))) ?_ ?_
    · refine b_ifF0 (t_w (w_or (t_c (q_neD g 2 (x_name (d := codeD code) 6 rfl) (x_ixL (d := codeD code) g (x_name 8 rfl) x_int rfl) (code_okD hok) (code_okD hok) (by decide))) fun _ => w_or (t_c (q_neD g 1 (x_ixT (d := .lst (rl.texts.map .str)) g (x_name 5 rfl) x_int rfl) (x_ixL (d := .lst (rl.texts.map .str)) g (x_name 8 rfl) x_int rfl) (texts_okD rf.str) (texts_okD rf.str) (by decide))) fun _ => w_or1 (t_c (q_neD g 2 (x_ixT (d := .lst (rl.rooms.map fun r => .lst (r.map oD))) g (x_name 5 rfl) x_int rfl) (x_ixL (d := .lst (rl.rooms.map fun r => .lst (r.map oD))) g (x_name 8 rfl) x_int rfl) (rooms_okD _) (rooms_okD _) (by decide))))) ?_ ?_
      · refine b_ret (x_call g (c_law_run hd) (by decide) (xa_cons (x_name (d := codeD code) 6 rfl) (xa_cons (x_name 5 rfl) (xa_cons (XD.is (x_lc "_law_tokens" 11 ["_law_script", "_law_second", "_law_words_here", "_law_cells", "_law_k", "_law_rule_here", "_law_code_here", "_law_inputs_here", "_law_kept", "_law_room", "_law_paper", "_law_tokens"] (C8.fnScope s_law) g (l := P.map fun l : List Tok => Dt.lst (l.map Tok.e)) ((P.map kD).map some) (x_name (d := pD P) 10 rfl) (.inl rfl) (by rw [List.length_map, pap.len]; omega) (by rw [List.length_map, List.length_map, List.length_map]) (fun i d hi => ?_) isT_nil) ?_) (xa_cons (x_name 7 rfl) xa_nil)))) ⟨code, rl, P, ins, rfl, cw, cl, rf.ok, pap, hin, rfl⟩) rfl
        · rw [List.getElem?_map] at hi
          cases hx : P[i]? with
          | none => rw [hx] at hi; cases hi
          | some l =>
            rw [hx] at hi
            cases hi
            have hn := pap.nd l (List.mem_of_getElem? hx)
            exact ⟨some (kD l), by rw [List.getElem?_map, List.getElem?_map, hx]; rfl, .inl ⟨rfl, _, rfl, x_call (bk_good g) (c_law_known hd) (by decide) (xa_cons (x_name 11 rfl) xa_nil) ⟨l, rfl, hn.1, hn.2, rfl⟩⟩⟩
        · have : ∀ l : List Dt, keepD (l.map some) = l := fun l => by
            induction l with
            | nil => rfl
            | cons x r ih => simp [keepD, ih]
          rw [this]
      · rw [ne_self (code_okD hok), ne_self (texts_okD rf.str), ne_self (rooms_okD _)]; rfl
    · show (false || !decide (_ = _)) = false
      rw [List.length_map, List.length_map, pap.len]; simp
end
end Uw
end
set_option Elab.async false
set_option linter.all false
set_option maxRecDepth 100000
set_option maxHeartbeats 0
namespace Uw
open PySem PySem.Spec PyProof.Rows L2
theorem binds_any {K : PySem.W.Frag} {x q : PySem.Str} {st : Stmt} {f : Addr} {fd : FuncData} {p : PySem.Str} (F : C8.Fun K x q st f fd) (hn : fd.defaults = .none) (hb : BindsN st x q [p]) (s : Shared) (v : Value) : BindsTo s fd ⟨[v], []⟩ [(p, v)] := by
  obtain ⟨_, _, dv, k1, k2, k3, k4, k5, k6, _, rfl, _, _⟩ := F.ex
  have e : dv = .none := hn
  subst e
  exact .of_eq (hb k1 k2 k3 k4 k5 k6 [v] rfl)
end Uw
open PySem PySem.W PySem.Calls PyProof.Rows
theorem PySem.Challenge.cw_usewarden_k58_whole_ties_stand_in_papers_holds : PySem.Challenge.rw_usewarden_k58_whole_ties_stand_in_papers.Holds := by
  w_on; o_law
  refine HandSHeadRun.head_any (r := Uw.R) (q := view Uw.R.prog [52]) (H := Uw.hk) (ob := Uw.ob) (M := 3000) (loose := Uw.names) (d := HandSHeadRun.topDef Uw.R.prog 52) (kwd := []) Uw.ob_eq
    (by kernel_rfl) (fun s => by kernel_rfl) Uw.run (by kernel_rfl) (by kernel_rfl) (by kernel_rfl) (by rfl) (by first | assumption | decide +kernel) (by decide +kernel) ⟨rfl, rfl, rfl, rfl, rfl, by decide +kernel⟩ ?hw ?hc
  case hw => w_witness2
  case hc =>
    refine L2.walk_ofE (l := PySem.Challenge.rw_usewarden_k58_whole_ties_stand_in_papers) (n := 63) (k := 14) (x := "_law_script") (CX := C8.CX0) rfl (by decide) (by kernel_rfl) ⟨rfl, by decide, by decide⟩ ?F (fun _ _ _ _ z => z)
    intro w mg fa h Y G hmg0
    obtain ⟨K, KX, c⟩ := Y
    have hmg : mg ("law" : PySem.Str) = some (.ref fa) := by
      have e : (HandSHeadRun.topDef Uw.R.prog 52).name = ("law" : PySem.Str) := by kernel_rfl
      rw [← e]
      exact hmg0
    have hd : ∀ base : Heap, Uw.Hd ⟨K, (PySem.Challenge.rw_usewarden_k58_whole_ties_stand_in_papers).prog, w, mg, base⟩ := fun base => ⟨c, h, KX, G⟩
    have hg := Uw.Hd.glo (hd h) 45 (x := "law") rfl
    have e := hmg.symm.trans hg
    cases e
    obtain ⟨fd, D, e2⟩ := Uw.Hd.def_ (hd h) 49 45 104 (x := "law") (st := Uw.s_law) rfl rfl rfl
    exact ⟨K, fd, Uw.spL K, KX, Uw.binds_any (q := "law") (p := "_law_script") D.fn e2 fun _ _ _ _ _ _ us hl => match us, hl with | [_], _ => rfl, fun H a ns hl _ hS => ⟨a, ns, rfl, hS, fun _ => rfl⟩, fun base _ _ => Uw.ok_law (hd base) D⟩
