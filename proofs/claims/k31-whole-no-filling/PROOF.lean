import PyProof.Rows.All
import Wide.All
import OpenK.AllK
import Wide.FinOn
import KE.KStateDown
import HandS.ForMost
import HandS.Defaults
import HandS.Head0
import HandS.Head1
import HandS.Head2
import HandS.HeadEnd
import HandS.HeadHook1
import HandS.HeadHook2
import HandS.HeadHook3
import HandS.HeadHook4
import PySem.Challenge.RW_eightcells_k31_whole_no_filling
import HandS.Deep
import HandS.Strs
import HandS.More
import HandS.OwnEq
import KE.KDictPairs
import HandS.Conv
import HandS.TupSets
import HandS.DictComp
import HandS.Zip
import KE.GoesNew
import KE.GoesMore
import HandS.Walk
import KE.GoesEnum
import HandS.IsInst
import HandS.TupAny
import HandS.TupLe
import HandS.SetFor
import HandS.SetKeys
import HandS.Wide
import HandS.Codes
set_option Elab.async false
set_option linter.all false
set_option maxRecDepth 100000
set_option maxHeartbeats 0
namespace EC
open PySem PySem.Spec PyProof.Rows L2
/-! ### the text: statements of the row's top by their places -/
def top (i : Nat) : Stmt := PySem.Challenge.pw_eightcells_k31_whole_no_filling.main.body.getD i (.Pass ⟨0, 0, 0, 0⟩)
abbrev s_is_below : Stmt := top 10
def d_is_below : He.DefD := ⟨("is_below", none), "is_below", "is_below", defArgs s_is_below, defBody s_is_below, defScope s_is_below, [], []⟩
abbrev s_is_row : Stmt := top 11
def d_is_row : He.DefD := ⟨("is_row", none), "is_row", "is_row", defArgs s_is_row, defBody s_is_row, defScope s_is_row, [], []⟩
abbrev s_are_rows : Stmt := top 12
def d_are_rows : He.DefD := ⟨("are_rows", none), "are_rows", "are_rows", defArgs s_are_rows, defBody s_are_rows, defScope s_are_rows, [], []⟩
abbrev s_Relation_init : Stmt := inClass (top 13) 0
def d_Relation_init : He.DefD := ⟨("Relation", some "__init__"), "__init__", "Relation.__init__", defArgs s_Relation_init, defBody s_Relation_init, defScope s_Relation_init, [], []⟩
abbrev s_are_relations : Stmt := top 16
def d_are_relations : He.DefD := ⟨("are_relations", none), "are_relations", "are_relations", defArgs s_are_relations, defBody s_are_relations, defScope s_are_relations, [], []⟩
abbrev s_Book_init : Stmt := inClass (top 17) 0
def d_Book_init : He.DefD := ⟨("Book", some "__init__"), "__init__", "Book.__init__", defArgs s_Book_init, defBody s_Book_init, defScope s_Book_init, [], []⟩
abbrev s_Book_len : Stmt := inClass (top 17) 2
def d_Book_len : He.DefD := ⟨("Book", some "__len__"), "__len__", "Book.__len__", defArgs s_Book_len, defBody s_Book_len, defScope s_Book_len, [], []⟩
abbrev s_are_cells : Stmt := top 19
def d_are_cells : He.DefD := ⟨("are_cells", none), "are_cells", "are_cells", defArgs s_are_cells, defBody s_are_cells, defScope s_are_cells, [], []⟩
abbrev s_is_tie : Stmt := top 20
def d_is_tie : He.DefD := ⟨("is_tie", none), "is_tie", "is_tie", defArgs s_is_tie, defBody s_is_tie, defScope s_is_tie, [], []⟩
abbrev s_Puzzle_init : Stmt := inClass (top 21) 0
def d_Puzzle_init : He.DefD := ⟨("Puzzle", some "__init__"), "__init__", "Puzzle.__init__", defArgs s_Puzzle_init, defBody s_Puzzle_init, defScope s_Puzzle_init, [], []⟩
abbrev s_is_start : Stmt := top 22
def d_is_start : He.DefD := ⟨("is_start", none), "is_start", "is_start", defArgs s_is_start, defBody s_is_start, defScope s_is_start, [], []⟩
abbrev s_seen_rows : Stmt := top 24
def d_seen_rows : He.DefD := ⟨("seen_rows", none), "seen_rows", "seen_rows", defArgs s_seen_rows, defBody s_seen_rows, defScope s_seen_rows, [], []⟩
abbrev s_is_number_below : Stmt := top 26
def d_is_number_below : He.DefD := ⟨("is_number_below", none), "is_number_below", "is_number_below", defArgs s_is_number_below, defBody s_is_number_below, defScope s_is_number_below, [], []⟩
abbrev s_are_triples : Stmt := top 27
def d_are_triples : He.DefD := ⟨("are_triples", none), "are_triples", "are_triples", defArgs s_are_triples, defBody s_are_triples, defScope s_are_triples, [], []⟩
abbrev s_cells_of : Stmt := top 28
def d_cells_of : He.DefD := ⟨("cells_of", none), "cells_of", "cells_of", defArgs s_cells_of, defBody s_cells_of, defScope s_cells_of, [], []⟩
abbrev s_is_step : Stmt := top 29
def d_is_step : He.DefD := ⟨("is_step", none), "is_step", "is_step", defArgs s_is_step, defBody s_is_step, defScope s_is_step, [], []⟩
abbrev s_chain_holds : Stmt := top 30
def d_chain_holds : He.DefD := ⟨("chain_holds", none), "chain_holds", "chain_holds", defArgs s_chain_holds, defBody s_chain_holds, defScope s_chain_holds, [], []⟩
abbrev s_way_holds : Stmt := top 31
def d_way_holds : He.DefD := ⟨("way_holds", none), "way_holds", "way_holds", defArgs s_way_holds, defBody s_way_holds, defScope s_way_holds, [], []⟩
abbrev s_ring_holds : Stmt := top 32
def d_ring_holds : He.DefD := ⟨("ring_holds", none), "ring_holds", "ring_holds", defArgs s_ring_holds, defBody s_ring_holds, defScope s_ring_holds, [], []⟩
abbrev s_is_part : Stmt := top 33
def d_is_part : He.DefD := ⟨("is_part", none), "is_part", "is_part", defArgs s_is_part, defBody s_is_part, defScope s_is_part, [], []⟩
abbrev s_sum_holds : Stmt := top 34
def d_sum_holds : He.DefD := ⟨("sum_holds", none), "sum_holds", "sum_holds", defArgs s_sum_holds, defBody s_sum_holds, defScope s_sum_holds, [], []⟩
abbrev s_leaf_holds : Stmt := top 35
def d_leaf_holds : He.DefD := ⟨("leaf_holds", none), "leaf_holds", "leaf_holds", defArgs s_leaf_holds, defBody s_leaf_holds, defScope s_leaf_holds, [], []⟩
abbrev s_is_split : Stmt := top 36
def d_is_split : He.DefD := ⟨("is_split", none), "is_split", "is_split", defArgs s_is_split, defBody s_is_split, defScope s_is_split, [], []⟩
abbrev s_with_cell : Stmt := top 37
def d_with_cell : He.DefD := ⟨("with_cell", none), "with_cell", "with_cell", defArgs s_with_cell, defBody s_with_cell, defScope s_with_cell, [], []⟩
abbrev s_none_holds : Stmt := top 38
def d_none_holds : He.DefD := ⟨("none_holds", none), "none_holds", "none_holds", defArgs s_none_holds, defBody s_none_holds, defScope s_none_holds, [], []⟩
abbrev s_law_draws : Stmt := top 40
def d_law_draws : He.DefD := ⟨("_law_draws", none), "_law_draws", "_law_draws", defArgs s_law_draws, defBody s_law_draws, defScope s_law_draws, [], []⟩
abbrev s_law_take : Stmt := top 41
def d_law_take : He.DefD := ⟨("_law_take", none), "_law_take", "_law_take", defArgs s_law_take, defBody s_law_take, defScope s_law_take, [], []⟩
abbrev s_law_all_rows : Stmt := top 42
def d_law_all_rows : He.DefD := ⟨("_law_all_rows", none), "_law_all_rows", "_law_all_rows", defArgs s_law_all_rows, defBody s_law_all_rows, defScope s_law_all_rows, [], []⟩
abbrev s_law_table : Stmt := top 43
def d_law_table : He.DefD := ⟨("_law_table", none), "_law_table", "_law_table", defArgs s_law_table, defBody s_law_table, defScope s_law_table, [], []⟩
abbrev s_law_made : Stmt := top 44
def d_law_made : He.DefD := ⟨("_law_made", none), "_law_made", "_law_made", defArgs s_law_made, defBody s_law_made, defScope s_law_made, [], []⟩
abbrev s_law_chosen : Stmt := top 45
def d_law_chosen : He.DefD := ⟨("_law_chosen", none), "_law_chosen", "_law_chosen", defArgs s_law_chosen, defBody s_law_chosen, defScope s_law_chosen, [], []⟩
abbrev s_law_closed : Stmt := top 46
def d_law_closed : He.DefD := ⟨("_law_closed", none), "_law_closed", "_law_closed", defArgs s_law_closed, defBody s_law_closed, defScope s_law_closed, [], []⟩
abbrev s_law_relation : Stmt := top 47
def d_law_relation : He.DefD := ⟨("_law_relation", none), "_law_relation", "_law_relation", defArgs s_law_relation, defBody s_law_relation, defScope s_law_relation, [], []⟩
abbrev s_law_book : Stmt := top 48
def d_law_book : He.DefD := ⟨("_law_book", none), "_law_book", "_law_book", defArgs s_law_book, defBody s_law_book, defScope s_law_book, [], []⟩
abbrev s_law_ties : Stmt := top 49
def d_law_ties : He.DefD := ⟨("_law_ties", none), "_law_ties", "_law_ties", defArgs s_law_ties, defBody s_law_ties, defScope s_law_ties, [], []⟩
abbrev s_law_start : Stmt := top 50
def d_law_start : He.DefD := ⟨("_law_start", none), "_law_start", "_law_start", defArgs s_law_start, defBody s_law_start, defScope s_law_start, [], []⟩
abbrev s_law_puzzle : Stmt := top 51
def d_law_puzzle : He.DefD := ⟨("_law_puzzle", none), "_law_puzzle", "_law_puzzle", defArgs s_law_puzzle, defBody s_law_puzzle, defScope s_law_puzzle, [], []⟩
abbrev s_law_views : Stmt := top 52
def d_law_views : He.DefD := ⟨("_law_views", none), "_law_views", "_law_views", defArgs s_law_views, defBody s_law_views, defScope s_law_views, [], []⟩
abbrev s_law_fillings : Stmt := top 53
def d_law_fillings : He.DefD := ⟨("_law_fillings", none), "_law_fillings", "_law_fillings", defArgs s_law_fillings, defBody s_law_fillings, defScope s_law_fillings, [], []⟩
abbrev s_law_is_number : Stmt := top 54
def d_law_is_number : He.DefD := ⟨("_law_is_number", none), "_law_is_number", "_law_is_number", defArgs s_law_is_number, defBody s_law_is_number, defScope s_law_is_number, [], []⟩
abbrev s_law_are : Stmt := top 55
def d_law_are : He.DefD := ⟨("_law_are", none), "_law_are", "_law_are", defArgs s_law_are, defBody s_law_are, defScope s_law_are, [], []⟩
abbrev s_law_is_step : Stmt := top 56
def d_law_is_step : He.DefD := ⟨("_law_is_step", none), "_law_is_step", "_law_is_step", defArgs s_law_is_step, defBody s_law_is_step, defScope s_law_is_step, [], []⟩
abbrev s_law_is_chain : Stmt := top 57
def d_law_is_chain : He.DefD := ⟨("_law_is_chain", none), "_law_is_chain", "_law_is_chain", defArgs s_law_is_chain, defBody s_law_is_chain, defScope s_law_is_chain, [], []⟩
abbrev s_law_is_way : Stmt := top 58
def d_law_is_way : He.DefD := ⟨("_law_is_way", none), "_law_is_way", "_law_is_way", defArgs s_law_is_way, defBody s_law_is_way, defScope s_law_is_way, [], []⟩
abbrev s_law_is_sum : Stmt := top 59
def d_law_is_sum : He.DefD := ⟨("_law_is_sum", none), "_law_is_sum", "_law_is_sum", defArgs s_law_is_sum, defBody s_law_is_sum, defScope s_law_is_sum, [], []⟩
abbrev s_law_with : Stmt := top 60
def d_law_with : He.DefD := ⟨("_law_with", none), "_law_with", "_law_with", defArgs s_law_with, defBody s_law_with, defScope s_law_with, [], []⟩
abbrev s_law_is_none : Stmt := top 61
def d_law_is_none : He.DefD := ⟨("_law_is_none", none), "_law_is_none", "_law_is_none", defArgs s_law_is_none, defBody s_law_is_none, defScope s_law_is_none, [], []⟩
abbrev s_law_spoilt : Stmt := top 62
def d_law_spoilt : He.DefD := ⟨("_law_spoilt", none), "_law_spoilt", "_law_spoilt", defArgs s_law_spoilt, defBody s_law_spoilt, defScope s_law_spoilt, [], []⟩
abbrev s_law_steps : Stmt := top 63
def d_law_steps : He.DefD := ⟨("_law_steps", none), "_law_steps", "_law_steps", defArgs s_law_steps, defBody s_law_steps, defScope s_law_steps, [], []⟩
abbrev s_law_refute : Stmt := top 64
def d_law_refute : He.DefD := ⟨("_law_refute", none), "_law_refute", "_law_refute", defArgs s_law_refute, defBody s_law_refute, defScope s_law_refute, [], []⟩
abbrev s_law_drawn_steps : Stmt := top 65
def d_law_drawn_steps : He.DefD := ⟨("_law_drawn_steps", none), "_law_drawn_steps", "_law_drawn_steps", defArgs s_law_drawn_steps, defBody s_law_drawn_steps, defScope s_law_drawn_steps, [], []⟩
abbrev s_law_drawn_parts : Stmt := top 66
def d_law_drawn_parts : He.DefD := ⟨("_law_drawn_parts", none), "_law_drawn_parts", "_law_drawn_parts", defArgs s_law_drawn_parts, defBody s_law_drawn_parts, defScope s_law_drawn_parts, [], []⟩
abbrev s_law_drawn_paper : Stmt := top 67
def d_law_drawn_paper : He.DefD := ⟨("_law_drawn_paper", none), "_law_drawn_paper", "_law_drawn_paper", defArgs s_law_drawn_paper, defBody s_law_drawn_paper, defScope s_law_drawn_paper, [], []⟩
abbrev s_law_is_sound : Stmt := top 68
def d_law_is_sound : He.DefD := ⟨("_law_is_sound", none), "_law_is_sound", "_law_is_sound", defArgs s_law_is_sound, defBody s_law_is_sound, defScope s_law_is_sound, [], []⟩
abbrev s_law : Stmt := top 69
def d_law : He.DefD := ⟨("law", none), "law", "law", defArgs s_law, defBody s_law, defScope s_law, [], []⟩
def fn0 : List He.DefD := [d_is_below, d_is_row, d_are_rows, d_Relation_init, d_are_relations, d_Book_init, d_Book_len, d_are_cells, d_is_tie, d_Puzzle_init, d_is_start, d_seen_rows, d_is_number_below, d_are_triples, d_cells_of, d_is_step, d_chain_holds, d_way_holds, d_ring_holds, d_is_part]
def fn1 : List He.DefD := [d_sum_holds, d_leaf_holds, d_is_split, d_with_cell, d_none_holds, d_law_draws, d_law_take, d_law_all_rows, d_law_table, d_law_made, d_law_chosen, d_law_closed, d_law_relation, d_law_book, d_law_ties, d_law_start, d_law_puzzle, d_law_views, d_law_fillings, d_law_is_number]
def fn2 : List He.DefD := [d_law_are, d_law_is_step, d_law_is_chain, d_law_is_way, d_law_is_sum, d_law_with, d_law_is_none, d_law_spoilt, d_law_steps, d_law_refute, d_law_drawn_steps, d_law_drawn_parts, d_law_drawn_paper, d_law_is_sound, d_law]
def fn : List He.DefD := fn0 ++ (fn1 ++ (fn2))
def fa0 : List He.Fa := [.glo "is_below", .glo "is_row", .glo "are_rows", .glo "are_relations", .glo "are_cells", .glo "is_tie", .glo "is_start", .glo "seen_rows", .glo "is_number_below", .glo "are_triples", .glo "cells_of", .glo "is_step", .glo "chain_holds", .glo "way_holds", .glo "ring_holds", .glo "is_part", .glo "sum_holds", .glo "leaf_holds", .glo "is_split", .glo "with_cell"]
def fa1 : List He.Fa := [.glo "none_holds", .glo "_law_draws", .glo "_law_take", .glo "_law_all_rows", .glo "_law_table", .glo "_law_made", .glo "_law_chosen", .glo "_law_closed", .glo "_law_relation", .glo "_law_book", .glo "_law_ties", .glo "_law_start", .glo "_law_puzzle", .glo "_law_views", .glo "_law_fillings", .glo "_law_is_number", .glo "_law_are", .glo "_law_is_step", .glo "_law_is_chain", .glo "_law_is_way"]
def fa2 : List He.Fa := [.glo "_law_is_sum", .glo "_law_with", .glo "_law_is_none", .glo "_law_spoilt", .glo "_law_steps", .glo "_law_refute", .glo "_law_drawn_steps", .glo "_law_drawn_parts", .glo "_law_drawn_paper", .glo "_law_is_sound", .glo "law", .free "isinstance", .free "int", .free "bool", .free "tuple", .free "list", .free "str", .free "len", .free "sorted", .free "enumerate"]
def fa3 : List He.Fa := [.free "zip", .free "all", .free "any", .free "sum", .free "dict", .free "range", .free "abs", .int "MOST_PLACES" 4, .int "MOST_RELATIONS" 6, .glo "Relation", .cls "Relation", .mkr "Relation", .noat "Relation" "size", .noat "Relation" "rows", .keep "Relation", .glo "Book", .cls "Book", .mkr "Book", .noat "Book" "relations", .noat "Book" "plain"]
def fa4 : List He.Fa := [.keep "Book", .glo "Puzzle", .cls "Puzzle", .mkr "Puzzle", .noat "Puzzle" "book", .noat "Puzzle" "cell_count", .noat "Puzzle" "ties", .keep "Puzzle", .meth "Book" "__len__"]
def fa : List He.Fa := fa0 ++ (fa1 ++ (fa2 ++ (fa3 ++ (fa4))))
def loose0 : List PySem.Str := ["_wall", "CellError", "InvalidNumber", "InvalidRelation", "InvalidBook", "InvalidPuzzle", "InvalidStart", "MOST_PLACES", "is_below", "is_row", "are_rows", "Relation", "MOST_RELATIONS", "are_relations", "Book", "are_cells", "is_tie", "Puzzle", "is_start", "seen_rows"]
def loose1 : List PySem.Str := ["is_number_below", "are_triples", "cells_of", "is_step", "chain_holds", "way_holds", "ring_holds", "is_part", "sum_holds", "leaf_holds", "is_split", "with_cell", "none_holds", "_law_draws", "_law_take", "_law_all_rows", "_law_table", "_law_made", "_law_chosen", "_law_closed"]
def loose2 : List PySem.Str := ["_law_relation", "_law_book", "_law_ties", "_law_start", "_law_puzzle", "_law_views", "_law_fillings", "_law_is_number", "_law_are", "_law_is_step", "_law_is_chain", "_law_is_way", "_law_is_sum", "_law_with", "_law_is_none", "_law_spoilt", "_law_steps", "_law_refute", "_law_drawn_steps", "_law_drawn_parts"]
def loose3 : List PySem.Str := ["_law_drawn_paper", "_law_is_sound"]
def loose : List PySem.Str := loose0 ++ (loose1 ++ (loose2 ++ (loose3)))
abbrev R : PySem.W.OpenRow := PySem.W.OpenLaw.row PySem.Challenge.rw_eightcells_k31_whole_no_filling
/-! ### the head's Hook, by one more Bool: what isinstance of an own class asks -/
def isiB (K : PySem.W.Frag) (x : Str) : Bool := decide (PySem.W.findIn K (.ref (He.ga K x)) "__class__" = some (some (.builtin "object.__class__"))) && (decide (PySem.W.mroIn K (He.ga K x) (.type "object") = some true) && decide (PySem.W.kitOne K (.ref (He.ga K x)) (.ref (He.ga K x)) = some true))
def exB (K : PySem.W.Frag) : Bool := decide (PySem.W.specialIn K (.builtin "object.__class__") "__get__" = some (some (.builtin "getset_descriptor.__get__"))) && (decide (PySem.W.takesIn K (.builtin "object.__class__") = some true) && (isiB K "Relation" && isiB K "Book"))
abbrev AlK : Type := He.AlD × Bool
def obsK (K : PySem.W.Frag) : AlK := (He.obsD fa fn K, exB K)
def obsKG (g : Addr → Option Obj) : AlK := obsK (He.frG g (He.asD g 5))
def hk : PySem.W.Hook where
  α := AlK
  obs := fun s => obsKG s.heap.get?
  val := fun _ => (He.valD fn, true)
  says := fun _ h => ∃ K : PySem.W.Frag, K.In h ∧ He.SaysD fa fn K ∧ exB K = true
  of := fun _ _ e => ⟨_, He.frG_in, congrArg (fun z : AlK => z.1) e, congrArg (fun z : AlK => z.2) e⟩
  keeps := fun _ _ _ ⟨K, hK, c⟩ k => ⟨K, PySem.W.Frag.In.keeps hK k, c⟩
def ob (s : PySem.W.SharedT) : AlK := obsKG (HandSHeadRun.getT s)
theorem ob_eq (s : PySem.W.SharedT) : ob s = hk.obs s.abs := by
  have e : HandSHeadRun.getT s = s.abs.heap.get? := funext (HandSHeadRun.getT_eq s)
  show obsKG (HandSHeadRun.getT s) = obsKG s.abs.heap.get?
  rw [e]
def lawIx : Nat := 69
theorem run (w : World) : HandSHeadRun.RunEq R (PySem.W.view R.prog [69]) hk ob 20000 loose w := by
  intro os
  kernel_rfl
end EC

set_option Elab.async false
set_option linter.all false
set_option maxRecDepth 100000
set_option maxHeartbeats 2000000
/-! Rules that the layer lacks: tuples whose object is told, their index, dict of such a tuple of pairs, in of a tuple of data, len of an own object. -/
namespace EC
open PySem PySem.Spec PyProof.Rows L2
/-- a tuple whose own object is told and bears no dict -/
def FrT (H : Hp) (a : Addr) (xs : List V) : Prop := ∃ o, H a = some (.frz o (.tup xs)) ∧ o.dict = none
theorem FrT.sq {K : PySem.W.Frag} {H : Hp} {a : Addr} {xs : List V} (h : FrT H a xs) : SqT K H a xs := by
  obtain ⟨o, e, _⟩ := h
  exact .inl (.inr ⟨o, e⟩)
section
variable {X : Cx}
theorem call_tupF : CallR X (.type "tuple") (fun xs H Q => ∃ p ys, xs = [.ref p] ∧ SqL X.K H p ys ∧ ∀ l o, H l = none → o.dict = none → Q (.ref l) (upd H l (.frz o (.tup ys)))) := by
  intro pins s σ H xs us Q I r h
  obtain ⟨p, ys, rfl, hq, q⟩ := h
  obtain ⟨u, rfl, rx⟩ := vals1 r
  cases rx
  obtain ⟨its, r', pl, hz⟩ := I.list hq
  have hlen := r'.length
  refine call_tuple_list pl.isList (fun h' kp => ?_) (by simp only [List.size_toArray] <;> omega)
  have J1 : Inv X pins σ H { s with heap := h' } := I.kept (t' := s.toks) kp
  have J2 : Inv X pins σ (upd H h'.objs.size (.frz { cls := .type "tuple", data := .seq its.toArray } (.tup ys))) { s with heap := h'.push { cls := .type "tuple", data := .seq its.toArray } } :=
    J1.laid (t' := s.toks) (fun b o e => Heap.get?_push_of_some _ e) (Nat.le_refl _) ⟨Heap.get?_push_size _ rfl, hz, its, r', IsTup.new _ _⟩
  exact ⟨.ref h'.objs.size, _, J2, rfl, q _ _ (J1.hok.fresh (Nat.le_refl _)) rfl⟩

/-! ### t.index(x) -/
variable {o e : Expr} {es : List Expr} {to : TE} {t : TA} {apos cpos : Pos}
def tTix (to : TE) (t : TA) : TE := fun σ H Q => to σ H fun x H1 => ∃ p ys, x = .ref p ∧ FrT H1 p ys ∧ t σ H1 fun xs H2 => ∃ (y : V) (j : Nat) (z : V), xs = [y] ∧ FrT H2 p ys ∧ flatV y = true ∧ ys.all flatV = true ∧ ys[j]? = some z ∧ eqV z y = true ∧ (∀ (m : Nat) (z' : V), m < j → ys[m]? = some z' → eqV z' y = false) ∧ Q (.int (j : Nat)) H2
theorem pe_tix (ho : PE X o to) (ha : PA X (e :: es) t)
    (hbase : attributeBase o "index" X.env (eval o X.env) = eval o X.env := by rfl)
    (hfew : ((backTo cpos (starEach (e :: es) X.env)).all (fun x => !x.1) && (backToKw cpos (keywordEach [] X.env)).all (fun x => x.1.isSome)
      && decide ((e :: es).length + ([] : List Keyword).length + (if ([] : List Keyword).isEmpty then 0 else 1) < 30)) = true := by rfl)
    (hline : (apos.endLine == cpos.line) = true := by rfl) (hs : starEach (e :: es) X.env = (false, eval e X.env) :: starEach es X.env := by rfl) (hplain : (backTo cpos (starEach es X.env)).any (·.1) = false := by rfl) :
    PE X (.Call (.Attribute o "index" apos) (e :: es) [] cpos) (tTix to t) := by
  refine ⟨fun pins s σ H Q I h => ?_⟩
  refine wpAny_Call_method_late hbase hfew hline rfl (thn (ho.run pins s σ H _ I h) fun v s1 ⟨x, H1, I1, r1, q1⟩ => ?_)
  obtain ⟨p, ys, rfl, ⟨ob, hp, hd⟩, q1⟩ := q1
  cases r1
  obtain ⟨hob, _, its0, rv0, ⟨ob', he', hc', n', hd'⟩⟩ := I1.hok p _ hp
  have hTy : s1.TypeIs (.ref p) "tuple" := ⟨ob', he', hc'⟩
  refine ⟨"tuple", "tuple.index", PySem.F.plainAttrs_tuple, PySem.F.slot_tuple_index, PySem.F.type_tuple_index, hTy, fun a ea => ?_, ?_⟩
  · cases ea
    exact ⟨ob, hob, hd⟩
  have hA := ha.run cpos pins s1 σ H1 _ I1 q1
  rw [hs] at hA ⊢
  refine Calls.callWith_builtin (by show (false || (backTo cpos (starEach es X.env)).any (·.1)) = false; rw [hplain] <;> rfl) (Calls.evalArgs_plain ?_)
  refine thn hA fun us s2 ⟨vs, H2, I2, r2, q2⟩ => ?_
  obtain ⟨y, j, z, rfl, hq, fy, fys, hz, hzj, hno, q⟩ := q2
  obtain ⟨uy, rfl, ry⟩ := vals1 r2
  obtain ⟨its, rv, ⟨⟨cls, dd, data, sl⟩, ho2, hc2, n, hd2⟩, hlen⟩ := I2.tuple (hq.sq (K := X.K))
  simp only at hc2 hd2
  subst hc2 hd2
  obtain ⟨u, hu, ru⟩ := rv.get hz
  obtain ⟨hjl, hje⟩ := List.getElem?_eq_some_iff.mp hu
  have hvl := rv.length
  have hj : j < its.toArray.size := by simpa using hjl
  refine call_meets PySem.F.slot_tuple_index ⟨_, ho2, rfl⟩ PySem.F.entry_tuple_index (PySem.F.args_tuple_index_2 _ _)
    (TI.tuple_indexAt p its.toArray n dd sl uy (eqU y) j hj ?_ ?_) ⟨ho2, fun u' hu' => mem_eqAt ry fy rv fys u' (by simpa using hu'), ?_⟩
  · have e1 : its.toArray[j] = u := by simpa using hje
    rw [e1, eqU_of ru (flat_at fys hz)]
    exact hzj
  · intro m hm hmj
    have hml : m < its.length := by simpa using hm
    have hmy : m < ys.length := by omega
    have hy' : ys[m]? = some ys[m] := List.getElem?_eq_getElem hmy
    obtain ⟨u2, hu2, ru2⟩ := rv.get hy'
    obtain ⟨_, hme⟩ := List.getElem?_eq_some_iff.mp hu2
    have e1 : its.toArray[m] = u2 := by simpa using hme
    rw [e1, eqU_of ru2 (flat_at fys hy')]
    exact hno m _ hmj hy'
  · exact ⟨.int (j : Nat), H2, I2.tok _, ⟨_, rfl⟩, q⟩

/-! ### x not in t, t a tuple of data -/
def rNinT (K : PySem.W.Frag) : R2 := fun x y H Q => ∃ d ds, Dp K H x d ∧ Dp K H y (.tuple ds) ∧ SeqAt.shaped d = true ∧ SeqAt.shaped (.tuple ds) = true ∧ Q (.bl (!ds.any fun z => PyData.eqv z d)) H
theorem op_ninT (hu : X.A.units + 65 < cLine) : OpR X (compareOp .NotIn) (rNinT X.K) := by
  intro pins s σ H x y v u Q I rx ry h
  obtain ⟨d, ds, hd, he, sd, se, q⟩ := h
  obtain ⟨as, r1⟩ := Dp.reads I d x v hd rx
  obtain ⟨bs, r2⟩ := Dp.reads I (.tuple ds) y u he ry
  exact SeqAt.notIn_tuple_reads r2 r1 (SeqAt.canLay_of_shaped se) (SeqAt.canLay_of_shaped sd) (room_in_shaped sd hu) ⟨.bl _, H, I, rfl, q⟩

/-! ### dict(t), t such a tuple of pairs -/
theorem pairs_of2 {pins : List (Addr × Obj)} {σ : L2.St} {H : Hp} {s : Shared} (I : Inv X pins σ H s) : ∀ {ps : List Addr} {kvs : List (Key × V)}, Paired (fun p kv => SqT X.K H p [kV kv.1, kv.2]) ps kvs →
    ∃ (prs : List (Key × Value)) (qs : List (Value × Value)), KV kvs prs ∧ prs.length = ps.length ∧ qs.length = ps.length ∧
      ∀ (j : Nat) (q : Key × Value), prs[j]? = some q → ∃ (b : Addr) (u : Value), ps[j]? = some b ∧ qs[j]? = some (u, q.2) ∧ IsTup s.heap b #[u, q.2] ∧ keyIs q.1 u = true
  | _, _, .nil => ⟨[], [], .nil, rfl, rfl, fun j q e => by simp at e⟩
  | _, _, .cons (a := p) (b := kv) h t => by
    obtain ⟨prs, qs, r, hl, hl2, hp⟩ := pairs_of2 I t
    obtain ⟨its, rv, ht, _⟩ := I.tuple h
    obtain ⟨u, y, rfl, ru, ry⟩ := vals2 rv
    refine ⟨(kv.1, y) :: prs, (u, y) :: qs, .cons ⟨rfl, ry⟩ r, congrArg Nat.succ hl, congrArg Nat.succ hl2, fun j q e => ?_⟩
    cases j with
    | zero =>
      cases (Option.some.inj e : (kv.1, y) = q)
      exact ⟨p, u, rfl, rfl, ht, kV_is (P := X.prog) (w := X.w) ru⟩
    | succ j =>
      obtain ⟨b, u', e1, e2, e3, e4⟩ := hp j q (by simpa using e)
      exact ⟨b, u', by simpa using e1, by simpa using e2, e3, e4⟩
theorem call_dictT (hcalm : X.calm = true) : CallR X (.type "dict") (fun xs H Q => ∃ (a : Addr) (ps : List Addr) (kvs : List (Key × V)), xs = [.ref a] ∧ FrT H a (ps.map V.ref) ∧ Paired (fun p kv => SqT X.K H p [kV kv.1, kv.2]) ps kvs ∧
    ∀ p, H p = none → Q (.ref p) (upd H p (.dK (mergeK [] kvs)))) := by
  intro pins s σ H xs us Q I r q
  obtain ⟨a, ps, kvs, rfl, hq, hp, q⟩ := q
  obtain ⟨u, rfl, rx⟩ := vals1 r
  cases rx
  obtain ⟨ob, ha, hd⟩ := hq
  obtain ⟨hob, hz, its, rv, ⟨ob', he', hc', n', hd'⟩⟩ := I.hok a _ ha
  rw [hob] at he'
  cases he'
  have ei := refs_at rv
  subst ei
  rw [List.length_map] at hz
  obtain ⟨prs, qs, rel, hl, hqs, hq1⟩ := pairs_of2 I hp
  have hm : (s.heap.objs.size == sysModules) = false := beq_eq_false_iff_ne.mpr (Nat.ne_of_gt I.big)
  have hlen : (mergeK [] kvs).length ≤ sizeLine := by
    refine Nat.le_trans (length_mergeK kvs []) ?_
    rw [List.length_nil, Nat.zero_add, rel.length, hl]
    exact hz
  have hps : PlainSeq "tuple" s.heap a (ps.map Value.ref).toArray := ⟨ob, n', hob, hc', hd, hd'⟩
  have hit : PairItems s.heap (ps.map Value.ref).toArray (fun j => ps.getD j 0) qs := by
    refine ⟨by simp [hqs], fun j k v e => ?_⟩
    have hj : j < prs.length := by
      have h1 := (List.getElem?_eq_some_iff.mp e).1
      omega
    obtain ⟨b, u, e1, e2, e3, e4⟩ := hq1 j prs[j] (List.getElem?_eq_getElem hj)
    rw [e] at e2
    cases e2
    have e5 : ps.getD j 0 = b := by
      rw [List.getD_eq_getElem?_getD, e1]
      rfl
    show _ ∧ PairAt s.heap (ps.getD j 0) k prs[j].2
    rw [e5]
    exact ⟨by simp [e1, e5], .inl e3⟩
  refine PySem.call_dict_pairs (knd := mixKind X.prog X.w) (kvs := prs) (PairArg.tuple a (ps.map Value.ref).toArray (fun j => ps.getD j 0) qs) (I.ok.hd hcalm) ⟨hps, hit⟩ ⟨by omega, fun i key v hr => ?_⟩ (by omega) fun h' tk hdo hk => ?_
  · have hr : qs[i]? = some (key, v) := hr
    have hj : i < prs.length := by
      have h1 := (List.getElem?_eq_some_iff.mp hr).1
      omega
    obtain ⟨b, u, e1, e2, e3, e4⟩ := hq1 i prs[i] (List.getElem?_eq_getElem hj)
    rw [hr] at e2
    cases e2
    exact ⟨prs[i].1, List.getElem?_eq_getElem hj, e4⟩
  · exact ⟨.ref s.heap.objs.size, upd H s.heap.objs.size (.dK (mergeK [] kvs)), I.laid (t' := tk) (fun b o e => hk b o (fun z => nomatch z) e) (Nat.le_refl _) (show ObjOk X.prog X.w _ _ _ (.dK (mergeK [] kvs)) from ⟨hlen, hm, merged [] prs, KV.merge rel .nil, hdo⟩), rfl, q _ (I.hok.fresh (Nat.le_refl _))⟩

/-! ### len of an own object -/
theorem call_lenOwn {CX : CXT} {C f : Addr} {fd : FuncData} {k : Nat} {sp : Sp} {E : XK} (F : FnOk X.prog X.w X.K X.mg X.base CX k f fd ["self"] sp) (hr : Room (k + 1) X.A)
    (hm : Meth X.K C "__len__" f) (hb : Binds X.K fd ["self"] []) (hx : Passes CX X E) :
    CallR X (.builtin "len") (fun xs H Q => ∃ a dx fs, xs = [.ref a] ∧ H a = some (.ins C dx fs) ∧ sp [.ref a] H (fun v H' => ∃ n : Int, v = .int n ∧ 0 ≤ n ∧ n < 2 ^ 63 ∧ Q (.int n) H') E) := by
  intro pins s σ H xs us Q I r h
  obtain ⟨a, dx, fs, rfl, ha, h⟩ := h
  obtain ⟨u, rfl, rx⟩ := vals1 r
  cases rx
  obtain ⟨mA, J, _⟩ := ins_get I.hok ha
  obtain ⟨od, J, _⟩ := J.look
  have hr1 : Room k X.A.in1 := hr.in1
  have e0 : Env0 X.prog X.w X.K X.mg X.base X.A.in1 X.stack s H := by
    have e := I.env0
    exact ⟨e.frames, e.mod, e.bs, e.bsz, e.funs, e.frf, e.hok, e.bare⟩
  have r2 : Vals [V.ref a] [Value.ref a] := .cons rfl .nil
  refine Calls.call_function_entry kind_len plain_len entry_len (args_len1 _) ?_
  unfold Builtin.«len»
  refine wpAny_bind (m := oneArg "len" _) (wpAny_pure ?_)
  refine wpAny_bind (m := callSpecial? (.ref a) (Str.ofString "__len__")) (PySem.W.special_fn I.kIn J hm.at_ (beq_iff_eq.mp hm.fn) ?_)
  refine wpAny_call (codeAny_mono (F.run X.A.in1 X.stack s H ⟨[.ref a], []⟩ [.ref a] [.ref a] _ E hr1 e0 (by
    have := hb s [.ref a] I.kIn rfl
    simpa using this) r2 h) fun r s' hq => ?_)
  cases r with
  | error e => exact hx pins σ H s e s' I hq
  | ok fl =>
    cases fl with
    | ret w =>
      obtain ⟨z, H', I', rz, n, rfl, h0, h1, q⟩ := I.after hq
      obtain ⟨t, rfl⟩ := rz
      refine wpAny_bind (wpAny_holding (wpAny_pure ?_))
      refine wpAny_bind (wpAny_letGo ?_)
      show wpAny _ _ (if n < 0 then _ else _) _ _ _
      rw [if_neg (by omega)]
      show wpAny _ _ (if n ≥ 2 ^ 63 then _ else _) _ _ _
      rw [if_neg (by omega)]
      exact wpAny_bind (wpAny_mkInt (wpAny_pure ⟨_, rfl, .int n, H', I'.tok _, ⟨_, rfl⟩, q⟩))
    | next => exact False.elim hq
    | brk => exact False.elim hq
    | cont => exact False.elim hq
end
end EC

set_option Elab.async false
set_option linter.all false
set_option maxRecDepth 100000
set_option maxHeartbeats 2000000
/-! Rules that the layer lacks: a dict comprehension whose keys are tuples, sorted of such a dict. -/
namespace EC
open PySem PySem.Spec PyProof.Rows L2
def unref : Value → Addr
  | .ref a => a
  | _ => 0
theorem refs_back : ∀ l : List Value, (∀ v ∈ l, ∃ b, v = Value.ref b) → l = (l.map unref).map Value.ref
  | [], _ => rfl
  | v :: l, h => by
    obtain ⟨b, rfl⟩ := h v List.mem_cons_self
    rw [List.map_cons, List.map_cons, ← refs_back l fun v hv => h v (List.mem_cons_of_mem _ hv)]
    rfl
theorem perm_refs {vs : List Value} {bs0 : List Addr} (g : vs.Perm (bs0.map Value.ref)) : ∃ bs : List Addr, vs = bs.map Value.ref ∧ bs.Perm bs0 := by
  refine ⟨vs.map unref, refs_back vs fun v hv => ?_, ?_⟩
  · obtain ⟨b, _, e⟩ := List.mem_map.mp (g.mem_iff.mp hv)
    exact ⟨b, e.symm⟩
  · have q := g.map unref
    rw [List.map_map] at q
    have e : bs0.map (unref ∘ Value.ref) = bs0 := List.map_id' bs0
    rw [e] at q
    exact q
section
variable {X : Cx}
/-- sorted(d): the key tuples in some order -/
theorem cr_sortedDT {d : Nat} {B : Int} (hd1 : 1 ≤ d) (hc : X.calm = true) : CallR X (.builtin "sorted") (fun xs H Q => ∃ (a : Addr) (kvs : List (List Key × V)), xs = [.ref a] ∧ H a = some (.dT kvs) ∧ kvs.length < 64 ∧
    (∀ p ∈ kvs, ∃ ns : List Int, p.1 = ns.map Sum.inl ∧ ns.length = d ∧ TS.Bd B ns) ∧
    ∀ (bs : List Addr) (p : Addr), H p = none → (∃ bs0, IsKeys H kvs bs0 ∧ bs.Perm bs0) → Q (.ref p) (upd H p (.lst (bs.map V.ref)))) := by
  intro pins s σ H xs us Q I r h
  obtain ⟨a, kvs, rfl, hd, h64, hB, q⟩ := h
  obtain ⟨u, rfl, rx⟩ := vals1 r
  cases rx
  obtain ⟨z, hs, ks, pr, o, es, ep, ho, hx, hdt, he, hn⟩ := (show ObjOk X.prog X.w H s.heap a (.dT kvs) from I.hok a _ hd)
  have l1 : es.size = ks.length := size_of_entries he
  have l2 : kvs.length = ks.length := Paired.length pr
  have hk := isKeys_of pr
  refine Calls.call_function_entry PyProof.Rows.kind_sorted PyProof.Rows.plain_sorted PyProof.Rows.entry_sorted (PyProof.Rows.args_sorted1 _) ?_
  unfold Builtin.«sorted»
  refine wpAny_bind (m := checkCount "sorted" 1 1 _) (wpAny_pure ?_)
  refine wpAny_bind (PySem.W.kdu_collect (A := X.A.in1) (kdl_raw hs hx hdt) (I.ok.hd hc) ho (by rw [sizeLine_eq]; omega) fun h' tk acc kp it => ?_)
  have ea : acc.toList = ks.map fun x => Value.ref x.2.1 := by
    have hl : acc.toList.length = ks.length := by rw [Array.length_toList, it.1]; exact l1
    apply List.ext_getElem?
    intro j
    rw [List.getElem?_map]
    cases hj : acc.toList[j]? with
    | none =>
      have h1 := List.getElem?_eq_none_iff.mp hj
      rw [List.getElem?_eq_none (by omega)]
      all_goals rfl
    | some v =>
      obtain ⟨en, hen, hv⟩ := it.2 j v (by rw [← Array.getElem?_toList]; exact hj)
      have qe := entry_at he j
      rw [hen] at qe
      cases hb : ks[j]? with
      | none =>
        rw [hb] at qe
        exact nomatch (show some en = none from qe)
      | some b =>
        rw [hb] at qe
        have e2 : en = entryOfKey (tupleKind (mixKind X.prog X.w)) b := Option.some.inj qe
        rw [hv, e2]
        all_goals rfl
  generalize hbs : (ks.map fun x => x.2.1) = bs0 at hk
  have eb : acc.toList = bs0.map Value.ref := by rw [ea, ← hbs, List.map_map]; all_goals rfl
  have lb : bs0.length = kvs.length := by rw [← hbs, List.length_map, l2]
  have hal : acc.toList.length = bs0.length := by rw [eb, List.length_map]
  have J1 : Inv X pins σ H { s with heap := h', toks := tk } := I.kept kp
  refine wpAny_bind (wpAny_newList ?_ (by rw [hal, sizeLine_eq]; omega))
  have hoL : (h'.push (seqObj "list" acc.toList.toArray 0)).get? h'.objs.size = some (seqObj "list" acc.toList.toArray 0) := Heap.get?_push_size _ rfl
  have J2 : Inv X pins σ H { s with heap := h'.push (seqObj "list" acc.toList.toArray 0), toks := tk } := J1.kept (t' := tk) fun b ob e => Heap.get?_push_of_some _ e
  have hT : TS.TupsOk (h'.push (seqObj "list" acc.toList.toArray 0)) d B acc.toList := fun v hv => by
    rw [eb] at hv
    obtain ⟨b, hb, rfl⟩ := List.mem_map.mp hv
    obtain ⟨j, hj, ej⟩ := List.getElem_of_mem hb
    have e1 : bs0[j]? = some b := by rw [List.getElem?_eq_getElem hj, ej]
    have hj2 : j < kvs.length := by omega
    have key : ∀ {kvs : List (List Key × V)} {bs : List Addr} (j : Nat) (p : List Key × V) (b : Addr), IsKeys H kvs bs → kvs[j]? = some p → bs[j]? = some b → H b = some (.tup (p.1.map kV)) := by
      intro kvs bs j p b hk
      induction hk generalizing j with
      | nil => intro e; simp at e
      | cons h t ih =>
        cases j with
        | zero =>
          intro e1 e2
          have e1' := Option.some.inj e1
          have e2' := Option.some.inj e2
          subst e1' e2'
          exact h
        | succ j =>
          intro e1 e2
          exact ih j (by simpa using e1) (by simpa using e2)
    have hH := key j kvs[j] b hk (List.getElem?_eq_getElem hj2) e1
    obtain ⟨ns, en, hl, hbd⟩ := hB _ (List.getElem_mem hj2)
    have e3 : (kvs[j].1.map kV) = ns.map V.int := by rw [en, List.map_map]; rfl
    rw [e3] at hH
    exact ⟨ns, tupI_raw J2 (.inl (.inl hH)), hl, hbd⟩
  show wpAny _ _ _ _ _ { s with heap := h'.push (seqObj "list" acc.toList.toArray 0), toks := tk }
  refine wpAny_bind (wpAny_holding (TS.call_sort_tups (s := { s with heap := h'.push (seqObj "list" acc.toList.toArray 0), toks := tk }) hoL (by rw [hal]; omega) hd1 hT fun out g1 g2 => ?_))
  obtain ⟨e', he'⟩ := PyProof.Rows.sortedHeap_at (vs := acc.toList) (out := out) hoL
  rw [eb] at g1
  obtain ⟨bs, hbs2, hpm⟩ := perm_refs g1
  have hlen : (bs.map V.ref).length ≤ sizeLine := by
    rw [List.length_map, hpm.length_eq, lb]
    exact Nat.le_trans (Nat.le_of_lt h64) (by decide)
  refine wpAny_pure ⟨_, rfl, .ref h'.objs.size, upd H h'.objs.size (.lst (bs.map V.ref)), J1.laid (t' := tk) (fun b u e => ?_) (Nat.le_refl _)
    (show ObjOk X.prog X.w _ _ _ (.lst (bs.map V.ref)) from ⟨hlen, out.toList, e', by rw [hbs2]; exact vals_refs bs, by rw [Array.toArray_toList]; exact he'⟩), rfl, q bs _ (J1.hok.fresh (Nat.le_refl _)) ⟨bs0, hk, hpm⟩⟩
  have hb : b < h'.objs.size := Heap.lt_size e
  rw [PyProof.Rows.sortedHeap_old (Nat.ne_of_lt hb) (by rw [size_push']; exact Nat.lt_succ_of_lt hb)]
  exact Heap.get?_push_of_some _ e
/-- d[k] = v by a comprehension, k a tuple -/
theorem dictSetT {pins : List (Addr × Obj)} {σ : L2.St} {H : Hp} {s : Shared} {A : Around} {E : Value → Shared → Prop} {D b : Addr} {kvs : List (List Key × V)} {k : List Key} {v : V} {r : Value} {Q : Unit → Shared → Prop} (hu : A.units < cLine) (I : Inv X pins σ H s)
    (hD : H D = some (.dT kvs)) (hb : H b = some (.tup (k.map kV))) (hz : kvs.length < sizeLine) (rv : RelV v r) (h : ∀ s', Inv X pins σ (upd H D (.dT (putK kvs k v))) s' → Q () s') : wpAny (model X.prog X.w) A (dictSet D (.ref b) r) Q E s := by
  obtain ⟨z, hd, xs, rel, dd⟩ := dt_of I.hok hD
  have hz2 : xs.length ≤ sizeLine := by rw [← Paired.length rel]; exact z
  have hl : (putK kvs k v).length ≤ sizeLine := by have := length_putK kvs k v; omega
  refine wpAny_dictSet_heap (hsz := hz2) (by first | exact hu | exact tupleKind_room hu | skip) (key_of I.hok hb) dd fun h' dd' hs => h _ ?_
  obtain ⟨q, es, ep, hq, h2, h3, h4, _, h5⟩ := dd'
  refine d_write I (by rw [hD]; exact True.intro) hs ⟨q, hq⟩ ⟨hl, hd, _, (rel.put k hb rv).keeps fun c ys ec => ?_, q, es, ep, hq, h2, h3, h4, h5⟩
  rw [upd_ne (ne_of ec hD (fun z => nomatch z))]
  exact ec
/-- a dict comprehension whose keys are tuples -/
def tDcT (wi : TI) (g : TG) (tt : TT) (tk tv : TE) (vs : List Nat) : TE := fun σ H Q => wi σ H fun J H1 => ∀ D, H1 D = none → ∃ W : Nat → Nat → Hp → Prop, (∃ m, W 0 m (upd H1 D (.dT []))) ∧ ∀ i m H, W i m H →
  (J.stop i H ∧ Q (.ref D) H) ∨ (J.go i H ∧ ∃ Nx : Hp → Prop, (∀ H', Nx H' → ∃ m', m' < m ∧ W (i + 1) m' H') ∧ ∀ x H', J.yld i H x H' → g x (wipe σ vs) H' fun σ2 H2 => wipe σ2 vs = wipe σ vs ∧ tt σ2 H2 fun b H3 =>
    if b = true then tk σ2 H3 fun y H4 => tv σ2 H4 fun z H5 => ∃ kvs k b2, y = .ref b2 ∧ H5 b2 = some (.tup (k.map kV)) ∧ H5 D = some (.dT kvs) ∧ kvs.length < sizeLine ∧ Nx (upd H5 D (.dT (putK kvs k z))) else Nx H3)
theorem dcT_core {pins : List (Addr × Obj)} {s : Shared} {σ : L2.St} {H : Hp} {Q : VK} {kx vx tg iter : Expr} {ifs : List Expr} {scope : Scope} {own : List (Str × Nat)} {pos pos' : Pos} {wi : TI} {g : TG} {tt : TT} {tk tv : TE} {use : Option (Value → Sem Unit)} {Qf : Value → Shared → Prop}
    (hu : X.A.units < cLine) (hc : X.calm = true) (hN : X.N.Nodup) (I : Inv X pins σ H s) (hi : PI X tg iter wi) (ok : BlkOk X.N X.env.scope scope own)
    (hg : ∀ (s : Shared) (H : Hp) (C : Addr) (cl : List (Str × Addr)) (fp : List Addr), PG (X.blk s H scope (compEnvC scope cl C X.env) fp) tg g) (ht : ∀ (s : Shared) (H : Hp) (C : Addr) (cl : List (Str × Addr)) (fp : List Addr), PTs (X.blk s H scope (compEnvC scope cl C X.env) fp) ifs tt)
    (hk : ∀ (s : Shared) (H : Hp) (C : Addr) (cl : List (Str × Addr)) (fp : List Addr), PE (X.blk s H scope (compEnvC scope cl C X.env) fp) kx tk)
    (he : ∀ (s : Shared) (H : Hp) (C : Addr) (cl : List (Str × Addr)) (fp : List Addr), PE (X.blk s H scope (compEnvC scope cl C X.env) fp) vx tv) (hs : ∀ x, foldedSetIterable iter X.env x = pure x)
    (h : tDcT wi g tt tk tv (own.map (·.2)) σ H Q)
    (hRR : ∀ D C s' m H', Inv X pins σ H' s' → Q (.ref D) H' → s'.heap.Ns C m → FpOk X pins H' C → compPost (model X.prog X.w) X.A X.xe use Qf (.ref D) C (.ok .next) s') :
    wpAny (model X.prog X.w) X.A (comprehension (.DictComp kx vx [⟨tg, iter, ifs, 0⟩] scope pos) scope X.env pos' newDict false (eval iter X.env) use) Qf X.xe s := by
  have hfree : ∀ y ∈ scope.names, y.2 = .free → ∃ c, X.env.cells.lookup y.1 = some c := fun y hy e => by
    rcases ok.free y hy e with k | k
    · exact I.ok.has _ (.inl k)
    · exact I.ok.has _ (.inr k)
  refine wpAny_comprehension_free (use := use) rfl hs (closure_ok hfree) ok.kind (fun y hy e => by rw [ok.uniq y hy, e])
    (thn (hi.run pins s σ H _ I h) fun xv s1 hx => thn hx fun itv s2 h2 => ?_)
  obtain ⟨it, fp, tn, J, H2, e, I2, T, st2, f2, q⟩ := h2
  subst e
  refine wpAny_newObj_type (newEnv_comp ?_)
  generalize hD : s2.heap.objs.size = D
  have hDn : H2 D = none := I2.hok.fresh (Nat.le_of_eq hD)
  obtain ⟨W, ⟨m0, w0⟩, turn⟩ := q D hDn
  -- the new list
  generalize hs3 : ({ s2 with heap := s2.heap.push { cls := .type "dict", data := .dict #[] } } : Shared) = s3
  have I3 : Inv X pins σ (upd H2 D (.dT [])) s3 := by
    rw [← hs3]
    refine I2.laid (t' := s2.toks) (fun b o e => Heap.get?_push_of_some _ e) (Nat.le_of_eq hD) ?_
    rw [← hD]
    exact dt_empty s2.heap I2.big
  have h3 : s3.heap = s2.heap.push { cls := .type "dict", data := .dict #[] } := by rw [← hs3]
  have sz : ∀ b ∈ fp, b < s2.heap.objs.size := fun b hb => by
    obtain ⟨o, e, _⟩ := T.obj _ _ st2 b hb
    exact Heap.lt_size e
  have f3 : ∀ b ∈ fp, FpOk X pins (upd H2 D (.dT [])) b ∧ b < s3.heap.objs.size := fun b hb => by
    have hlt := sz b hb
    refine ⟨⟨?_, (f2 b hb).2⟩, by rw [h3, Heap.size_push]; exact Nat.lt_succ_of_lt hlt⟩
    rw [upd_ne (by rw [← hD]; exact Nat.ne_of_lt hlt)]
    exact (f2 b hb).1
  have st3 : tn 0 s3.heap := T.keep _ _ _ st2 fun b _ o e => by rw [h3]; exact Heap.get?_push_of_some _ e
  have I4 := block_start I3 ok hN f3
  have pg := hg s3 (upd H2 D (.dT [])) s3.heap.objs.size (cellsFrom (s3.heap.objs.size + 1) scope.names (cloFrom X.env.cells scope.names [])) fp
  have pt := ht s3 (upd H2 D (.dT [])) s3.heap.objs.size (cellsFrom (s3.heap.objs.size + 1) scope.names (cloFrom X.env.cells scope.names [])) fp
  have pk := hk s3 (upd H2 D (.dT [])) s3.heap.objs.size (cellsFrom (s3.heap.objs.size + 1) scope.names (cloFrom X.env.cells scope.names [])) fp
  have pe := he s3 (upd H2 D (.dT [])) s3.heap.objs.size (cellsFrom (s3.heap.objs.size + 1) scope.names (cloFrom X.env.cells scope.names [])) fp
  show codeAny _ _ (.compStart (.DictComp kx vx [⟨tg, iter, ifs, 0⟩] scope pos) 0 (.ref it) (.ref D) (compEnvC scope (cellsFrom (s3.heap.objs.size + 1) scope.names (cloFrom X.env.cells scope.names [])) s3.heap.objs.size X.env)) (compPost (model X.prog X.w) X.A X.xe use Qf (.ref D) s3.heap.objs.size) { s3 with heap := pushCells (s3.heap.push { cls := .type "dict", data := .dict #[] }) scope.names }
  have nfp : ∀ b ∈ fp, (upd H2 D (.dT [])) b = none := fun b hb => (f3 b hb).1.1
  generalize hce : compEnvC scope (cellsFrom (s3.heap.objs.size + 1) scope.names (cloFrom X.env.cells scope.names [])) s3.heap.objs.size X.env = ce at I4 pg pt pk pe ⊢
  have cL : ce.locals = s3.heap.objs.size := by subst hce; rfl
  generalize hH3 : upd H2 D (.dT []) = H3 at I3 I4 pg pt pk pe w0 nfp f3
  generalize hs4 : ({ s3 with heap := pushCells (s3.heap.push { cls := .type "dict", data := .dict #[] }) scope.names } : Shared) = s4 at I4 ⊢
  have st4 : tn 0 s4.heap := T.keep _ _ _ st3 fun b _ o e => by rw [← hs4]; exact pushCells_keeps _ _ _ _ (Heap.get?_push_of_some _ e)
  have stat : ∀ {sg' : L2.St} {H' : Hp} {s' : Shared}, Inv (X.blk s3 H3 scope ce fp) [] sg' H' s' → (∀ b ∈ fp, H' b = none) → ∀ b ∈ fp, FpOk (X.blk s3 H3 scope ce fp) [] H' b := fun {sg' H' s'} I' hn b hb =>
    ⟨hn b hb, (I'.ok.exf b hb).1, I'.ok.exfs b hb, .inl hb, fun x c e => (I'.ok.exf b hb).2 x c e, fun p hp => absurd (show p ∈ ([] : List (Addr × Obj)) ++ [] from hp) (by simp)⟩
  have loop : codeAny (model X.prog X.w) X.A (.compLoop (.DictComp kx vx [⟨tg, iter, ifs, 0⟩] scope pos) 0 (.ref it) (.ref D) ce) (compPost (model X.prog X.w) X.A X.xe use Qf (.ref D) s3.heap.objs.size) s4 := by
    refine compLoop_anyD (fun n s' => ∃ i H', Inv (X.blk s3 H3 scope ce fp) [] (wipe σ (own.map (·.2))) H' s' ∧ tn i s'.heap ∧ (∀ b ∈ fp, H' b = none) ∧ W i n H') ?_ m0 ⟨0, H3, I4, st4, nfp, w0⟩
    rintro n s5 ⟨i, H5, I5, st5, n5, w5⟩
    rcases turn i n H5 w5 with ⟨stop, qq⟩ | ⟨go, Nx, hNx, step⟩
    · have td := T.done (X.blk s3 H3 scope ce fp) rfl rfl rfl hc i [] s5 _ H5 (fun _ _ => False) I5 (stat I5 n5) st5 stop
      refine thnF td fun r s6 ⟨hr, I6⟩ => ?_
      subst hr
      -- back in the def's context
      have I7 : Inv X pins σ H5 s6 := I3.call' (ch := fp) I6.os I6.base I6.hok I6.bare fun b hb => ⟨(f3 b hb).1.2.2.2.1, (f3 b hb).1.2.1, (f3 b hb).1.2.2.2.2.1, (f3 b hb).1.2.2.2.2.2⟩
      have nC : H5 s3.heap.objs.size = none := by
        have z : H5 ce.locals = none := I6.free
        rw [cL] at z
        exact z
      obtain ⟨m, hn, _⟩ := I6.loc
      have hn : s6.heap.Ns ce.locals m := hn
      rw [cL] at hn
      exact hRR D s3.heap.objs.size s6 m H5 I7 qq hn (I3.fpOk (Nat.le_refl _) nC)
    · have ti := T.item (X.blk s3 H3 scope ce fp) rfl rfl rfl hc i [] s5 _ H5 (fun _ _ => False) I5 (stat I5 n5) st5 go
      refine thnF ti fun r s6 ⟨u, hr, h6⟩ => ?_
      subst hr
      refine thnF h6 fun _ s7 ⟨x, H7, I7, r7, y7, st7, n7⟩ => ?_
      have I7' := I7.pinned (stat I7 n7) (T.obj _ _ st7)
      refine thnF (pg.run _ s7 _ H7 x u _ I7' r7 (step x H7 y7)) fun _ s8 ⟨sg8, H8, I8, hw8, q8⟩ => ?_
      refine thnF (pt.run _ s8 sg8 H8 _ I8 q8) fun b s9 ⟨H9, I9, q9⟩ => ?_
      -- the turn's end
      have fin : ∀ {s' : Shared} {H' : Hp}, Inv (X.blk s3 H3 scope ce fp) ([] ++ pinsAt fp s7.heap) sg8 H' s' → Nx H' → ∃ m, m < n ∧ ∃ i H', Inv (X.blk s3 H3 scope ce fp) [] (wipe σ (own.map (·.2))) H' s' ∧ tn i s'.heap ∧ (∀ b ∈ fp, H' b = none) ∧ W i m H' := fun {s' H'} I' nx => by
        obtain ⟨m', hm, w'⟩ := hNx H' nx
        have pin' : ∀ b ∈ fp, ∀ o, s7.heap.get? b = some o → s'.heap.get? b = some o ∧ H' b = none := fun b hb o e =>
          let z := I'.pin (b, o) (List.mem_append_right _ (List.mem_append_right _ (mem_pinsAt hb e)))
          ⟨z.1, z.2.1⟩
        have hl : (wipe σ (own.map (·.2))).length = sg8.length := by rw [← hw8, wipe_length]
        refine ⟨m', hm, i + 1, H', (I'.unpinned (pins := [])).weak hl (fun j v e => ?_), T.keep _ _ _ st7 fun b hb o e => (pin' b hb o e).1, fun b hb => ?_, w'⟩
        · rw [← hw8] at e
          exact (wipe_some e).1
        · obtain ⟨o, e, _⟩ := T.obj _ _ st7 b hb
          exact (pin' b hb o e).2
      cases b with
      | false =>
        simp only [Bool.false_eq_true, if_false] at q9 ⊢
        exact fin I9 q9
      | true =>
        simp only [if_true] at q9 ⊢
        refine thnF (pk.run _ s9 sg8 H9 _ I9 q9) fun z s10 ⟨yk, H10, I10, r10, q10⟩ => ?_
        refine thnF (pe.run _ s10 sg8 H10 _ I10 q10) fun z2 s11 ⟨yv, H11, I11, r11, kvs, k, b2, ek, hb2, hD11, hz11, nx⟩ => ?_
        subst ek
        cases r10
        exact dictSetT (X := X.blk s3 H3 scope ce fp) hu I11 hD11 hb2 hz11 r11 fun s12 I12 => fin I12 nx
  exact codeAny_compStart_dict loop (T.self X.A 0 _ _ _ st4 loop)
/-- as a value -/
theorem pe_dcT {kx vx tg iter : Expr} {ifs : List Expr} {scope : Scope} {own : List (Str × Nat)} {pos : Pos} {wi : TI} {g : TG} {tt : TT} {tk tv : TE} (hu : X.A.units < cLine) (hc : X.calm = true) (hN : X.N.Nodup) (hi : PI X tg iter wi) (ok : BlkOk X.N X.env.scope scope own)
    (hg : ∀ (s : Shared) (H : Hp) (C : Addr) (cl : List (Str × Addr)) (fp : List Addr), PG (X.blk s H scope (compEnvC scope cl C X.env) fp) tg g) (ht : ∀ (s : Shared) (H : Hp) (C : Addr) (cl : List (Str × Addr)) (fp : List Addr), PTs (X.blk s H scope (compEnvC scope cl C X.env) fp) ifs tt)
    (hk : ∀ (s : Shared) (H : Hp) (C : Addr) (cl : List (Str × Addr)) (fp : List Addr), PE (X.blk s H scope (compEnvC scope cl C X.env) fp) kx tk)
    (he : ∀ (s : Shared) (H : Hp) (C : Addr) (cl : List (Str × Addr)) (fp : List Addr), PE (X.blk s H scope (compEnvC scope cl C X.env) fp) vx tv) (hs : ∀ x, foldedSetIterable iter X.env x = pure x := by intro _; rfl) :
    PE X (.DictComp kx vx [⟨tg, iter, ifs, 0⟩] scope pos) (tDcT wi g tt tk tv (own.map (·.2))) := by
  refine ⟨fun pins s σ H Q I h => ?_⟩
  rw [arm_eval_DictComp]
  refine dcT_core hu hc hN I hi ok hg ht hk he hs h fun D C s' m H' I' q hn f => ⟨m, hn, fun h'' sb => ?_⟩
  obtain ⟨f0, f1, f2, f3, f4, f5⟩ := f
  exact ⟨.ref D, H', I'.turned (t' := s'.toks) (fun b o hb e => (sb.2 b hb).trans e) f0 f1 f3 f4 f5, rfl, q⟩
/-- over a tuple that stays -/
theorem dcT_tup {K : PySem.W.Frag} {a : Addr} {xs : List V} {g : TG} {tt : TT} {tk tv : TE} {vs : List Nat} {σ : L2.St} {H1 : Hp} {D : Addr} {Qd : Hp → Prop} (Pv : Nat → Hp → Prop) (h0 : Pv 0 (upd H1 D (.dT []))) (hl : ∀ i H, i ≤ xs.length → Pv i H → SqT K H a xs)
    (hs : ∀ i x H, xs[i]? = some x → Pv i H → g x (wipe σ vs) H fun σ2 H2 => wipe σ2 vs = wipe σ vs ∧ tt σ2 H2 fun b H3 =>
      if b = true then tk σ2 H3 fun y H4 => tv σ2 H4 fun z H5 => ∃ kvs k b2, y = .ref b2 ∧ H5 b2 = some (.tup (k.map kV)) ∧ H5 D = some (.dT kvs) ∧ kvs.length < sizeLine ∧ Pv (i + 1) (upd H5 D (.dT (putK kvs k z))) else Pv (i + 1) H3) (hd : ∀ H, Pv xs.length H → Qd H) :
    ∃ W : Nat → Nat → Hp → Prop, (∃ m, W 0 m (upd H1 D (.dT []))) ∧ ∀ i m H, W i m H →
      ((Itt K a).stop i H ∧ Qd H) ∨ ((Itt K a).go i H ∧ ∃ Nx : Hp → Prop, (∀ H', Nx H' → ∃ m', m' < m ∧ W (i + 1) m' H') ∧ ∀ x H', (Itt K a).yld i H x H' → g x (wipe σ vs) H' fun σ2 H2 => wipe σ2 vs = wipe σ vs ∧ tt σ2 H2 fun b H3 =>
        if b = true then tk σ2 H3 fun y H4 => tv σ2 H4 fun z H5 => ∃ kvs k b2, y = .ref b2 ∧ H5 b2 = some (.tup (k.map kV)) ∧ H5 D = some (.dT kvs) ∧ kvs.length < sizeLine ∧ Nx (upd H5 D (.dT (putK kvs k z))) else Nx H3) := by
  refine ⟨fun i m H => m = xs.length - i ∧ i ≤ xs.length ∧ Pv i H, ⟨xs.length, by simp, Nat.zero_le _, h0⟩, ?_⟩
  rintro i m H ⟨rfl, hi, p⟩
  have q := hl i H hi p
  by_cases hlt : i < xs.length
  · refine .inr ⟨⟨xs, xs[i], q, by simp [hlt]⟩, Pv (i + 1), fun H' p' => ⟨xs.length - (i + 1), by omega, rfl, hlt, p'⟩, fun x H' y => ?_⟩
    obtain ⟨e, y⟩ := y
    subst e
    exact hs i x _ (y xs q) p
  · have e : i = xs.length := by omega
    subst e
    exact .inl ⟨⟨xs, q, Nat.le_refl _⟩, hd H p⟩
end
end EC

set_option Elab.async false
set_option linter.all false
set_option maxRecDepth 100000
set_option maxHeartbeats 2000000
/-! zip of three tuples, walked. -/
namespace EC
open PySem PySem.Spec PyProof.Rows L2
/-- the tuples at a, b, c as they stand at each turn, the items in new triples -/
def ItzT3 (K : PySem.W.Frag) (a b c : Addr) : It :=
  ⟨fun i H => ∃ (xs ys zs : List V) (x y z : V), SqT K H a xs ∧ SqT K H b ys ∧ SqT K H c zs ∧ xs[i]? = some x ∧ ys[i]? = some y ∧ zs[i]? = some z,
    fun i H v H' => ∃ T x y z, v = .ref T ∧ H T = none ∧ H' = upd H T (.tup [x, y, z]) ∧ (∀ xs, SqT K H a xs → xs[i]? = some x) ∧ (∀ ys, SqT K H b ys → ys[i]? = some y) ∧ ∀ zs, SqT K H c zs → zs[i]? = some z,
    fun i H => ∃ xs ys zs : List V, SqT K H a xs ∧ SqT K H b ys ∧ SqT K H c zs ∧ i = min (min xs.length ys.length) zs.length⟩
theorem turn_zipT3 {P : Program} {w : World} {K : PySem.W.Frag} {elts : List Expr} {kk : Nat} {tpos : Pos} {a b c z TI TO i1 i2 i3 : Addr} (D : ZipSep3 z TI TO i1 i2 i3 [i1, a] [i2, b] [i3, c]) (ha : a ≠ i1) (hb : b ≠ i2) (hc0 : c ≠ i3) :
    Turn P w K (.Tuple elts kk tpos) (ItzT3 K a b c) [z, TI, TO, i1, i2, i3] z (fun i h => IsZip h z TI TO .none ∧ IsTupOf3 h TI (.ref i1) (.ref i2) (.ref i3) ∧ (∃ x y u, IsTupOf3 h TO x y u) ∧ h.IsTupleIter i1 a i ∧ h.IsTupleIter i2 b i ∧ h.IsTupleIter i3 c i) where
  mem := by simp
  obj := fun i h st d hd => by
    obtain ⟨hz, hTI, ⟨x, y, u, hTO⟩, ⟨o1, e1, _, d1⟩, ⟨o2, e2, _, d2⟩, ⟨o3, e3, _, d3⟩⟩ := st
    have e' : d = z ∨ d = TI ∨ d = TO ∨ d = i1 ∨ d = i2 ∨ d = i3 := by simpa using hd
    rcases e' with q | q | q | q | q | q
    · rw [q]; exact ⟨_, hz, fun v q => nomatch q⟩
    · rw [q]; exact ⟨_, hTI, fun v q => nomatch q⟩
    · rw [q]; exact ⟨_, hTO, fun v q => nomatch q⟩
    · rw [q]; exact ⟨o1, e1, fun v q => by rw [d1] at q; cases q⟩
    · rw [q]; exact ⟨o2, e2, fun v q => by rw [d2] at q; cases q⟩
    · rw [q]; exact ⟨o3, e3, fun v q => by rw [d3] at q; cases q⟩
  keep := fun i h h' st k => by
    obtain ⟨hz, hTI, ⟨x, y, u, hTO⟩, h1, h2, h3⟩ := st
    exact ⟨k z (by simp) _ hz, k TI (by simp) _ hTI, ⟨x, y, u, k TO (by simp) _ hTO⟩, h1.at fun o q => k i1 (by simp) o q, h2.at fun o q => k i2 (by simp) o q, h3.at fun o q => k i3 (by simp) o q⟩
  item := by
    intro X hP hw hK hc i pins s σ H E I hf st hg
    subst hP hw hK
    obtain ⟨hz, hTI, ⟨x0, y0, u0, hTO⟩, h1, h2, h3⟩ := st
    obtain ⟨xs, ys, zs, x, y, zz, hqx, hqy, hqz, hx, hy, hzz⟩ := hg
    obtain ⟨its1, rv1, p1, _⟩ := I.tuple hqx
    obtain ⟨its2, rv2, p2, _⟩ := I.tuple hqy
    obtain ⟨its3, rv3, p3, _⟩ := I.tuple hqz
    obtain ⟨u1, hu1, ru1⟩ := rv1.get hx
    obtain ⟨u2, hu2, ru2⟩ := rv2.get hy
    obtain ⟨u3, hu3, ru3⟩ := rv3.get hzz
    have l1 : i < its1.toArray.size := by simpa using (List.getElem?_eq_some_iff.mp hu1).1
    have l2 : i < its2.toArray.size := by simpa using (List.getElem?_eq_some_iff.mp hu2).1
    have l3 : i < its3.toArray.size := by simpa using (List.getElem?_eq_some_iff.mp hu3).1
    have hh : X.A.in1.handled = none := I.ok.hd hc
    have G := GoesN.zip3 (prog := X.prog) (w := X.w) (A := X.A) (elts := elts) (x1 := kk) (pos := tpos) D (Draws.tuple hh i1 a ha its1.toArray) (Draws.tuple hh i2 b hb its2.toArray) (Draws.tuple hh i3 c hc0 its3.toArray)
    refine wpAny_mono (G.goes i s (fun v s2 => ∃ x H', Inv X pins σ H' s2 ∧ RelV x v ∧ (ItzT3 X.K a b c).yld i H x H' ∧
        (IsZip s2.heap z TI TO .none ∧ IsTupOf3 s2.heap TI (.ref i1) (.ref i2) (.ref i3) ∧ (∃ x y u, IsTupOf3 s2.heap TO x y u) ∧ s2.heap.IsTupleIter i1 a (i + 1) ∧ s2.heap.IsTupleIter i2 b (i + 1) ∧ s2.heap.IsTupleIter i3 c (i + 1)) ∧ ∀ b ∈ [z, TI, TO, i1, i2, i3], H' b = none) E (by omega) ⟨hz, hTI, ⟨_, _, _, hTO⟩, ⟨h1, p1⟩, ⟨h2, p2⟩, ⟨h3, p3⟩⟩ fun v h' tk hY st' hk htk => ?_) (fun r s1 h => h) (fun _ _ h => h)
    obtain ⟨T, v1, v2, v3, rfl, hT, e1, e2, e3, hTup⟩ := hY
    obtain ⟨hz', hTI', ⟨q1, q2, q3, hTO'⟩, ⟨h1', _⟩, ⟨h2', _⟩, ⟨h3', _⟩⟩ := st'
    have e1' : v1 = u1 := by
      have : its1.toArray[i]? = some u1 := by simpa using hu1
      rw [this] at e1
      exact (Option.some.inj e1).symm
    have e2' : v2 = u2 := by
      have : its2.toArray[i]? = some u2 := by simpa using hu2
      rw [this] at e2
      exact (Option.some.inj e2).symm
    have e3' : v3 = u3 := by
      have : its3.toArray[i]? = some u3 := by simpa using hu3
      rw [this] at e3
      exact (Option.some.inj e3).symm
    subst e1' e2' e3'
    have new : ObjOk X.prog X.w (upd H T (.tup [x, y, zz])) h' T (.tup [x, y, zz]) := ⟨by show 3 ≤ sizeLine; decide, [v1, v2, v3], .cons ru1 (.cons ru2 (.cons ru3 .nil)), hTup⟩
    have J : Inv X pins σ (upd H T (.tup [x, y, zz])) { s with heap := h', toks := tk } :=
      I.turnedNew (t' := tk) (ch := [z, TI, TO, i1, i2, i3]) (fun d o hd q => hk d o (fun q' => hd (by
        have : d = z ∨ d = TO ∨ d = i1 ∨ d = i2 ∨ d = i3 := by simpa using q'
        rcases this with q | q | q | q | q <;> simp [q])) q) hf hT new
    refine ⟨.ref T, _, J, rfl, ⟨T, x, y, zz, rfl, I.hok.fresh hT, rfl, fun l hl => by rw [I.tuple_inj hl hqx]; exact hx, fun l hl => by rw [I.tuple_inj hl hqy]; exact hy, fun l hl => by rw [I.tuple_inj hl hqz]; exact hzz⟩, ⟨hz', hTI', ⟨_, _, _, hTO'⟩, h1', h2', h3'⟩, fun d hd => ?_⟩
    have hlt : d < s.heap.objs.size := by
      have e' : d = z ∨ d = TI ∨ d = TO ∨ d = i1 ∨ d = i2 ∨ d = i3 := by simpa using hd
      rcases e' with q | q | q | q | q | q
      · rw [q]; exact Heap.lt_size hz
      · rw [q]; exact Heap.lt_size hTI
      · rw [q]; exact Heap.lt_size hTO
      · rw [q]; obtain ⟨_, e1, _⟩ := h1; exact Heap.lt_size e1
      · rw [q]; obtain ⟨_, e1, _⟩ := h2; exact Heap.lt_size e1
      · rw [q]; obtain ⟨_, e1, _⟩ := h3; exact Heap.lt_size e1
    rw [upd_ne (Nat.ne_of_lt (Nat.lt_of_lt_of_le hlt hT))]
    exact (hf d hd).1
  done := by
    intro X hP hw hK hc i pins s σ H E I hf st hg
    subst hP hw hK
    obtain ⟨hz, hTI, ⟨x0, y0, u0, hTO⟩, h1, h2, h3⟩ := st
    obtain ⟨xs, ys, zs, hqx, hqy, hqz, hend⟩ := hg
    obtain ⟨its1, rv1, p1, _⟩ := I.tuple hqx
    obtain ⟨its2, rv2, p2, _⟩ := I.tuple hqy
    obtain ⟨its3, rv3, p3, _⟩ := I.tuple hqz
    have l1 := rv1.length
    have l2 := rv2.length
    have l3 := rv3.length
    have hh : X.A.in1.handled = none := I.ok.hd hc
    have G := GoesN.zip3 (prog := X.prog) (w := X.w) (A := X.A) (elts := elts) (x1 := kk) (pos := tpos) D (Draws.tuple hh i1 a ha its1.toArray) (Draws.tuple hh i2 b hb its2.toArray) (Draws.tuple hh i3 c hc0 its3.toArray)
    have ei : i = min (min its1.toArray.size its2.toArray.size) its3.toArray.size := by simp only [List.size_toArray]; omega
    subst ei
    exact G.stops s (fun s1 => Inv X pins σ H s1) E ⟨hz, hTI, ⟨_, _, _, hTO⟩, ⟨h1, p1⟩, ⟨h2, p2⟩, ⟨h3, p3⟩⟩ fun h' tk hk htk => I.turnedL (t' := tk) (ch := [z, TI, TO, i1, i2, i3]) (fun d o hd q => hk d o (fun q' => hd (by
        have : d = z ∨ d = TO ∨ d = i1 ∨ d = i2 ∨ d = i3 := by simpa using q'
        rcases this with q | q | q | q | q <;> simp [q])) q) hf
  self := fun A i s Q E st h => wpAny_pyIter_zip st.1 h
def iZip3 (K : PySem.W.Frag) (ta : TA) : TI := fun σ H R => ta σ H fun vs H1 => ∃ a b c xs ys zs, vs = [.ref a, .ref b, .ref c] ∧ SqT K H1 a xs ∧ SqT K H1 b ys ∧ SqT K H1 c zs ∧ R (ItzT3 K a b c) H1
theorem pi_zip3 {X : Cx} {e e2 e3 : Expr} {ta : TA} {p pos tpos : Pos} {elts : List Expr} {kk : Nat} (hg : Gl X "zip") (hm : X.mg "zip" = none) (ha : PA X [e, e2, e3] ta)
    (hs : starEach [e, e2, e3] X.env = (false, eval e X.env) :: starEach [e2, e3] X.env := by rfl) (hpl : (backTo pos (starEach [e2, e3] X.env)).any (·.1) = false := by rfl) :
    PI X (.Tuple elts kk tpos) (.Call (.Name "zip" p) [e, e2, e3] [] pos) (iZip3 X.K ta) := by
  refine ⟨fun pins s σ H R I h => ?_⟩
  refine Call_ (ld_blt I hg hm PyProof.Rows.boot_zip (PyProof.Rows.callWith_type1 (thn (ha.run pos pins s σ H _ I h) fun us s1 ⟨vs, H1, I1, r1, q1⟩ => ?_) hs hpl))
  obtain ⟨a, b, c, xs, ys, zs, rfl, hqx, hqy, hqz, q⟩ := q1
  cases r1 with
  | cons r rr =>
    cases rr with
    | cons r' rr =>
      cases rr with
      | cons r2 rr =>
        cases rr
        cases r
        cases r'
        cases r2
        obtain ⟨its1, rv1, p1, _⟩ := I1.tuple hqx
        obtain ⟨its2, rv2, p2, _⟩ := I1.tuple hqy
        obtain ⟨its3, rv3, p3, _⟩ := I1.tuple hqz
        obtain ⟨o1, ho1, _⟩ := id p1
        obtain ⟨o2, ho2, _⟩ := id p2
        obtain ⟨o3, ho3, _⟩ := id p3
        have la := Heap.lt_size ho1
        have lb := Heap.lt_size ho2
        have lc := Heap.lt_size ho3
        refine zip_begins3 (begins_tuple a its1.toArray) (begins_tuple b its2.toArray) (begins_tuple c its3.toArray) p1 p2 p3 fun h' hz hTI hTO h1 h2 h3 hsz hk => wpAny_pyIter_zip hz ?_
        have J : Inv X pins σ H1 { s1 with heap := h' } := I1.kept (t' := s1.toks) hk
        have S : ZipSep3 (s1.heap.objs.size + 5) (s1.heap.objs.size + 3) (s1.heap.objs.size + 4) s1.heap.objs.size (s1.heap.objs.size + 1) (s1.heap.objs.size + 2) [s1.heap.objs.size, a] [s1.heap.objs.size + 1, b] [s1.heap.objs.size + 2, c] :=
          zip_sep3 (fun d hd => by rw [List.mem_singleton.mp hd]; exact la) (fun d hd => by rw [List.mem_singleton.mp hd]; exact lb) (fun d hd => by rw [List.mem_singleton.mp hd]; exact lc)
        refine ⟨s1.heap.objs.size + 5, [s1.heap.objs.size + 5, s1.heap.objs.size + 3, s1.heap.objs.size + 4, s1.heap.objs.size, s1.heap.objs.size + 1, s1.heap.objs.size + 2], _, _, H1, rfl, J, turn_zipT3 S (Nat.ne_of_lt la) (Nat.ne_of_lt (Nat.lt_succ_of_lt lb)) (Nat.ne_of_lt (Nat.lt_succ_of_lt (Nat.lt_succ_of_lt lc))), ⟨hz, hTI, ⟨_, _, _, hTO⟩, ⟨_, h1, rfl, rfl⟩, ⟨_, h2, rfl, rfl⟩, ⟨_, h3, rfl, rfl⟩⟩, fun d hd => ?_, q⟩
        have e' : d = s1.heap.objs.size + 5 ∨ d = s1.heap.objs.size + 3 ∨ d = s1.heap.objs.size + 4 ∨ d = s1.heap.objs.size ∨ d = s1.heap.objs.size + 1 ∨ d = s1.heap.objs.size + 2 := by simpa using hd
        have hle : s1.heap.objs.size ≤ d := by
          rcases e' with z | z | z | z | z | z
          · rw [z]; exact Nat.le_add_right _ _
          · rw [z]; exact Nat.le_add_right _ _
          · rw [z]; exact Nat.le_add_right _ _
          · rw [z]; exact Nat.le_refl _
          · rw [z]; exact Nat.le_add_right _ _
          · rw [z]; exact Nat.le_add_right _ _
        exact I1.fpOk hle (I1.hok.fresh hle)
end EC

set_option Elab.async false
set_option linter.all false
set_option maxRecDepth 100000
set_option maxHeartbeats 2000000
/-! enumerate of a tuple, walked; the walks of zips and of enumerate over tuples as Walk. -/
namespace EC
open PySem PySem.Spec PyProof.Rows L2
theorem meets_enumT {v : Value} {o : Obj} {Hh : Heap → Prop} (B : Begins v o Hh) :
    Meets (Builtin.«enumerate.__new__» ⟨[.type "enumerate", v], []⟩) (fun _ R s => Hh s.heap ∧
      R (.ok (.ret (.ref (s.heap.push o).objs.size))) { s with heap := (s.heap.push o).push { cls := .type "enumerate", data := .fields #[.none, .bool false, .ref s.heap.objs.size, rawInt 0, .none, .none] } }) :=
  .of_wp fun prog w A R s h => by
    obtain ⟨hp, g, d, tk, os⟩ := s
    obtain ⟨h1, h⟩ := h
    have hsub := sub_enumerate
    have q1 : ∀ {A' : Around} {E : Value → Shared → Prop} {Q : Value → Shared → Prop}, Q (.ref hp.objs.size) ⟨hp.push o, g, d, tk, os⟩ → wpAny (model prog w) A' (pyIter v) Q E ⟨hp, g, d, tk, os⟩ :=
      fun q => B.iter prog w _ _ ⟨hp, g, d, tk, os⟩ _ h1 q
    wp_walk using q1
    refine wpAny_stack_any fun st => wpAny_pure ?_
    split
    · rename_i c _ _ _ _ _
      cases (c == Value.type "enumerate")
      · wp_walk using q1
        exact ⟨_, rfl, h⟩
      · wp_walk using q1
        exact ⟨_, rfl, h⟩
    · wp_walk using q1
      exact ⟨_, rfl, h⟩
/-- the tuple at a as it stands at each turn, its items with their places in new pairs -/
def IteT (K : PySem.W.Frag) (a : Addr) : It :=
  ⟨fun i H => ∃ (xs : List V) (x : V), SqT K H a xs ∧ xs[i]? = some x,
    fun i H v H' => ∃ T x, v = .ref T ∧ H T = none ∧ H' = upd H T (.tup [.int (i : Nat), x]) ∧ ∀ xs, SqT K H a xs → xs[i]? = some x,
    fun i H => ∃ xs : List V, SqT K H a xs ∧ i = xs.length⟩
theorem turn_enumT {P : Program} {w : World} {K : PySem.W.Frag} {elts : List Expr} {kk : Nat} {tpos : Pos} {a e it : Addr} (hei : e ≠ it) (hea : e ≠ a) (hai : a ≠ it) :
    Turn P w K (.Tuple elts kk tpos) (IteT K a) [e, it] e (fun i h => (∃ old, IsEnum h e it (i : Nat) old) ∧ h.IsTupleIter it a i) where
  mem := by simp
  obj := fun i h st d hd => by
    obtain ⟨⟨old, he⟩, ⟨o1, e1, _, d1⟩⟩ := st
    have e' : d = e ∨ d = it := by simpa using hd
    rcases e' with q | q
    · rw [q]; exact ⟨_, he, fun v q => nomatch q⟩
    · rw [q]; exact ⟨o1, e1, fun v q => by rw [d1] at q; cases q⟩
  keep := fun i h h' st k => by
    obtain ⟨⟨old, he⟩, h1⟩ := st
    exact ⟨⟨old, k e (by simp) _ he⟩, h1.at fun o q => k it (by simp) o q⟩
  item := by
    intro X hP hw hK hc i pins s σ H E I hf st hg
    subst hP hw hK
    obtain ⟨⟨old, he⟩, h1⟩ := st
    obtain ⟨xs, x, hq, hx⟩ := hg
    obtain ⟨its, rv, p1, _⟩ := I.tuple hq
    obtain ⟨u, hu, ru⟩ := rv.get hx
    have l1 : i < its.toArray.size := by simpa using (List.getElem?_eq_some_iff.mp hu).1
    have hh : X.A.in1.handled = none := I.ok.hd hc
    have G := GoesN.enumFrom (prog := X.prog) (w := X.w) (A := X.A) (elts := elts) (x1 := kk) (pos := tpos) 0 (Draws.tuple hh it a hai its.toArray) e hei (by simp [hei, hea]) (by simp)
    have e0 : ∀ j : Nat, (0 : Int) + (j : Int) = (j : Int) := fun j => Int.zero_add _
    refine wpAny_mono (G.goes i s (fun v s2 => ∃ x H', Inv X pins σ H' s2 ∧ RelV x v ∧ (IteT X.K a).yld i H x H' ∧
        ((∃ old, IsEnum s2.heap e it ((i + 1 : Nat) : Int) old) ∧ s2.heap.IsTupleIter it a (i + 1)) ∧ ∀ b ∈ [e, it], H' b = none) E l1 ⟨⟨old, by rw [e0]; exact he⟩, ⟨h1, p1⟩⟩ fun v h' tk hY st' hk htk => ?_) (fun r s1 h => h) (fun _ _ h => h)
    obtain ⟨T, t, v1, rfl, hT, e1, hTup⟩ := hY
    obtain ⟨⟨old', he'⟩, ⟨h1', _⟩⟩ := st'
    rw [e0] at he'
    have e1' : v1 = u := by
      have : its.toArray[i]? = some u := by simpa using hu
      rw [this] at e1
      exact (Option.some.inj e1).symm
    subst e1'
    have new : ObjOk X.prog X.w (upd H T (.tup [.int (i : Nat), x])) h' T (.tup [.int (i : Nat), x]) := by
      rw [e0] at hTup
      exact ⟨by show 2 ≤ sizeLine; decide, [.int (i : Nat) t, v1], .cons ⟨t, rfl⟩ (.cons ru .nil), hTup⟩
    have J : Inv X pins σ (upd H T (.tup [.int (i : Nat), x])) { s with heap := h', toks := tk } :=
      I.turnedNew (t' := tk) (ch := [e, it]) hk hf hT new
    refine ⟨.ref T, _, J, rfl, ⟨T, x, rfl, I.hok.fresh hT, rfl, fun l hl => by rw [I.tuple_inj hl hq]; exact hx⟩, ⟨⟨old', he'⟩, h1'⟩, fun d hd => ?_⟩
    have hlt : d < s.heap.objs.size := by
      have e' : d = e ∨ d = it := by simpa using hd
      rcases e' with q | q
      · rw [q]; exact Heap.lt_size he
      · rw [q]; obtain ⟨_, e1, _⟩ := h1; exact Heap.lt_size e1
    rw [upd_ne (Nat.ne_of_lt (Nat.lt_of_lt_of_le hlt hT))]
    exact (hf d hd).1
  done := by
    intro X hP hw hK hc i pins s σ H E I hf st hg
    subst hP hw hK
    obtain ⟨⟨old, he⟩, h1⟩ := st
    obtain ⟨xs, hq, hend⟩ := hg
    obtain ⟨its, rv, p1, _⟩ := I.tuple hq
    have l1 := rv.length
    have hh : X.A.in1.handled = none := I.ok.hd hc
    have G := GoesN.enumFrom (prog := X.prog) (w := X.w) (A := X.A) (elts := elts) (x1 := kk) (pos := tpos) 0 (Draws.tuple hh it a hai its.toArray) e hei (by simp [hei, hea]) (by simp)
    have ei : i = its.toArray.size := by simp only [List.size_toArray]; omega
    subst ei
    exact G.stops s (fun s1 => Inv X pins σ H s1) E ⟨⟨old, by rw [Int.zero_add]; exact he⟩, ⟨h1, p1⟩⟩ fun h' tk hk htk => I.turnedL (t' := tk) (ch := [e, it]) hk hf
  self := fun A i s Q E st h => let ⟨⟨_, he⟩, _⟩ := st; wpAny_pyIter_enum he h
def iEnumT (K : PySem.W.Frag) (ta : TA) : TI := fun σ H R => ta σ H fun vs H1 => ∃ a xs, vs = [.ref a] ∧ SqT K H1 a xs ∧ R (IteT K a) H1
theorem pi_enumT {X : Cx} {e : Expr} {ta : TA} {p pos tpos : Pos} {elts : List Expr} {kk : Nat} (hg : Gl X "enumerate") (hm : X.mg "enumerate" = none) (ha : PA X [e] ta) (hs : starEach [e] X.env = [(false, eval e X.env)] := by rfl) :
    PI X (.Tuple elts kk tpos) (.Call (.Name "enumerate" p) [e] [] pos) (iEnumT X.K ta) := by
  refine ⟨fun pins s σ H R I h => ?_⟩
  refine Call_ (ld_blt I hg hm boot_enumerate (PyProof.Rows.callWith_type1 (thn (ha.run pos pins s σ H _ I h) fun us s1 ⟨vs, H1, I1, r1, q1⟩ => ?_) hs rfl))
  obtain ⟨a, xs, rfl, hq, q⟩ := q1
  obtain ⟨u, rfl, rx⟩ := vals1 r1
  cases rx
  obtain ⟨its, rv, p1, _⟩ := I1.tuple hq
  obtain ⟨o1, ho1, _⟩ := id p1
  have la := Heap.lt_size ho1
  refine callType_new PySem.F.called_enumerate (by decide) (PySem.F.typeCall_enumerate_1 _) (PySem.F.newCall_enumerate_1 _) (fun obj => PySem.F.args_object_init_2 obj _) PySem.F.entry_enumerate_new
    (meets_enumT (begins_tuple a its.toArray)) ⟨p1, ?_⟩
  generalize hio : ({ cls := .type "tuple_iterator", data := .fields #[.ref a, .int 0 0] } : Obj) = io
  have hfree : io.isFreed = false := by rw [← hio]; rfl
  have hz : (s1.heap.push io).objs.size = s1.heap.objs.size + 1 := Heap.size_push ..
  show _ ∧ _
  rw [hz]
  have he : IsEnum ((s1.heap.push io).push { cls := .type "enumerate", data := .fields #[.none, .bool false, .ref s1.heap.objs.size, rawInt 0, .none, .none] }) (s1.heap.objs.size + 1) s1.heap.objs.size 0 .none := by
    have := Heap.get?_push_size (s1.heap.push io) (o := { cls := .type "enumerate", data := .fields #[.none, .bool false, .ref s1.heap.objs.size, rawInt 0, .none, .none] }) rfl
    rw [hz] at this
    exact this
  refine ⟨⟨_, he, rfl⟩, wpAny_pyIter_enum he ?_⟩
  have J : Inv X pins σ H1 { s1 with heap := (s1.heap.push io).push { cls := .type "enumerate", data := .fields #[.none, .bool false, .ref s1.heap.objs.size, rawInt 0, .none, .none] } } :=
    I1.kept (t' := s1.toks) fun b o x => Heap.get?_push_of_some _ (Heap.get?_push_of_some _ x)
  refine ⟨s1.heap.objs.size + 1, [s1.heap.objs.size + 1, s1.heap.objs.size], _, _, H1, rfl, J, turn_enumT (Nat.ne_of_gt (Nat.lt_succ_self _)) (Nat.ne_of_gt (Nat.lt_succ_of_lt la)) (Nat.ne_of_lt la), ⟨⟨_, he⟩, ⟨_, Heap.get?_push_of_some _ (Heap.get?_push_size _ hfree), by rw [← hio], by rw [← hio]; rfl⟩⟩, fun d hd => ?_, q⟩
  have e' : d = s1.heap.objs.size + 1 ∨ d = s1.heap.objs.size := by simpa using hd
  have hle : s1.heap.objs.size ≤ d := by
    rcases e' with z | z
    · rw [z]; exact Nat.le_add_right _ _
    · rw [z]; exact Nat.le_refl _
  exact I1.fpOk hle (I1.hok.fresh hle)
/-! ### walks -/
theorem walk_enumT {K : PySem.W.Frag} {a : Addr} {xs : List V} : Walk (IteT K a) xs.length (fun H => SqT K H a xs) (YPair (fun i => some (.int (i : Nat))) (fun i => xs[i]?)) := by
  refine ⟨fun i _ hi q => ⟨xs, xs[i], q, by simp [hi]⟩, fun _ q => ⟨xs, q, rfl⟩, fun i H v H' _ q y => ?_⟩
  obtain ⟨T, x, h1, h2, h3, h4⟩ := y
  exact ⟨T, .int (i : Nat), x, h1, h2, h3, rfl, h4 xs q⟩
theorem walk_zipT {K : PySem.W.Frag} {a b : Addr} {xs ys : List V} {n : Nat} (hn : n = min xs.length ys.length) : Walk (RZ.ItzT K a b) n (fun H => SqT K H a xs ∧ SqT K H b ys) (YPair (fun i => xs[i]?) (fun i => ys[i]?)) := by
  subst hn
  refine ⟨fun i _ hi q => ?_, fun _ q => ⟨xs, ys, q.1, q.2, by omega⟩, fun i H v H' _ q y => ?_⟩
  · have h1 : i < xs.length := by omega
    have h2 : i < ys.length := by omega
    exact ⟨xs, ys, xs[i], ys[i], q.1, q.2, by simp [h1], by simp [h2]⟩
  · obtain ⟨T, x, z, h1, h2, h3, h4, h5⟩ := y
    exact ⟨T, x, z, h1, h2, h3, h4 xs q.1, h5 ys q.2⟩
/-- a new triple -/
def YTrip (xs ys zs : List V) : Nat → Hp → V → Hp → Prop := fun i H v H' => ∃ T x y z, v = .ref T ∧ H T = none ∧ H' = upd H T (.tup [x, y, z]) ∧ xs[i]? = some x ∧ ys[i]? = some y ∧ zs[i]? = some z
theorem walk_zipT3 {K : PySem.W.Frag} {a b c : Addr} {xs ys zs : List V} {n : Nat} (hn : n = min (min xs.length ys.length) zs.length) : Walk (ItzT3 K a b c) n (fun H => SqT K H a xs ∧ SqT K H b ys ∧ SqT K H c zs) (YTrip xs ys zs) := by
  subst hn
  refine ⟨fun i _ hi q => ?_, fun _ q => ⟨xs, ys, zs, q.1, q.2.1, q.2.2, rfl⟩, fun i H v H' _ q y => ?_⟩
  · have h1 : i < xs.length := by omega
    have h2 : i < ys.length := by omega
    have h3 : i < zs.length := by omega
    exact ⟨xs, ys, zs, xs[i], ys[i], zs[i], q.1, q.2.1, q.2.2, by simp [h1], by simp [h2], by simp [h3]⟩
  · obtain ⟨T, x, y, z, h1, h2, h3, h4, h5, h6⟩ := y
    exact ⟨T, x, y, z, h1, h2, h3, h4 xs q.1, h5 ys q.2.1, h6 zs q.2.2⟩
end EC

set_option Elab.async false
set_option linter.all false
/-! The plain law: the judge of papers as a Lean function, and that a paper that it takes leaves no filling. No program in sight. -/
namespace EC
open PySem
abbrev Fx := Int → Option Int
def put (f : Fx) (c v : Int) : Fx := fun d => if d = c then some v else f d
theorem put_same (f : Fx) (c v : Int) : put f c v c = some v := if_pos rfl
theorem put_ne (f : Fx) {c d : Int} (v : Int) (h : d ≠ c) : put f c v d = f d := if_neg h
abbrev Tie := Int × List Int
abbrev Rel := Int × List (List Int)
abbrev Va := Tie → Fx → (List Int → Bool) → Bool
/-! ### views -/
def fits (f : Fx) : List Int → List Int → Bool
  | c :: cs, v :: vs => decide ((f c).getD v = v) && fits (put f c v) cs vs
  | _, _ => true
def rowsAt (bk : List Rel) (r : Int) : List (List Int) := match bk[r.toNat]? with
  | some rel => rel.2
  | none => []
def views (bk : List Rel) (tie : Tie) (f : Fx) : List (List Int) := (rowsAt bk tie.1).filter fun r => fits f tie.2 r
def vaOf (bk : List Rel) : Va := fun tie f p => (views bk tie f).all p
def valAt (cs row : List Int) (c : Int) : Int := row.getD (cs.idxOf c) 0
/-! ### the judge -/
def numB (d : PyData) (n : Int) : Bool := match d with
  | .int i => decide (0 ≤ i) && decide (i < n)
  | _ => false
def tieAt (ties : List Tie) (d : PyData) : Option Tie := match d with
  | .int i => if 0 ≤ i then ties[i.toNat]? else none
  | _ => none
def stepOf (ties : List Tie) (d : PyData) : Option (Tie × Int × Int) := match d with
  | .tuple [t, .int c, .int v] => match tieAt ties t with
    | some tie => if c ∈ tie.2 ∧ 0 ≤ v ∧ v < 2 then some (tie, c, v) else none
    | none => none
  | _ => none
def stepRun (va : Va) (ties : List Tie) (f : Fx) (s : PyData) : Option Fx := match stepOf ties s with
  | some (tie, c, v) => if f c = none ∧ va tie f (fun _ => false) = false ∧ va tie f (fun r => decide (valAt tie.2 r c = v)) = true then some (put f c v) else none
  | none => none
def chainRun (va : Va) (ties : List Tie) : Fx → List PyData → Option Fx
  | f, [] => some f
  | f, s :: ss => match stepRun va ties f s with
    | some f' => chainRun va ties f' ss
    | none => none
def endOk (va : Va) (ties : List Tie) (f : Fx) (t : PyData) : Bool := match tieAt ties t with
  | some tie => va tie f fun _ => false
  | none => false
def chainOk (va : Va) (ties : List Tie) (f : Fx) (ss : List PyData) (t : PyData) : Bool := match chainRun va ties f ss with
  | some f' => endOk va ties f' t
  | none => false
def wayOk (va : Va) (ties : List Tie) (f : Fx) (e1 e2 : Int) : Int → Int → List PyData → Bool
  | c, v, [] => decide (c = e1) && decide (v = e2)
  | c, v, s :: ss => match stepOf ties s with
    | some (tie, c', v') => decide (c ∈ tie.2) && va tie f (fun r => !decide (valAt tie.2 r c = v) || decide (valAt tie.2 r c' = v')) && wayOk va ties f e1 e2 c' v' ss
    | none => false
def intsOf : List PyData → Option (List Int)
  | [] => some []
  | .int i :: ds => (intsOf ds).map (i :: ·)
  | _ :: _ => none
def rises : List Int → Bool
  | a :: b :: r => decide (a < b) && rises (b :: r)
  | _ => true
def partOf (va : Va) (ties : List Tie) (f : Fx) (d : PyData) : Option (List Int × Int) := match d with
  | .tuple [t, .tuple cs, .int b] => match tieAt ties t, intsOf cs with
    | some tie, some cs => if 0 ≤ b ∧ b < 2 ∧ rises cs = true ∧ (∀ c ∈ cs, c ∈ tie.2) ∧ va tie f (fun r => decide (((cs.map (valAt tie.2 r)).sum + b) % 2 = 0)) = true then some (cs, b) else none
    | _, _ => none
  | _ => none
def sumOk (va : Va) (ties : List Tie) (f : Fx) : List PyData → List Int → Int → Bool
  | [], seen, odd => decide (odd % 2 = 1) && seen.all fun c => decide (seen.count c % 2 = 0)
  | p :: ps, seen, odd => match partOf va ties f p with
    | some (cs, b) => sumOk va ties f ps (seen ++ cs) (odd + b)
    | none => false
def ringOk (va : Va) (ties : List Tie) (f : Fx) (c : Int) (a b : PyData) : Bool := match a, b with
  | .tuple sa, .tuple sb => !sa.isEmpty && wayOk va ties f c 0 c 1 sa && (!sb.isEmpty && wayOk va ties f c 1 c 0 sb)
  | _, _ => false
def judge (va : Va) (ties : List Tie) (n : Int) : PyData → Fx → Bool
  | .tuple [.str k, .tuple ps], f => decide (k = ("sum" : Str)) && (!ps.isEmpty && sumOk va ties f ps [] 0)
  | .tuple [.str k, .tuple ss, t], f => decide (k = ("chain" : Str)) && chainOk va ties f ss t
  | .tuple [.str k, .int c, a, b], f => (decide (0 ≤ c) && decide (c < n)) && (decide (f c = none) &&
      if k = ("ring" : Str) then ringOk va ties f c a b else if k = ("split" : Str) then judge va ties n a (put f c 0) && judge va ties n b (put f c 1) else false)
  | _, _ => false
/-! ### soundness -/
def Agree (f : Fx) (x : Int → Int) : Prop := ∀ c v, f c = some v → x c = v
def Fill (bk : List Rel) (ties : List Tie) (x : Int → Int) : Prop := ∀ tie ∈ ties, tie.2.map x ∈ rowsAt bk tie.1
theorem Agree.put {f : Fx} {x : Int → Int} (h : Agree f x) (c : Int) : Agree (put f c (x c)) x := fun d v e => by
  by_cases hd : d = c
  · subst hd
    rw [put_same] at e
    exact Option.some.inj e
  · rw [put_ne f _ hd] at e
    exact h d v e
theorem fits_read {x : Int → Int} : ∀ (cs : List Int) (f : Fx), Agree f x → fits f cs (cs.map x) = true
  | [], _, _ => rfl
  | c :: cs, f, h => by
    show (decide ((f c).getD (x c) = x c) && fits (put f c (x c)) cs (cs.map x)) = true
    rw [fits_read cs _ (h.put c), Bool.and_true, decide_eq_true_eq]
    cases e : f c with
    | none => rfl
    | some v => exact (h c v e).symm
theorem valAt_read (x : Int → Int) : ∀ (cs : List Int) (c : Int), c ∈ cs → valAt cs (cs.map x) c = x c
  | [], c, h => by cases h
  | a :: cs, c, h => by
    unfold valAt
    by_cases e : a = c
    · subst e
      rw [List.idxOf_cons_self]
      rfl
    · have h' : c ∈ cs := by
        rcases List.mem_cons.mp h with q | q
        · exact absurd q.symm e
        · exact q
      have ei : (a :: cs).idxOf c = cs.idxOf c + 1 := by
        have eb : (a == c) = false := beq_false_of_ne e
        rw [List.idxOf_cons, eb]
        rfl
      rw [ei]
      exact valAt_read x cs c h'
section
variable {bk : List Rel} {ties : List Tie} {x : Int → Int} {f : Fx}
theorem view_read {tie : Tie} (F : Fill bk ties x) (h : Agree f x) (ht : tie ∈ ties) : tie.2.map x ∈ views bk tie f :=
  List.mem_filter.mpr ⟨F tie ht, fits_read _ _ h⟩
theorem va_read {tie : Tie} {p : List Int → Bool} (F : Fill bk ties x) (h : Agree f x) (ht : tie ∈ ties) (e : vaOf bk tie f p = true) : p (tie.2.map x) = true :=
  List.all_eq_true.mp e _ (view_read F h ht)
theorem tieAt_mem {d : PyData} {tie : Tie} (h : tieAt ties d = some tie) : tie ∈ ties := by
  unfold tieAt at h
  split at h
  · split at h
    · exact List.mem_of_getElem? h
    · cases h
  · cases h
theorem stepOf_mem {s : PyData} {tie : Tie} {c v : Int} (h : stepOf ties s = some (tie, c, v)) : tie ∈ ties ∧ c ∈ tie.2 ∧ 0 ≤ v ∧ v < 2 := by
  unfold stepOf at h
  split at h
  · split at h
    · rename_i q
      split at h
      · rename_i k
        cases h
        exact ⟨tieAt_mem q, k⟩
      · cases h
    · cases h
  · cases h
theorem run_agree : ∀ (ss : List PyData) (f f' : Fx), Fill bk ties x → Agree f x → chainRun (vaOf bk) ties f ss = some f' → Agree f' x
  | [], f, f', _, h, e => by
    cases e
    exact h
  | s :: ss, f, f', F, h, e => by
    unfold chainRun at e
    cases q : stepRun (vaOf bk) ties f s with
    | none =>
      rw [q] at e
      cases e
    | some g =>
      rw [q] at e
      refine run_agree ss g f' F ?_ e
      unfold stepRun at q
      split at q
      · rename_i tie c v hs
        split at q
        · rename_i k
          cases q
          obtain ⟨ht, hc, _⟩ := stepOf_mem hs
          have z := of_decide_eq_true (va_read F h ht k.2.2)
          rw [valAt_read x _ _ hc] at z
          rw [← z]
          exact h.put c
        · cases q
      · cases q
theorem end_no {t : PyData} (F : Fill bk ties x) (h : Agree f x) (e : endOk (vaOf bk) ties f t = true) : False := by
  unfold endOk at e
  split at e
  · rename_i tie q
    have z := va_read F h (tieAt_mem q) e
    cases z
  · cases e
theorem way_read {e1 e2 : Int} : ∀ (ss : List PyData) (c v : Int), Fill bk ties x → Agree f x → wayOk (vaOf bk) ties f e1 e2 c v ss = true → x c = v → x e1 = e2
  | [], c, v, F, h, e, hx => by
    unfold wayOk at e
    simp only [Bool.and_eq_true, decide_eq_true_eq] at e
    rw [← e.1, ← e.2]
    exact hx
  | s :: ss, c, v, F, h, e, hx => by
    unfold wayOk at e
    split at e
    · rename_i tie c' v' hs
      simp only [Bool.and_eq_true, decide_eq_true_eq] at e
      obtain ⟨⟨hc, hv⟩, e⟩ := e
      obtain ⟨ht, hc', _⟩ := stepOf_mem hs
      have z := va_read F h ht hv
      simp only [valAt_read x _ _ hc, valAt_read x _ _ hc', hx, decide_true, Bool.not_true, Bool.false_or, decide_eq_true_eq] at z
      exact way_read ss c' v' F h e z
    · cases e
theorem map_valAt {cs own : List Int} (h : ∀ c ∈ cs, c ∈ own) : cs.map (valAt own (own.map x)) = cs.map x :=
  List.map_congr_left fun c hc => valAt_read x own c (h c hc)
theorem sum_erase : ∀ (l : List Int) (c : Int), c ∈ l → (l.map x).sum = x c + ((l.erase c).map x).sum
  | [], c, h => by cases h
  | a :: l, c, h => by
    by_cases e : a = c
    · subst e
      rw [List.erase_cons_head]
      rfl
    · have h' : c ∈ l := by
        rcases List.mem_cons.mp h with q | q
        · exact absurd q.symm e
        · exact q
      rw [List.erase_cons_tail (by simpa using e)]
      simp only [List.map_cons, List.sum_cons, sum_erase l c h']
      omega
theorem sum_even : ∀ (n : Nat) (l : List Int), l.length ≤ n → (∀ c ∈ l, l.count c % 2 = 0) → (l.map x).sum % 2 = 0
  | 0, l, hn, _ => by
    have : l = [] := List.length_eq_zero_iff.mp (Nat.le_zero.mp hn)
    subst this
    rfl
  | n + 1, [], _, _ => rfl
  | n + 1, c :: l, hn, h => by
    have h1 : (c :: l).count c % 2 = 0 := h c List.mem_cons_self
    rw [List.count_cons_self] at h1
    have hm : c ∈ l := List.count_pos_iff.mp (by omega)
    have hs : (l.map x).sum = x c + ((l.erase c).map x).sum := sum_erase l c hm
    have hl : (l.erase c).length ≤ n := by
      have := List.length_erase_of_mem hm
      simp only [List.length_cons] at hn
      omega
    have ih := sum_even n (l.erase c) hl fun d hd => by
      have hd' : d ∈ c :: l := List.mem_cons_of_mem _ (List.mem_of_mem_erase hd)
      have h2 := h d hd'
      by_cases e : d = c
      · subst e
        rw [List.count_cons_self] at h2
        have := List.count_erase_self (a := d) (l := l)
        omega
      · rw [List.count_cons_of_ne (fun z => e z.symm)] at h2
        rw [List.count_erase_of_ne e]
        exact h2
    simp only [List.map_cons, List.sum_cons, hs]
    omega
theorem part_read {d : PyData} {cs : List Int} {b : Int} (F : Fill bk ties x) (h : Agree f x) (e : partOf (vaOf bk) ties f d = some (cs, b)) : ((cs.map x).sum + b) % 2 = 0 := by
  unfold partOf at e
  split at e
  · split at e
    · rename_i tie cs' q1 q2
      split at e
      · rename_i k
        cases e
        obtain ⟨_, _, _, hc, hv⟩ := k
        have z := va_read F h (tieAt_mem q1) hv
        simp only [map_valAt hc, decide_eq_true_eq] at z
        exact z
      · cases e
    · cases e
  · cases e
theorem sum_no : ∀ (ps : List PyData) (seen : List Int) (odd : Int), Fill bk ties x → Agree f x → ((seen.map x).sum + odd) % 2 = 0 → sumOk (vaOf bk) ties f ps seen odd = true → False
  | [], seen, odd, F, h, hs, e => by
    unfold sumOk at e
    simp only [Bool.and_eq_true, decide_eq_true_eq, List.all_eq_true] at e
    have z := sum_even (x := x) seen.length seen (Nat.le_refl _) e.2
    omega
  | p :: ps, seen, odd, F, h, hs, e => by
    unfold sumOk at e
    split at e
    · rename_i cs b q
      have z := part_read F h q
      refine sum_no ps _ _ F h ?_ e
      rw [List.map_append, List.sum_append]
      omega
    · cases e
end
theorem judge_sound {bk : List Rel} {ties : List Tie} {n : Int} {x : Int → Int} (F : Fill bk ties x) (hb : ∀ c, x c = 0 ∨ x c = 1) : ∀ (p : PyData) (f : Fx), Agree f x → judge (vaOf bk) ties n p f = true → False := by
  intro p f
  induction p, f using judge.induct
  · rename_i k ps f
    intro h e
    unfold judge at e
    simp only [Bool.and_eq_true] at e
    exact sum_no ps [] 0 F h rfl e.2.2
  · rename_i k ss t f
    intro h e
    unfold judge at e
    simp only [Bool.and_eq_true] at e
    have e2 := e.2
    unfold chainOk at e2
    split at e2
    · rename_i f' q
      exact end_no F (run_agree ss f f' F h q) e2
    · cases e2
  · rename_i k c a b f ih0 ih1
    intro h e
    unfold judge at e
    simp only [Bool.and_eq_true] at e
    have e2 := e.2.2
    split at e2
    · unfold ringOk at e2
      split at e2
      · rename_i sa sb
        simp only [Bool.and_eq_true] at e2
        obtain ⟨⟨_, h1⟩, _, h2⟩ := e2
        rcases hb c with z | z
        · have := way_read sb c 0 F h h2 z
          omega
        · have := way_read sa c 1 F h h1 z
          omega
      · cases e2
    · split at e2
      · simp only [Bool.and_eq_true] at e2
        rcases hb c with z | z
        · exact ih0 (by rw [← z]; exact h.put c) e2.1
        · exact ih1 (by rw [← z]; exact h.put c) e2.2
      · cases e2
  · intro h e
    unfold judge at e
    split at e
    all_goals first
      | exact absurd e (by decide)
      | (rename_i q1 q2 q3; first | exact q1 _ _ rfl | exact q2 _ _ _ rfl | exact q3 _ _ _ _ rfl)
end EC

set_option Elab.async false
set_option linter.all false
/-! The plain law, second part: fillings, starts, splits, and when a refutation stands. -/
namespace EC
open PySem
def allRows : Nat → List (List Int)
  | 0 => [[]]
  | k + 1 => (allRows k).flatMap fun r => [r ++ [0], r ++ [1]]
def bitRow (r : List Int) : Prop := ∀ v ∈ r, v = 0 ∨ v = 1
theorem mem_allRows : ∀ (k : Nat) (r : List Int), r ∈ allRows k ↔ r.length = k ∧ bitRow r
  | 0, r => by
    show r ∈ [[]] ↔ _
    rw [List.mem_singleton]
    constructor
    · rintro rfl
      exact ⟨rfl, fun v h => nomatch h⟩
    · rintro ⟨h, _⟩
      exact List.length_eq_zero_iff.mp h
  | k + 1, r => by
    show r ∈ (allRows k).flatMap _ ↔ _
    rw [List.mem_flatMap]
    constructor
    · rintro ⟨q, hq, hr⟩
      obtain ⟨hl, hb⟩ := (mem_allRows k q).mp hq
      have e : r = q ++ [0] ∨ r = q ++ [1] := by simpa using hr
      rcases e with e | e
      · subst e
        refine ⟨by simp [hl], fun v hv => ?_⟩
        rcases List.mem_append.mp hv with z | z
        · exact hb v z
        · exact .inl (List.mem_singleton.mp z)
      · subst e
        refine ⟨by simp [hl], fun v hv => ?_⟩
        rcases List.mem_append.mp hv with z | z
        · exact hb v z
        · exact .inr (List.mem_singleton.mp z)
    · rintro ⟨hl, hb⟩
      have hne : r ≠ [] := by
        rintro rfl
        cases hl
      have e := List.dropLast_concat_getLast hne
      refine ⟨r.dropLast, (mem_allRows k _).mpr ⟨by rw [List.length_dropLast, hl]; rfl, fun v hv => hb v (List.dropLast_subset r hv)⟩, ?_⟩
      rcases hb _ (List.getLast_mem hne) with z | z
      · rw [z] at e
        rw [← e]
        simp
      · rw [z] at e
        rw [← e]
        simp
theorem allRows_len : ∀ k, (allRows k).length = 2 ^ k
  | 0 => rfl
  | k + 1 => by
    show ((allRows k).flatMap _).length = _
    have : ∀ l : List (List Int), (l.flatMap fun r => [r ++ [0], r ++ [1]]).length = 2 * l.length := by
      intro l
      induction l with
      | nil => rfl
      | cons a l ih =>
        rw [List.flatMap_cons, List.length_append, ih, List.length_cons]
        show 2 + 2 * l.length = 2 * (l.length + 1)
        omega
    rw [this, allRows_len k]
    omega
def rd (row : List Int) (c : Int) : Int := row.getD c.toNat 0
def keepsB (st : List (Int × Int)) (row : List Int) : Bool := st.all fun p => decide (rd row p.1 = p.2)
def tiesB (bk : List Rel) (ties : List Tie) (row : List Int) : Bool := ties.all fun tie => decide (tie.2.map (rd row) ∈ rowsAt bk tie.1)
def filled (bk : List Rel) (ties : List Tie) (n : Nat) (st : List (Int × Int)) : Bool := (allRows n).any fun row => keepsB st row && tiesB bk ties row
def lookF (f : Fx) (st : List (Int × Int)) : Fx := st.foldl (fun f p => put f p.1 p.2) f
def lookS (st : List (Int × Int)) : Fx := lookF (fun _ => none) st
structure RelG (rel : Rel) : Prop where
  lo : 1 ≤ rel.1
  hi : rel.1 ≤ 4
  ne : rel.2 ≠ []
  len : rel.2.length ≤ 16
  rows : ∀ r ∈ rel.2, r.length = rel.1.toNat ∧ bitRow r
structure TieG (bk : List Rel) (n : Nat) (tie : Tie) : Prop where
  lo : 0 ≤ tie.1
  rel : ∃ rel, bk[tie.1.toNat]? = some rel ∧ tie.2.length = rel.1.toNat
  cells : ∀ c ∈ tie.2, 0 ≤ c ∧ c < (n : Int)
structure Good (bk : List Rel) (ties : List Tie) (n : Nat) : Prop where
  b1 : 1 ≤ bk.length
  b6 : bk.length ≤ 6
  rel : ∀ rel ∈ bk, RelG rel
  n1 : 1 ≤ n
  n5 : n ≤ 5
  t1 : 1 ≤ ties.length
  t6 : ties.length ≤ 6
  tie : ∀ tie ∈ ties, TieG bk n tie
structure StartG (n : Nat) (st : List (Int × Int)) : Prop where
  up : st.Pairwise fun p q => p.1 < q.1
  ok : ∀ p ∈ st, 0 ≤ p.1 ∧ p.1 < (n : Int) ∧ (p.2 = 0 ∨ p.2 = 1)
/-! ### starts -/
theorem lookF_cons (f : Fx) (p : Int × Int) (st : List (Int × Int)) : lookF f (p :: st) = lookF (put f p.1 p.2) st := rfl
theorem lookF_append (f : Fx) (a b : List (Int × Int)) : lookF f (a ++ b) = lookF (lookF f a) b := List.foldl_append
theorem lookF_no : ∀ (st : List (Int × Int)) (f : Fx) (c : Int), (∀ p ∈ st, p.1 ≠ c) → lookF f st c = f c
  | [], _, _, _ => rfl
  | p :: st, f, c, h => by
    rw [lookF_cons, lookF_no st _ c fun q hq => h q (List.mem_cons_of_mem _ hq)]
    exact put_ne f _ (fun e => h p List.mem_cons_self e.symm)
theorem lookF_mem : ∀ (st : List (Int × Int)) (f : Fx) (c v : Int), lookF f st c = some v → (c, v) ∈ st ∨ f c = some v
  | [], _, _, _, h => .inr h
  | p :: st, f, c, v, h => by
    rw [lookF_cons] at h
    rcases lookF_mem st _ c v h with q | q
    · exact .inl (List.mem_cons_of_mem _ q)
    · by_cases e : c = p.1
      · subst e
        rw [put_same] at q
        have q' := Option.some.inj q
        subst q'
        exact .inl List.mem_cons_self
      · rw [put_ne f _ e] at q
        exact .inr q
theorem lookS_mem {st : List (Int × Int)} {c v : Int} (h : lookS st c = some v) : (c, v) ∈ st := by
  rcases lookF_mem st _ c v h with q | q
  · exact q
  · cases q
theorem lookS_none {st : List (Int × Int)} {c : Int} : lookS st c = none ↔ ∀ p ∈ st, p.1 ≠ c := by
  constructor
  · intro h p hp e
    have hl : ∀ (st : List (Int × Int)) (f : Fx), p ∈ st → (lookF f st p.1).isSome = true := by
      intro st
      induction st with
      | nil => intro f hp; cases hp
      | cons q st ih =>
        intro f hp
        rw [lookF_cons]
        by_cases hq : p ∈ st
        · exact ih _ hq
        · have e2 : p = q := by
            rcases List.mem_cons.mp hp with z | z
            · exact z
            · exact absurd z hq
          subst e2
          by_cases hk : ∀ r ∈ st, r.1 ≠ p.1
          · rw [lookF_no st _ _ hk, put_same]
            rfl
          · have hs : ∀ (st : List (Int × Int)) (f : Fx) (c : Int), (f c).isSome = true → (lookF f st c).isSome = true := by
              intro st
              induction st with
              | nil => intro f c h; exact h
              | cons q st ih =>
                intro f c h
                rw [lookF_cons]
                refine ih _ c ?_
                by_cases e : c = q.1
                · subst e
                  rw [put_same]
                  rfl
                · rw [put_ne f _ e]
                  exact h
            exact hs st _ _ (by rw [put_same]; rfl)
    have z := hl st (fun _ => none) hp
    rw [e] at z
    have h' : lookF (fun _ => none) st c = none := h
    rw [h'] at z
    cases z
  · intro h
    exact lookF_no st _ c h
theorem StartG.look {n : Nat} {st : List (Int × Int)} (S : StartG n st) {p : Int × Int} (hp : p ∈ st) : lookS st p.1 = some p.2 := by
  cases e : lookS st p.1 with
  | none => exact absurd rfl (lookS_none.mp e p hp)
  | some v =>
    have hm := lookS_mem e
    have hne : ∀ (st : List (Int × Int)), st.Pairwise (fun p q => p.1 < q.1) → ∀ p ∈ st, ∀ q ∈ st, p.1 = q.1 → p = q := by
      intro st hst
      induction hst with
      | nil => intro p hp; cases hp
      | cons h _ ih =>
        intro p hp q hq e
        rcases List.mem_cons.mp hp with z | z
        · rcases List.mem_cons.mp hq with y | y
          · rw [z, y]
          · have := h q y
            rw [z] at e
            omega
        · rcases List.mem_cons.mp hq with y | y
          · have := h p z
            rw [y] at e
            omega
          · exact ih p z q y e
    have := hne st S.up p hp (p.1, v) hm rfl
    rw [this]
def withS (st : List (Int × Int)) (c v : Int) : List (Int × Int) := st.filter (fun p => decide (p.1 < c)) ++ [(c, v)] ++ st.filter (fun p => decide (c < p.1))
theorem withS_mem {st : List (Int × Int)} {c v : Int} (h : lookS st c = none) (q : Int × Int) : q ∈ withS st c v ↔ q ∈ st ∨ q = (c, v) := by
  unfold withS
  simp only [List.mem_append, List.mem_filter, decide_eq_true_eq, List.mem_singleton]
  constructor
  · rintro ((⟨a, _⟩ | a) | ⟨a, _⟩)
    · exact .inl a
    · exact .inr a
    · exact .inl a
  · rintro (a | a)
    · have hq := lookS_none.mp h q a
      by_cases e : q.1 < c
      · exact .inl (.inl ⟨a, e⟩)
      · exact .inr ⟨a, by omega⟩
    · exact .inl (.inr a)
theorem withS_good {n : Nat} {st : List (Int × Int)} {c v : Int} (S : StartG n st) (h : lookS st c = none) (hc : 0 ≤ c ∧ c < (n : Int)) (hv : v = 0 ∨ v = 1) : StartG n (withS st c v) := by
  refine ⟨?_, fun p hp => ?_⟩
  · unfold withS
    rw [List.pairwise_append]
    refine ⟨?_, S.up.filter _, ?_⟩
    · rw [List.pairwise_append]
      refine ⟨S.up.filter _, List.pairwise_singleton _ _, fun a ha b hb => ?_⟩
      have h1 := (List.mem_filter.mp ha).2
      rw [List.mem_singleton.mp hb]
      exact of_decide_eq_true h1
    · intro a ha b hb
      have h2 := of_decide_eq_true (List.mem_filter.mp hb).2
      rcases List.mem_append.mp ha with z | z
      · have h1 := of_decide_eq_true (List.mem_filter.mp z).2
        omega
      · rw [List.mem_singleton.mp z]
        exact h2
  · rcases (withS_mem h p).mp hp with z | z
    · exact S.ok p z
    · rw [z]
      exact ⟨hc.1, hc.2, hv⟩
theorem look_eq {n : Nat} {st st' : List (Int × Int)} (S : StartG n st) (S' : StartG n st') (h : ∀ p, p ∈ st ↔ p ∈ st') : lookS st = lookS st' := by
  funext c
  cases e : lookS st' c with
  | none => exact lookS_none.mpr fun p hp => lookS_none.mp e p ((h p).mp hp)
  | some v => exact S.look ((h (c, v)).mpr (lookS_mem e))
theorem withS_look {n : Nat} {st : List (Int × Int)} {c v : Int} (S : StartG n st) (h : lookS st c = none) (hc : 0 ≤ c ∧ c < (n : Int)) (hv : v = 0 ∨ v = 1) : lookS (withS st c v) = put (lookS st) c v := by
  funext d
  have S' := withS_good S h hc hv
  by_cases e : d = c
  · subst e
    rw [put_same]
    exact S'.look ((withS_mem h (d, v)).mpr (.inr rfl))
  · rw [put_ne _ _ e]
    cases q : lookS st d with
    | none =>
      refine lookS_none.mpr fun p hp => ?_
      rcases (withS_mem h p).mp hp with z | z
      · exact lookS_none.mp q p z
      · rw [z]
        exact fun y => e y.symm
    | some w => exact S'.look ((withS_mem h (d, w)).mpr (.inl (lookS_mem q)))
/-! ### fillings -/
theorem keeps_agree {st : List (Int × Int)} {row : List Int} (h : keepsB st row = true) : Agree (lookS st) (rd row) := fun c v e => by
  have := List.all_eq_true.mp h (c, v) (lookS_mem e)
  exact of_decide_eq_true this
theorem rd_bits {row : List Int} (h : bitRow row) (c : Int) : rd row c = 0 ∨ rd row c = 1 := by
  unfold rd
  rw [List.getD_eq_getElem?_getD]
  cases e : row[c.toNat]? with
  | none => exact .inl rfl
  | some v => exact h v (List.mem_of_getElem? e)
theorem judge_no {bk : List Rel} {ties : List Tie} {n : Nat} {m : Int} {st : List (Int × Int)} {p : PyData} (h : judge (vaOf bk) ties m p (lookS st) = true) : filled bk ties n st = false := by
  cases e : filled bk ties n st with
  | false => rfl
  | true =>
    exfalso
    obtain ⟨row, hr, hk⟩ := List.any_eq_true.mp e
    rw [Bool.and_eq_true] at hk
    have F : Fill bk ties (rd row) := fun tie ht => of_decide_eq_true (List.all_eq_true.mp hk.2 tie ht)
    exact judge_sound F (rd_bits ((mem_allRows n row).mp hr).2) p _ (keeps_agree hk.1) h
theorem with_unfilled {bk : List Rel} {ties : List Tie} {n : Nat} {st : List (Int × Int)} {c v : Int} (h : lookS st c = none) (e : filled bk ties n st = false) : filled bk ties n (withS st c v) = false := by
  cases q : filled bk ties n (withS st c v) with
  | false => rfl
  | true =>
    obtain ⟨row, hr, hk⟩ := List.any_eq_true.mp q
    rw [Bool.and_eq_true] at hk
    have : filled bk ties n st = true := by
      refine List.any_eq_true.mpr ⟨row, hr, ?_⟩
      rw [Bool.and_eq_true]
      refine ⟨List.all_eq_true.mpr fun p hp => ?_, hk.2⟩
      exact List.all_eq_true.mp hk.1 p ((withS_mem h p).mpr (.inl hp))
    rw [e] at this
    cases this
theorem put_self {f : Fx} {c v : Int} (h : f c = some v) : put f c v = f := by
  funext d
  by_cases e : d = c
  · subst e
    rw [put_same, h]
  · exact put_ne f _ e
theorem fits_fixed : ∀ (cs r : List Int) (f : Fx), r.length = cs.length → (∀ c ∈ cs, f c ≠ none) → fits f cs r = true → r = cs.map fun c => (f c).getD 0
  | [], r, f, hl, _, _ => List.length_eq_zero_iff.mp hl
  | c :: cs, [], f, hl, _, _ => by cases hl
  | c :: cs, v :: r, f, hl, hf, h => by
    have h' : (decide ((f c).getD v = v) && fits (put f c v) cs r) = true := h
    rw [Bool.and_eq_true, decide_eq_true_eq] at h'
    cases e : f c with
    | none => exact absurd e (hf c List.mem_cons_self)
    | some w =>
      rw [e] at h'
      have hw : w = v := h'.1
      subst hw
      rw [put_self e] at h'
      rw [List.map_cons, e, ← fits_fixed cs r f (by simpa using hl) (fun d hd => hf d (List.mem_cons_of_mem _ hd)) h'.2]
      rfl
theorem full_filled {bk : List Rel} {ties : List Tie} {n : Nat} {st : List (Int × Int)} (G : Good bk ties n) (S : StartG n st) (all : ∀ c : Int, 0 ≤ c → c < (n : Int) → lookS st c ≠ none)
    (vs : ∀ tie ∈ ties, views bk tie (lookS st) ≠ []) : filled bk ties n st = true := by
  have hrd : ∀ c : Int, 0 ≤ c → c < (n : Int) → rd ((List.range n).map fun i : Nat => (lookS st (i : Int)).getD 0) c = (lookS st c).getD 0 := fun c h0 h1 => by
    unfold rd
    have hc : c.toNat < n := by omega
    rw [List.getD_eq_getElem?_getD, List.getElem?_map, List.getElem?_range hc]
    show (lookS st (c.toNat : Int)).getD 0 = _
    rw [Int.toNat_of_nonneg h0]
  refine List.any_eq_true.mpr ⟨(List.range n).map fun i : Nat => (lookS st (i : Int)).getD 0, (mem_allRows n _).mpr ⟨by simp, fun v hv => ?_⟩, ?_⟩
  · obtain ⟨i, hi, rfl⟩ := List.mem_map.mp hv
    cases e : lookS st (i : Int) with
    | none => exact .inl rfl
    | some w => exact (S.ok _ (lookS_mem e)).2.2
  · rw [Bool.and_eq_true]
    refine ⟨List.all_eq_true.mpr fun p hp => ?_, List.all_eq_true.mpr fun tie ht => ?_⟩
    · obtain ⟨h0, h1, _⟩ := S.ok p hp
      refine decide_eq_true ?_
      rw [hrd p.1 h0 h1, S.look hp]
      rfl
    · have T := G.tie tie ht
      obtain ⟨r, hr⟩ := List.exists_mem_of_ne_nil _ (vs tie ht)
      obtain ⟨hr1, hr2⟩ := List.mem_filter.mp hr
      obtain ⟨rel, hrel, hl⟩ := T.rel
      have hrow : r ∈ rel.2 := by
        unfold rowsAt at hr1
        rw [hrel] at hr1
        exact hr1
      have hlen := ((G.rel rel (List.mem_of_getElem? hrel)).rows r hrow).1
      have e := fits_fixed tie.2 r (lookS st) (by rw [hlen, hl]) (fun c hc => all c (T.cells c hc).1 (T.cells c hc).2) hr2
      refine decide_eq_true ?_
      have e2 : tie.2.map (rd ((List.range n).map fun i : Nat => (lookS st (i : Int)).getD 0)) = r := by
        rw [e]
        exact List.map_congr_left fun c hc => hrd c (T.cells c hc).1 (T.cells c hc).2
      rw [e2]
      exact hr1
/-! ### what the paper made here is -/
theorem fits_val : ∀ (cs r : List Int) (f : Fx) (k : Nat) (c v w : Int), fits f cs r = true → f c = some w → cs[k]? = some c → r[k]? = some v → v = w
  | [], _, _, _, _, _, _, _, _, h, _ => by simp at h
  | _ :: _, [], _, _, _, _, _, _, _, _, h => by simp at h
  | a :: cs, u :: r, f, 0, c, v, w, h, hf, h1, h2 => by
    have h' : (decide ((f a).getD u = u) && fits (put f a u) cs r) = true := h
    rw [Bool.and_eq_true, decide_eq_true_eq] at h'
    have e1 : a = c := by simpa using h1
    have e2 : u = v := by simpa using h2
    subst e1 e2
    rw [hf] at h'
    exact h'.1.symm
  | a :: cs, u :: r, f, k + 1, c, v, w, h, hf, h1, h2 => by
    have h' : (decide ((f a).getD u = u) && fits (put f a u) cs r) = true := h
    rw [Bool.and_eq_true, decide_eq_true_eq] at h'
    refine fits_val cs r (put f a u) k c v w h'.2 ?_ (by simpa using h1) (by simpa using h2)
    by_cases e : c = a
    · subst e
      rw [hf] at h'
      rw [put_same]
      exact congrArg some h'.1.symm
    · rw [put_ne f _ e]
      exact hf
theorem fits_same : ∀ (cs r : List Int) (f : Fx) (k : Nat) (c v : Int), fits f cs r = true → cs[k]? = some c → r[k]? = some v → valAt cs r c = v
  | [], _, _, _, _, _, _, h, _ => by simp at h
  | _ :: _, [], _, _, _, _, _, _, h => by simp at h
  | a :: cs, u :: r, f, k, c, v, h, h1, h2 => by
    have h' : (decide ((f a).getD u = u) && fits (put f a u) cs r) = true := h
    rw [Bool.and_eq_true] at h'
    unfold valAt
    by_cases e : a = c
    · subst e
      rw [List.idxOf_cons_self]
      show u = v
      cases k with
      | zero => simpa using h2
      | succ k => exact (fits_val cs r (put f a u) k a v u h'.2 (put_same f a u) (by simpa using h1) (by simpa using h2)).symm
    · have eb : (a == c) = false := beq_false_of_ne e
      have ei : (a :: cs).idxOf c = cs.idxOf c + 1 := by
        rw [List.idxOf_cons, eb]
        rfl
      rw [ei]
      cases k with
      | zero =>
        exact absurd (by simpa using h1) e
      | succ k => exact fits_same cs r (put f a u) k c v h'.2 (by simpa using h1) (by simpa using h2)
theorem chainRun_snoc {va : Va} {ties : List Tie} {s : PyData} : ∀ (ss : List PyData) (f : Fx), chainRun va ties f (ss ++ [s]) = (chainRun va ties f ss).bind fun f' => stepRun va ties f' s
  | [], f => by
    show (match stepRun va ties f s with | some f' => chainRun va ties f' [] | none => none) = stepRun va ties f s
    cases stepRun va ties f s <;> rfl
  | a :: ss, f => by
    show (match stepRun va ties f a with | some f' => chainRun va ties f' (ss ++ [s]) | none => none) = (match stepRun va ties f a with | some f' => chainRun va ties f' ss | none => none).bind _
    cases stepRun va ties f a with
    | none => rfl
    | some f' => exact chainRun_snoc ss f'
theorem judge_chain {va : Va} {ties : List Tie} {n : Int} {ss : List PyData} {t : PyData} {f : Fx} : judge va ties n (.tuple [.str "chain", .tuple ss, t]) f = chainOk va ties f ss t := by
  unfold judge
  simp
theorem judge_split {va : Va} {ties : List Tie} {n c : Int} {a b : PyData} {f : Fx} (h0 : 0 ≤ c) (h1 : c < n) (hf : f c = none) :
    judge va ties n (.tuple [.str "split", .int c, a, b]) f = (judge va ties n a (put f c 0) && judge va ties n b (put f c 1)) := by
  conv => lhs; unfold judge
  rw [if_neg (by decide), if_pos rfl, decide_eq_true h0, decide_eq_true h1, decide_eq_true hf]
  rfl
end EC

set_option Elab.async false
set_option linter.all false
set_option maxRecDepth 100000
set_option maxHeartbeats 2000000
namespace EC
open PySem PySem.Spec PyProof.Rows L2
/-! ### the facts behind the top, by names -/
def fdO (K : PySem.W.Frag) (d : He.DefD) : FuncData := match K.lookup (He.fAd K d.at_) with
  | some ⟨_, _, .func fd, _⟩ => fd
  | _ => default
structure Txt (K : PySem.W.Frag) (mg : Str → Option Value) : Prop where
  c : He.SaysD fa fn K
  ex : exB K = true
  g : ∀ x, He.Fa.glo x ∈ fa → mg x = some (.ref (He.ga K x))
  z : ∀ x, He.Fa.free x ∈ fa → mg x = none
  i : ∀ x n, He.Fa.int x n ∈ fa → ∃ t, mg x = some (.int n t)
abbrev Ok (P : Program) (w : World) (K : PySem.W.Frag) (mg : Str → Option Value) (base : Heap) (k : Nat) (d : He.DefD) (ps : List Str) (sp : Sp) : Prop := FnOk P w K mg base CX0 k (He.fAd K d.at_) (fdO K d) ps sp
section
variable {K : PySem.W.Frag} {mg : Str → Option Value}
theorem Txt.fact (T : Txt K mg) {f : He.Fa} (h : f ∈ fa) : f.ok K = true := T.c.facts h
theorem Txt.fn (T : Txt K mg) {d : He.DefD} (h : d ∈ fn) : FunD K d.name d.qual d.params d.body d.scope (d.dvs K) (d.kws K) (He.fAd K d.at_) (fdO K d) := by
  obtain ⟨fd, F⟩ := T.c.defs h
  have e : fdO K d = fd := by
    obtain ⟨oc, od, dV, kV, doc, pm, an, cdv, ct, osl, e, lk, _⟩ := F.ex
    unfold fdO
    rw [lk]
  rw [e]
  exact F
theorem Txt.isi (T : Txt K mg) {x : Str} (h : isiB K x = true) (c : Cls K (He.ga K x)) : C8.InsC K (He.ga K x) := by
  obtain ⟨a1, a2⟩ := He.ba T.ex
  obtain ⟨a3, _⟩ := He.ba a2
  obtain ⟨b1, b2⟩ := He.ba h
  obtain ⟨b3, b4⟩ := He.ba b2
  exact ⟨c, of_decide_eq_true b1, of_decide_eq_true a1, of_decide_eq_true a3, of_decide_eq_true b3, of_decide_eq_true b4⟩
theorem txt_of {h : Heap} (X : K.In h) (G : h.Ns mainGlobals mg) (c : He.SaysD fa fn K) (ex : exB K = true) : Txt K mg :=
  ⟨c, ex, fun x m => He.glo_ok X G (c.facts m), fun x m => He.free_ok X G (c.facts m), fun x n m => He.int_ok X G (c.facts m)⟩
end
end EC

set_option Elab.async false
set_option linter.all false
set_option maxRecDepth 100000
set_option maxHeartbeats 2000000
/-! The text's facts by names (printed by gen.py): built-ins, constants, classes, defs with their slots. -/
namespace EC
open PySem PySem.Spec PyProof.Rows L2
section
variable {K : PySem.W.Frag} {mg : Str → Option Value}
theorem Txt.g_is_below (T : Txt K mg) : mg "is_below" = some (.ref (He.fAd K d_is_below.at_)) := T.g "is_below" (List.mem_of_getElem? (i := 0) rfl)
theorem Txt.g_is_row (T : Txt K mg) : mg "is_row" = some (.ref (He.fAd K d_is_row.at_)) := T.g "is_row" (List.mem_of_getElem? (i := 1) rfl)
theorem Txt.g_are_rows (T : Txt K mg) : mg "are_rows" = some (.ref (He.fAd K d_are_rows.at_)) := T.g "are_rows" (List.mem_of_getElem? (i := 2) rfl)
theorem Txt.g_are_relations (T : Txt K mg) : mg "are_relations" = some (.ref (He.fAd K d_are_relations.at_)) := T.g "are_relations" (List.mem_of_getElem? (i := 3) rfl)
theorem Txt.g_are_cells (T : Txt K mg) : mg "are_cells" = some (.ref (He.fAd K d_are_cells.at_)) := T.g "are_cells" (List.mem_of_getElem? (i := 4) rfl)
theorem Txt.g_is_tie (T : Txt K mg) : mg "is_tie" = some (.ref (He.fAd K d_is_tie.at_)) := T.g "is_tie" (List.mem_of_getElem? (i := 5) rfl)
theorem Txt.g_is_start (T : Txt K mg) : mg "is_start" = some (.ref (He.fAd K d_is_start.at_)) := T.g "is_start" (List.mem_of_getElem? (i := 6) rfl)
theorem Txt.g_seen_rows (T : Txt K mg) : mg "seen_rows" = some (.ref (He.fAd K d_seen_rows.at_)) := T.g "seen_rows" (List.mem_of_getElem? (i := 7) rfl)
theorem Txt.g_is_number_below (T : Txt K mg) : mg "is_number_below" = some (.ref (He.fAd K d_is_number_below.at_)) := T.g "is_number_below" (List.mem_of_getElem? (i := 8) rfl)
theorem Txt.g_are_triples (T : Txt K mg) : mg "are_triples" = some (.ref (He.fAd K d_are_triples.at_)) := T.g "are_triples" (List.mem_of_getElem? (i := 9) rfl)
theorem Txt.g_cells_of (T : Txt K mg) : mg "cells_of" = some (.ref (He.fAd K d_cells_of.at_)) := T.g "cells_of" (List.mem_of_getElem? (i := 10) rfl)
theorem Txt.g_is_step (T : Txt K mg) : mg "is_step" = some (.ref (He.fAd K d_is_step.at_)) := T.g "is_step" (List.mem_of_getElem? (i := 11) rfl)
theorem Txt.g_chain_holds (T : Txt K mg) : mg "chain_holds" = some (.ref (He.fAd K d_chain_holds.at_)) := T.g "chain_holds" (List.mem_of_getElem? (i := 12) rfl)
theorem Txt.g_way_holds (T : Txt K mg) : mg "way_holds" = some (.ref (He.fAd K d_way_holds.at_)) := T.g "way_holds" (List.mem_of_getElem? (i := 13) rfl)
theorem Txt.g_ring_holds (T : Txt K mg) : mg "ring_holds" = some (.ref (He.fAd K d_ring_holds.at_)) := T.g "ring_holds" (List.mem_of_getElem? (i := 14) rfl)
theorem Txt.g_is_part (T : Txt K mg) : mg "is_part" = some (.ref (He.fAd K d_is_part.at_)) := T.g "is_part" (List.mem_of_getElem? (i := 15) rfl)
theorem Txt.g_sum_holds (T : Txt K mg) : mg "sum_holds" = some (.ref (He.fAd K d_sum_holds.at_)) := T.g "sum_holds" (List.mem_of_getElem? (i := 16) rfl)
theorem Txt.g_leaf_holds (T : Txt K mg) : mg "leaf_holds" = some (.ref (He.fAd K d_leaf_holds.at_)) := T.g "leaf_holds" (List.mem_of_getElem? (i := 17) rfl)
theorem Txt.g_is_split (T : Txt K mg) : mg "is_split" = some (.ref (He.fAd K d_is_split.at_)) := T.g "is_split" (List.mem_of_getElem? (i := 18) rfl)
theorem Txt.g_with_cell (T : Txt K mg) : mg "with_cell" = some (.ref (He.fAd K d_with_cell.at_)) := T.g "with_cell" (List.mem_of_getElem? (i := 19) rfl)
theorem Txt.g_none_holds (T : Txt K mg) : mg "none_holds" = some (.ref (He.fAd K d_none_holds.at_)) := T.g "none_holds" (List.mem_of_getElem? (i := 20) rfl)
theorem Txt.g_law_draws (T : Txt K mg) : mg "_law_draws" = some (.ref (He.fAd K d_law_draws.at_)) := T.g "_law_draws" (List.mem_of_getElem? (i := 21) rfl)
theorem Txt.g_law_take (T : Txt K mg) : mg "_law_take" = some (.ref (He.fAd K d_law_take.at_)) := T.g "_law_take" (List.mem_of_getElem? (i := 22) rfl)
theorem Txt.g_law_all_rows (T : Txt K mg) : mg "_law_all_rows" = some (.ref (He.fAd K d_law_all_rows.at_)) := T.g "_law_all_rows" (List.mem_of_getElem? (i := 23) rfl)
theorem Txt.g_law_table (T : Txt K mg) : mg "_law_table" = some (.ref (He.fAd K d_law_table.at_)) := T.g "_law_table" (List.mem_of_getElem? (i := 24) rfl)
theorem Txt.g_law_made (T : Txt K mg) : mg "_law_made" = some (.ref (He.fAd K d_law_made.at_)) := T.g "_law_made" (List.mem_of_getElem? (i := 25) rfl)
theorem Txt.g_law_chosen (T : Txt K mg) : mg "_law_chosen" = some (.ref (He.fAd K d_law_chosen.at_)) := T.g "_law_chosen" (List.mem_of_getElem? (i := 26) rfl)
theorem Txt.g_law_closed (T : Txt K mg) : mg "_law_closed" = some (.ref (He.fAd K d_law_closed.at_)) := T.g "_law_closed" (List.mem_of_getElem? (i := 27) rfl)
theorem Txt.g_law_relation (T : Txt K mg) : mg "_law_relation" = some (.ref (He.fAd K d_law_relation.at_)) := T.g "_law_relation" (List.mem_of_getElem? (i := 28) rfl)
theorem Txt.g_law_book (T : Txt K mg) : mg "_law_book" = some (.ref (He.fAd K d_law_book.at_)) := T.g "_law_book" (List.mem_of_getElem? (i := 29) rfl)
theorem Txt.g_law_ties (T : Txt K mg) : mg "_law_ties" = some (.ref (He.fAd K d_law_ties.at_)) := T.g "_law_ties" (List.mem_of_getElem? (i := 30) rfl)
theorem Txt.g_law_start (T : Txt K mg) : mg "_law_start" = some (.ref (He.fAd K d_law_start.at_)) := T.g "_law_start" (List.mem_of_getElem? (i := 31) rfl)
theorem Txt.g_law_puzzle (T : Txt K mg) : mg "_law_puzzle" = some (.ref (He.fAd K d_law_puzzle.at_)) := T.g "_law_puzzle" (List.mem_of_getElem? (i := 32) rfl)
theorem Txt.g_law_views (T : Txt K mg) : mg "_law_views" = some (.ref (He.fAd K d_law_views.at_)) := T.g "_law_views" (List.mem_of_getElem? (i := 33) rfl)
theorem Txt.g_law_fillings (T : Txt K mg) : mg "_law_fillings" = some (.ref (He.fAd K d_law_fillings.at_)) := T.g "_law_fillings" (List.mem_of_getElem? (i := 34) rfl)
theorem Txt.g_law_is_number (T : Txt K mg) : mg "_law_is_number" = some (.ref (He.fAd K d_law_is_number.at_)) := T.g "_law_is_number" (List.mem_of_getElem? (i := 35) rfl)
theorem Txt.g_law_are (T : Txt K mg) : mg "_law_are" = some (.ref (He.fAd K d_law_are.at_)) := T.g "_law_are" (List.mem_of_getElem? (i := 36) rfl)
theorem Txt.g_law_is_step (T : Txt K mg) : mg "_law_is_step" = some (.ref (He.fAd K d_law_is_step.at_)) := T.g "_law_is_step" (List.mem_of_getElem? (i := 37) rfl)
theorem Txt.g_law_is_chain (T : Txt K mg) : mg "_law_is_chain" = some (.ref (He.fAd K d_law_is_chain.at_)) := T.g "_law_is_chain" (List.mem_of_getElem? (i := 38) rfl)
theorem Txt.g_law_is_way (T : Txt K mg) : mg "_law_is_way" = some (.ref (He.fAd K d_law_is_way.at_)) := T.g "_law_is_way" (List.mem_of_getElem? (i := 39) rfl)
theorem Txt.g_law_is_sum (T : Txt K mg) : mg "_law_is_sum" = some (.ref (He.fAd K d_law_is_sum.at_)) := T.g "_law_is_sum" (List.mem_of_getElem? (i := 40) rfl)
theorem Txt.g_law_with (T : Txt K mg) : mg "_law_with" = some (.ref (He.fAd K d_law_with.at_)) := T.g "_law_with" (List.mem_of_getElem? (i := 41) rfl)
theorem Txt.g_law_is_none (T : Txt K mg) : mg "_law_is_none" = some (.ref (He.fAd K d_law_is_none.at_)) := T.g "_law_is_none" (List.mem_of_getElem? (i := 42) rfl)
theorem Txt.g_law_spoilt (T : Txt K mg) : mg "_law_spoilt" = some (.ref (He.fAd K d_law_spoilt.at_)) := T.g "_law_spoilt" (List.mem_of_getElem? (i := 43) rfl)
theorem Txt.g_law_steps (T : Txt K mg) : mg "_law_steps" = some (.ref (He.fAd K d_law_steps.at_)) := T.g "_law_steps" (List.mem_of_getElem? (i := 44) rfl)
theorem Txt.g_law_refute (T : Txt K mg) : mg "_law_refute" = some (.ref (He.fAd K d_law_refute.at_)) := T.g "_law_refute" (List.mem_of_getElem? (i := 45) rfl)
theorem Txt.g_law_drawn_steps (T : Txt K mg) : mg "_law_drawn_steps" = some (.ref (He.fAd K d_law_drawn_steps.at_)) := T.g "_law_drawn_steps" (List.mem_of_getElem? (i := 46) rfl)
theorem Txt.g_law_drawn_parts (T : Txt K mg) : mg "_law_drawn_parts" = some (.ref (He.fAd K d_law_drawn_parts.at_)) := T.g "_law_drawn_parts" (List.mem_of_getElem? (i := 47) rfl)
theorem Txt.g_law_drawn_paper (T : Txt K mg) : mg "_law_drawn_paper" = some (.ref (He.fAd K d_law_drawn_paper.at_)) := T.g "_law_drawn_paper" (List.mem_of_getElem? (i := 48) rfl)
theorem Txt.g_law_is_sound (T : Txt K mg) : mg "_law_is_sound" = some (.ref (He.fAd K d_law_is_sound.at_)) := T.g "_law_is_sound" (List.mem_of_getElem? (i := 49) rfl)
theorem Txt.g_law (T : Txt K mg) : mg "law" = some (.ref (He.fAd K d_law.at_)) := T.g "law" (List.mem_of_getElem? (i := 50) rfl)
theorem Txt.z_isinstance (T : Txt K mg) : mg "isinstance" = none := T.z "isinstance" (List.mem_of_getElem? (i := 51) rfl)
theorem Txt.z_int (T : Txt K mg) : mg "int" = none := T.z "int" (List.mem_of_getElem? (i := 52) rfl)
theorem Txt.z_bool (T : Txt K mg) : mg "bool" = none := T.z "bool" (List.mem_of_getElem? (i := 53) rfl)
theorem Txt.z_tuple (T : Txt K mg) : mg "tuple" = none := T.z "tuple" (List.mem_of_getElem? (i := 54) rfl)
theorem Txt.z_list (T : Txt K mg) : mg "list" = none := T.z "list" (List.mem_of_getElem? (i := 55) rfl)
theorem Txt.z_str (T : Txt K mg) : mg "str" = none := T.z "str" (List.mem_of_getElem? (i := 56) rfl)
theorem Txt.z_len (T : Txt K mg) : mg "len" = none := T.z "len" (List.mem_of_getElem? (i := 57) rfl)
theorem Txt.z_sorted (T : Txt K mg) : mg "sorted" = none := T.z "sorted" (List.mem_of_getElem? (i := 58) rfl)
theorem Txt.z_enumerate (T : Txt K mg) : mg "enumerate" = none := T.z "enumerate" (List.mem_of_getElem? (i := 59) rfl)
theorem Txt.z_zip (T : Txt K mg) : mg "zip" = none := T.z "zip" (List.mem_of_getElem? (i := 60) rfl)
theorem Txt.z_all (T : Txt K mg) : mg "all" = none := T.z "all" (List.mem_of_getElem? (i := 61) rfl)
theorem Txt.z_any (T : Txt K mg) : mg "any" = none := T.z "any" (List.mem_of_getElem? (i := 62) rfl)
theorem Txt.z_sum (T : Txt K mg) : mg "sum" = none := T.z "sum" (List.mem_of_getElem? (i := 63) rfl)
theorem Txt.z_dict (T : Txt K mg) : mg "dict" = none := T.z "dict" (List.mem_of_getElem? (i := 64) rfl)
theorem Txt.z_range (T : Txt K mg) : mg "range" = none := T.z "range" (List.mem_of_getElem? (i := 65) rfl)
theorem Txt.z_abs (T : Txt K mg) : mg "abs" = none := T.z "abs" (List.mem_of_getElem? (i := 66) rfl)
theorem Txt.i_MOST_PLACES (T : Txt K mg) : ∃ t, mg "MOST_PLACES" = some (.int 4 t) := T.i "MOST_PLACES" 4 (List.mem_of_getElem? (i := 67) rfl)
theorem Txt.i_MOST_RELATIONS (T : Txt K mg) : ∃ t, mg "MOST_RELATIONS" = some (.int 6 t) := T.i "MOST_RELATIONS" 6 (List.mem_of_getElem? (i := 68) rfl)
theorem Txt.g_Relation (T : Txt K mg) : mg "Relation" = some (.ref (He.ga K "Relation")) := T.g "Relation" (List.mem_of_getElem? (i := 69) rfl)
theorem Txt.c_Relation (T : Txt K mg) : Cls K (He.ga K "Relation") := He.cls_ok (T.fact (f := .cls "Relation") (List.mem_of_getElem? (i := 70) rfl))
theorem Txt.m_Relation (T : Txt K mg) : Mk K (He.ga K "Relation") (He.fAd K d_Relation_init.at_) := He.mkr_ok (T.fact (f := .mkr "Relation") (List.mem_of_getElem? (i := 71) rfl))
theorem Txt.n_Relation_size (T : Txt K mg) : NoAttr K (He.ga K "Relation") "size" := He.noat_ok (T.fact (f := .noat "Relation" "size") (List.mem_of_getElem? (i := 72) rfl))
theorem Txt.n_Relation_rows (T : Txt K mg) : NoAttr K (He.ga K "Relation") "rows" := He.noat_ok (T.fact (f := .noat "Relation" "rows") (List.mem_of_getElem? (i := 73) rfl))
theorem Txt.k_Relation (T : Txt K mg) : PySem.W.keepIn K (.ref (He.ga K "Relation")) = true := He.keep_ok (T.fact (f := .keep "Relation") (List.mem_of_getElem? (i := 74) rfl))
theorem Txt.g_Book (T : Txt K mg) : mg "Book" = some (.ref (He.ga K "Book")) := T.g "Book" (List.mem_of_getElem? (i := 75) rfl)
theorem Txt.c_Book (T : Txt K mg) : Cls K (He.ga K "Book") := He.cls_ok (T.fact (f := .cls "Book") (List.mem_of_getElem? (i := 76) rfl))
theorem Txt.m_Book (T : Txt K mg) : Mk K (He.ga K "Book") (He.fAd K d_Book_init.at_) := He.mkr_ok (T.fact (f := .mkr "Book") (List.mem_of_getElem? (i := 77) rfl))
theorem Txt.n_Book_relations (T : Txt K mg) : NoAttr K (He.ga K "Book") "relations" := He.noat_ok (T.fact (f := .noat "Book" "relations") (List.mem_of_getElem? (i := 78) rfl))
theorem Txt.n_Book_plain (T : Txt K mg) : NoAttr K (He.ga K "Book") "plain" := He.noat_ok (T.fact (f := .noat "Book" "plain") (List.mem_of_getElem? (i := 79) rfl))
theorem Txt.k_Book (T : Txt K mg) : PySem.W.keepIn K (.ref (He.ga K "Book")) = true := He.keep_ok (T.fact (f := .keep "Book") (List.mem_of_getElem? (i := 80) rfl))
theorem Txt.g_Puzzle (T : Txt K mg) : mg "Puzzle" = some (.ref (He.ga K "Puzzle")) := T.g "Puzzle" (List.mem_of_getElem? (i := 81) rfl)
theorem Txt.c_Puzzle (T : Txt K mg) : Cls K (He.ga K "Puzzle") := He.cls_ok (T.fact (f := .cls "Puzzle") (List.mem_of_getElem? (i := 82) rfl))
theorem Txt.m_Puzzle (T : Txt K mg) : Mk K (He.ga K "Puzzle") (He.fAd K d_Puzzle_init.at_) := He.mkr_ok (T.fact (f := .mkr "Puzzle") (List.mem_of_getElem? (i := 83) rfl))
theorem Txt.n_Puzzle_book (T : Txt K mg) : NoAttr K (He.ga K "Puzzle") "book" := He.noat_ok (T.fact (f := .noat "Puzzle" "book") (List.mem_of_getElem? (i := 84) rfl))
theorem Txt.n_Puzzle_cell_count (T : Txt K mg) : NoAttr K (He.ga K "Puzzle") "cell_count" := He.noat_ok (T.fact (f := .noat "Puzzle" "cell_count") (List.mem_of_getElem? (i := 85) rfl))
theorem Txt.n_Puzzle_ties (T : Txt K mg) : NoAttr K (He.ga K "Puzzle") "ties" := He.noat_ok (T.fact (f := .noat "Puzzle" "ties") (List.mem_of_getElem? (i := 86) rfl))
theorem Txt.k_Puzzle (T : Txt K mg) : PySem.W.keepIn K (.ref (He.ga K "Puzzle")) = true := He.keep_ok (T.fact (f := .keep "Puzzle") (List.mem_of_getElem? (i := 87) rfl))
theorem Txt.h_Book_len (T : Txt K mg) : Meth K (He.ga K "Book") "__len__" (He.fAd K d_Book_len.at_) := He.meth_ok (T.fact (f := .meth "Book" "__len__") (List.mem_of_getElem? (i := 88) rfl))
theorem sc_is_below : FnScope ["value", "limit"] ["value", "limit"] (defScope s_is_below) := ⟨rfl, rfl, rfl, by decide +kernel, rfl, by decide +kernel, by decide +kernel⟩
theorem Txt.F_is_below (T : Txt K mg) : FunD K "is_below" "is_below" (defArgs s_is_below) (defBody s_is_below) (defScope s_is_below) [] [] (He.fAd K d_is_below.at_) (fdO K d_is_below) := T.fn (d := d_is_below) (List.mem_of_getElem? (i := 0) rfl)
theorem Txt.b_is_below (T : Txt K mg) : Binds K (fdO K d_is_below) ["value", "limit"] [] := T.F_is_below.bindsN fun _ _ _ _ _ _ us hl => match us, hl with | [_, _], _ => rfl
theorem sc_is_row : FnScope ["value", "size", "one"] ["value", "size"] (defScope s_is_row) := ⟨rfl, rfl, rfl, by decide +kernel, rfl, by decide +kernel, by decide +kernel⟩
theorem Txt.F_is_row (T : Txt K mg) : FunD K "is_row" "is_row" (defArgs s_is_row) (defBody s_is_row) (defScope s_is_row) [] [] (He.fAd K d_is_row.at_) (fdO K d_is_row) := T.fn (d := d_is_row) (List.mem_of_getElem? (i := 1) rfl)
theorem Txt.b_is_row (T : Txt K mg) : Binds K (fdO K d_is_row) ["value", "size"] [] := T.F_is_row.bindsN fun _ _ _ _ _ _ us hl => match us, hl with | [_, _], _ => rfl
theorem sc_are_rows : FnScope ["rows", "size", "row"] ["rows", "size"] (defScope s_are_rows) := ⟨rfl, rfl, rfl, by decide +kernel, rfl, by decide +kernel, by decide +kernel⟩
theorem Txt.F_are_rows (T : Txt K mg) : FunD K "are_rows" "are_rows" (defArgs s_are_rows) (defBody s_are_rows) (defScope s_are_rows) [] [] (He.fAd K d_are_rows.at_) (fdO K d_are_rows) := T.fn (d := d_are_rows) (List.mem_of_getElem? (i := 2) rfl)
theorem Txt.b_are_rows (T : Txt K mg) : Binds K (fdO K d_are_rows) ["rows", "size"] [] := T.F_are_rows.bindsN fun _ _ _ _ _ _ us hl => match us, hl with | [_, _], _ => rfl
theorem sc_Relation_init : FnScope ["self", "size", "rows", "row"] ["self", "size", "rows"] (defScope s_Relation_init) := ⟨rfl, rfl, rfl, by decide +kernel, rfl, by decide +kernel, by decide +kernel⟩
theorem Txt.F_Relation_init (T : Txt K mg) : FunD K "__init__" "Relation.__init__" (defArgs s_Relation_init) (defBody s_Relation_init) (defScope s_Relation_init) [] [] (He.fAd K d_Relation_init.at_) (fdO K d_Relation_init) := T.fn (d := d_Relation_init) (List.mem_of_getElem? (i := 3) rfl)
theorem Txt.b_Relation_init (T : Txt K mg) : Binds K (fdO K d_Relation_init) ["self", "size", "rows"] [] := T.F_Relation_init.bindsN fun _ _ _ _ _ _ us hl => match us, hl with | [_, _, _], _ => rfl
theorem sc_are_relations : FnScope ["relations", "relation"] ["relations"] (defScope s_are_relations) := ⟨rfl, rfl, rfl, by decide +kernel, rfl, by decide +kernel, by decide +kernel⟩
theorem Txt.F_are_relations (T : Txt K mg) : FunD K "are_relations" "are_relations" (defArgs s_are_relations) (defBody s_are_relations) (defScope s_are_relations) [] [] (He.fAd K d_are_relations.at_) (fdO K d_are_relations) := T.fn (d := d_are_relations) (List.mem_of_getElem? (i := 4) rfl)
theorem Txt.b_are_relations (T : Txt K mg) : Binds K (fdO K d_are_relations) ["relations"] [] := T.F_are_relations.bindsN fun _ _ _ _ _ _ us hl => match us, hl with | [_], _ => rfl
theorem sc_Book_init : FnScope ["self", "relations", "relation"] ["self", "relations"] (defScope s_Book_init) := ⟨rfl, rfl, rfl, by decide +kernel, rfl, by decide +kernel, by decide +kernel⟩
theorem Txt.F_Book_init (T : Txt K mg) : FunD K "__init__" "Book.__init__" (defArgs s_Book_init) (defBody s_Book_init) (defScope s_Book_init) [] [] (He.fAd K d_Book_init.at_) (fdO K d_Book_init) := T.fn (d := d_Book_init) (List.mem_of_getElem? (i := 5) rfl)
theorem Txt.b_Book_init (T : Txt K mg) : Binds K (fdO K d_Book_init) ["self", "relations"] [] := T.F_Book_init.bindsN fun _ _ _ _ _ _ us hl => match us, hl with | [_, _], _ => rfl
theorem sc_Book_len : FnScope ["self"] ["self"] (defScope s_Book_len) := ⟨rfl, rfl, rfl, by decide +kernel, rfl, by decide +kernel, by decide +kernel⟩
theorem Txt.F_Book_len (T : Txt K mg) : FunD K "__len__" "Book.__len__" (defArgs s_Book_len) (defBody s_Book_len) (defScope s_Book_len) [] [] (He.fAd K d_Book_len.at_) (fdO K d_Book_len) := T.fn (d := d_Book_len) (List.mem_of_getElem? (i := 6) rfl)
theorem Txt.b_Book_len (T : Txt K mg) : Binds K (fdO K d_Book_len) ["self"] [] := T.F_Book_len.bindsN fun _ _ _ _ _ _ us hl => match us, hl with | [_], _ => rfl
theorem sc_are_cells : FnScope ["value", "count", "cell_count", "cell"] ["value", "count", "cell_count"] (defScope s_are_cells) := ⟨rfl, rfl, rfl, by decide +kernel, rfl, by decide +kernel, by decide +kernel⟩
theorem Txt.F_are_cells (T : Txt K mg) : FunD K "are_cells" "are_cells" (defArgs s_are_cells) (defBody s_are_cells) (defScope s_are_cells) [] [] (He.fAd K d_are_cells.at_) (fdO K d_are_cells) := T.fn (d := d_are_cells) (List.mem_of_getElem? (i := 7) rfl)
theorem Txt.b_are_cells (T : Txt K mg) : Binds K (fdO K d_are_cells) ["value", "count", "cell_count"] [] := T.F_are_cells.bindsN fun _ _ _ _ _ _ us hl => match us, hl with | [_, _, _], _ => rfl
theorem sc_is_tie : FnScope ["book", "cell_count", "value"] ["book", "cell_count", "value"] (defScope s_is_tie) := ⟨rfl, rfl, rfl, by decide +kernel, rfl, by decide +kernel, by decide +kernel⟩
theorem Txt.F_is_tie (T : Txt K mg) : FunD K "is_tie" "is_tie" (defArgs s_is_tie) (defBody s_is_tie) (defScope s_is_tie) [] [] (He.fAd K d_is_tie.at_) (fdO K d_is_tie) := T.fn (d := d_is_tie) (List.mem_of_getElem? (i := 8) rfl)
theorem Txt.b_is_tie (T : Txt K mg) : Binds K (fdO K d_is_tie) ["book", "cell_count", "value"] [] := T.F_is_tie.bindsN fun _ _ _ _ _ _ us hl => match us, hl with | [_, _, _], _ => rfl
theorem sc_Puzzle_init : FnScope ["self", "book", "cell_count", "ties", "t", "tie"] ["self", "book", "cell_count", "ties"] (defScope s_Puzzle_init) := ⟨rfl, rfl, rfl, by decide +kernel, rfl, by decide +kernel, by decide +kernel⟩
theorem Txt.F_Puzzle_init (T : Txt K mg) : FunD K "__init__" "Puzzle.__init__" (defArgs s_Puzzle_init) (defBody s_Puzzle_init) (defScope s_Puzzle_init) [] [] (He.fAd K d_Puzzle_init.at_) (fdO K d_Puzzle_init) := T.fn (d := d_Puzzle_init) (List.mem_of_getElem? (i := 9) rfl)
theorem Txt.b_Puzzle_init (T : Txt K mg) : Binds K (fdO K d_Puzzle_init) ["self", "book", "cell_count", "ties"] [] := T.F_Puzzle_init.bindsN fun _ _ _ _ _ _ us hl => match us, hl with | [_, _, _, _], _ => rfl
theorem sc_is_start : FnScope ["puzzle", "value", "least", "pair"] ["puzzle", "value"] (defScope s_is_start) := ⟨rfl, rfl, rfl, by decide +kernel, rfl, by decide +kernel, by decide +kernel⟩
theorem Txt.F_is_start (T : Txt K mg) : FunD K "is_start" "is_start" (defArgs s_is_start) (defBody s_is_start) (defScope s_is_start) [] [] (He.fAd K d_is_start.at_) (fdO K d_is_start) := T.fn (d := d_is_start) (List.mem_of_getElem? (i := 10) rfl)
theorem Txt.b_is_start (T : Txt K mg) : Binds K (fdO K d_is_start) ["puzzle", "value"] [] := T.F_is_start.bindsN fun _ _ _ _ _ _ us hl => match us, hl with | [_, _], _ => rfl
theorem sc_seen_rows : FnScope ["puzzle", "t", "fixed", "relation", "cells", "found", "row", "values", "cell", "value"] ["puzzle", "t", "fixed"] (defScope s_seen_rows) := ⟨rfl, rfl, rfl, by decide +kernel, rfl, by decide +kernel, by decide +kernel⟩
theorem Txt.F_seen_rows (T : Txt K mg) : FunD K "seen_rows" "seen_rows" (defArgs s_seen_rows) (defBody s_seen_rows) (defScope s_seen_rows) [] [] (He.fAd K d_seen_rows.at_) (fdO K d_seen_rows) := T.fn (d := d_seen_rows) (List.mem_of_getElem? (i := 11) rfl)
theorem Txt.b_seen_rows (T : Txt K mg) : Binds K (fdO K d_seen_rows) ["puzzle", "t", "fixed"] [] := T.F_seen_rows.bindsN fun _ _ _ _ _ _ us hl => match us, hl with | [_, _, _], _ => rfl
theorem sc_is_number_below : FnScope ["value", "bound"] ["value", "bound"] (defScope s_is_number_below) := ⟨rfl, rfl, rfl, by decide +kernel, rfl, by decide +kernel, by decide +kernel⟩
theorem Txt.F_is_number_below (T : Txt K mg) : FunD K "is_number_below" "is_number_below" (defArgs s_is_number_below) (defBody s_is_number_below) (defScope s_is_number_below) [] [] (He.fAd K d_is_number_below.at_) (fdO K d_is_number_below) := T.fn (d := d_is_number_below) (List.mem_of_getElem? (i := 12) rfl)
theorem Txt.b_is_number_below (T : Txt K mg) : Binds K (fdO K d_is_number_below) ["value", "bound"] [] := T.F_is_number_below.bindsN fun _ _ _ _ _ _ us hl => match us, hl with | [_, _], _ => rfl
theorem sc_are_triples : FnScope ["value", "one"] ["value"] (defScope s_are_triples) := ⟨rfl, rfl, rfl, by decide +kernel, rfl, by decide +kernel, by decide +kernel⟩
theorem Txt.F_are_triples (T : Txt K mg) : FunD K "are_triples" "are_triples" (defArgs s_are_triples) (defBody s_are_triples) (defScope s_are_triples) [] [] (He.fAd K d_are_triples.at_) (fdO K d_are_triples) := T.fn (d := d_are_triples) (List.mem_of_getElem? (i := 13) rfl)
theorem Txt.b_are_triples (T : Txt K mg) : Binds K (fdO K d_are_triples) ["value"] [] := T.F_are_triples.bindsN fun _ _ _ _ _ _ us hl => match us, hl with | [_], _ => rfl
theorem sc_cells_of : FnScope ["puzzle", "t"] ["puzzle", "t"] (defScope s_cells_of) := ⟨rfl, rfl, rfl, by decide +kernel, rfl, by decide +kernel, by decide +kernel⟩
theorem Txt.F_cells_of (T : Txt K mg) : FunD K "cells_of" "cells_of" (defArgs s_cells_of) (defBody s_cells_of) (defScope s_cells_of) [] [] (He.fAd K d_cells_of.at_) (fdO K d_cells_of) := T.fn (d := d_cells_of) (List.mem_of_getElem? (i := 14) rfl)
theorem Txt.b_cells_of (T : Txt K mg) : Binds K (fdO K d_cells_of) ["puzzle", "t"] [] := T.F_cells_of.bindsN fun _ _ _ _ _ _ us hl => match us, hl with | [_, _], _ => rfl
theorem sc_is_step : FnScope ["puzzle", "step", "t", "cell", "value"] ["puzzle", "step"] (defScope s_is_step) := ⟨rfl, rfl, rfl, by decide +kernel, rfl, by decide +kernel, by decide +kernel⟩
theorem Txt.F_is_step (T : Txt K mg) : FunD K "is_step" "is_step" (defArgs s_is_step) (defBody s_is_step) (defScope s_is_step) [] [] (He.fAd K d_is_step.at_) (fdO K d_is_step) := T.fn (d := d_is_step) (List.mem_of_getElem? (i := 15) rfl)
theorem Txt.b_is_step (T : Txt K mg) : Binds K (fdO K d_is_step) ["puzzle", "step"] [] := T.F_is_step.bindsN fun _ _ _ _ _ _ us hl => match us, hl with | [_, _], _ => rfl
theorem sc_chain_holds : FnScope ["puzzle", "fixed", "steps", "t", "step", "place", "rows", "row"] ["puzzle", "fixed", "steps", "t"] (defScope s_chain_holds) := ⟨rfl, rfl, rfl, by decide +kernel, rfl, by decide +kernel, by decide +kernel⟩
theorem Txt.F_chain_holds (T : Txt K mg) : FunD K "chain_holds" "chain_holds" (defArgs s_chain_holds) (defBody s_chain_holds) (defScope s_chain_holds) [] [] (He.fAd K d_chain_holds.at_) (fdO K d_chain_holds) := T.fn (d := d_chain_holds) (List.mem_of_getElem? (i := 16) rfl)
theorem Txt.b_chain_holds (T : Txt K mg) : Binds K (fdO K d_chain_holds) ["puzzle", "fixed", "steps", "t"] [] := T.F_chain_holds.bindsN fun _ _ _ _ _ _ us hl => match us, hl with | [_, _, _, _], _ => rfl
theorem sc_way_holds : FnScope ["puzzle", "fixed", "cell", "value", "steps", "at", "worth", "step", "cells", "first", "other", "rows", "row"] ["puzzle", "fixed", "cell", "value", "steps"] (defScope s_way_holds) := ⟨rfl, rfl, rfl, by decide +kernel, rfl, by decide +kernel, by decide +kernel⟩
theorem Txt.F_way_holds (T : Txt K mg) : FunD K "way_holds" "way_holds" (defArgs s_way_holds) (defBody s_way_holds) (defScope s_way_holds) [] [] (He.fAd K d_way_holds.at_) (fdO K d_way_holds) := T.fn (d := d_way_holds) (List.mem_of_getElem? (i := 17) rfl)
theorem Txt.b_way_holds (T : Txt K mg) : Binds K (fdO K d_way_holds) ["puzzle", "fixed", "cell", "value", "steps"] [] := T.F_way_holds.bindsN fun _ _ _ _ _ _ us hl => match us, hl with | [_, _, _, _, _], _ => rfl
theorem sc_ring_holds : FnScope ["puzzle", "fixed", "cell", "there", "back"] ["puzzle", "fixed", "cell", "there", "back"] (defScope s_ring_holds) := ⟨rfl, rfl, rfl, by decide +kernel, rfl, by decide +kernel, by decide +kernel⟩
theorem Txt.F_ring_holds (T : Txt K mg) : FunD K "ring_holds" "ring_holds" (defArgs s_ring_holds) (defBody s_ring_holds) (defScope s_ring_holds) [] [] (He.fAd K d_ring_holds.at_) (fdO K d_ring_holds) := T.fn (d := d_ring_holds) (List.mem_of_getElem? (i := 18) rfl)
theorem Txt.b_ring_holds (T : Txt K mg) : Binds K (fdO K d_ring_holds) ["puzzle", "fixed", "cell", "there", "back"] [] := T.F_ring_holds.bindsN fun _ _ _ _ _ _ us hl => match us, hl with | [_, _, _, _, _], _ => rfl
theorem sc_is_part : FnScope ["puzzle", "fixed", "part", "t", "cells", "bit", "own", "at", "cell", "places", "row", "place"] ["puzzle", "fixed", "part"] (defScope s_is_part) := ⟨rfl, rfl, rfl, by decide +kernel, rfl, by decide +kernel, by decide +kernel⟩
theorem Txt.F_is_part (T : Txt K mg) : FunD K "is_part" "is_part" (defArgs s_is_part) (defBody s_is_part) (defScope s_is_part) [] [] (He.fAd K d_is_part.at_) (fdO K d_is_part) := T.fn (d := d_is_part) (List.mem_of_getElem? (i := 19) rfl)
theorem Txt.b_is_part (T : Txt K mg) : Binds K (fdO K d_is_part) ["puzzle", "fixed", "part"] [] := T.F_is_part.bindsN fun _ _ _ _ _ _ us hl => match us, hl with | [_, _, _], _ => rfl
theorem sc_sum_holds : FnScope ["puzzle", "fixed", "parts", "left", "bits", "part", "cell"] ["puzzle", "fixed", "parts"] (defScope s_sum_holds) := ⟨rfl, rfl, rfl, by decide +kernel, rfl, by decide +kernel, by decide +kernel⟩
theorem Txt.F_sum_holds (T : Txt K mg) : FunD K "sum_holds" "sum_holds" (defArgs s_sum_holds) (defBody s_sum_holds) (defScope s_sum_holds) [] [] (He.fAd K d_sum_holds.at_) (fdO K d_sum_holds) := T.fn (d := d_sum_holds) (List.mem_of_getElem? (i := 20) rfl)
theorem Txt.b_sum_holds (T : Txt K mg) : Binds K (fdO K d_sum_holds) ["puzzle", "fixed", "parts"] [] := T.F_sum_holds.bindsN fun _ _ _ _ _ _ us hl => match us, hl with | [_, _, _], _ => rfl
theorem sc_leaf_holds : FnScope ["puzzle", "fixed", "paper"] ["puzzle", "fixed", "paper"] (defScope s_leaf_holds) := ⟨rfl, rfl, rfl, by decide +kernel, rfl, by decide +kernel, by decide +kernel⟩
theorem Txt.F_leaf_holds (T : Txt K mg) : FunD K "leaf_holds" "leaf_holds" (defArgs s_leaf_holds) (defBody s_leaf_holds) (defScope s_leaf_holds) [] [] (He.fAd K d_leaf_holds.at_) (fdO K d_leaf_holds) := T.fn (d := d_leaf_holds) (List.mem_of_getElem? (i := 21) rfl)
theorem Txt.b_leaf_holds (T : Txt K mg) : Binds K (fdO K d_leaf_holds) ["puzzle", "fixed", "paper"] [] := T.F_leaf_holds.bindsN fun _ _ _ _ _ _ us hl => match us, hl with | [_, _, _], _ => rfl
theorem sc_is_split : FnScope ["puzzle", "fixed", "paper"] ["puzzle", "fixed", "paper"] (defScope s_is_split) := ⟨rfl, rfl, rfl, by decide +kernel, rfl, by decide +kernel, by decide +kernel⟩
theorem Txt.F_is_split (T : Txt K mg) : FunD K "is_split" "is_split" (defArgs s_is_split) (defBody s_is_split) (defScope s_is_split) [] [] (He.fAd K d_is_split.at_) (fdO K d_is_split) := T.fn (d := d_is_split) (List.mem_of_getElem? (i := 22) rfl)
theorem Txt.b_is_split (T : Txt K mg) : Binds K (fdO K d_is_split) ["puzzle", "fixed", "paper"] [] := T.F_is_split.bindsN fun _ _ _ _ _ _ us hl => match us, hl with | [_, _, _], _ => rfl
theorem sc_with_cell : FnScope ["fixed", "cell", "value", "longer"] ["fixed", "cell", "value"] (defScope s_with_cell) := ⟨rfl, rfl, rfl, by decide +kernel, rfl, by decide +kernel, by decide +kernel⟩
theorem Txt.F_with_cell (T : Txt K mg) : FunD K "with_cell" "with_cell" (defArgs s_with_cell) (defBody s_with_cell) (defScope s_with_cell) [] [] (He.fAd K d_with_cell.at_) (fdO K d_with_cell) := T.fn (d := d_with_cell) (List.mem_of_getElem? (i := 23) rfl)
theorem Txt.b_with_cell (T : Txt K mg) : Binds K (fdO K d_with_cell) ["fixed", "cell", "value"] [] := T.F_with_cell.bindsN fun _ _ _ _ _ _ us hl => match us, hl with | [_, _, _], _ => rfl
theorem sc_none_holds : FnScope ["puzzle", "start", "paper", "waiting", "fixed", "one"] ["puzzle", "start", "paper"] (defScope s_none_holds) := ⟨rfl, rfl, rfl, by decide +kernel, rfl, by decide +kernel, by decide +kernel⟩
theorem Txt.F_none_holds (T : Txt K mg) : FunD K "none_holds" "none_holds" (defArgs s_none_holds) (defBody s_none_holds) (defScope s_none_holds) [] [] (He.fAd K d_none_holds.at_) (fdO K d_none_holds) := T.fn (d := d_none_holds) (List.mem_of_getElem? (i := 24) rfl)
theorem Txt.b_none_holds (T : Txt K mg) : Binds K (fdO K d_none_holds) ["puzzle", "start", "paper"] [] := T.F_none_holds.bindsN fun _ _ _ _ _ _ us hl => match us, hl with | [_, _, _], _ => rfl
theorem sc_law_draws : FnScope ["_law_script", "_law_many", "_law_rests", "_law_draws_here", "_law_k", "_law_cell", "_law_at", "_law_mixed"] ["_law_script", "_law_many"] (defScope s_law_draws) := ⟨rfl, rfl, rfl, by decide +kernel, rfl, by decide +kernel, by decide +kernel⟩
theorem Txt.F_law_draws (T : Txt K mg) : FunD K "_law_draws" "_law_draws" (defArgs s_law_draws) (defBody s_law_draws) (defScope s_law_draws) [] [] (He.fAd K d_law_draws.at_) (fdO K d_law_draws) := T.fn (d := d_law_draws) (List.mem_of_getElem? (i := 25) rfl)
theorem Txt.b_law_draws (T : Txt K mg) : Binds K (fdO K d_law_draws) ["_law_script", "_law_many"] [] := T.F_law_draws.bindsN fun _ _ _ _ _ _ us hl => match us, hl with | [_, _], _ => rfl
theorem sc_law_take : FnScope ["_law_hand", "_law_many", "_law_at", "_law_draws_here"] ["_law_hand", "_law_many"] (defScope s_law_take) := ⟨rfl, rfl, rfl, by decide +kernel, rfl, by decide +kernel, by decide +kernel⟩
theorem Txt.F_law_take (T : Txt K mg) : FunD K "_law_take" "_law_take" (defArgs s_law_take) (defBody s_law_take) (defScope s_law_take) [] [] (He.fAd K d_law_take.at_) (fdO K d_law_take) := T.fn (d := d_law_take) (List.mem_of_getElem? (i := 26) rfl)
theorem Txt.b_law_take (T : Txt K mg) : Binds K (fdO K d_law_take) ["_law_hand", "_law_many"] [] := T.F_law_take.bindsN fun _ _ _ _ _ _ us hl => match us, hl with | [_, _], _ => rfl
theorem sc_law_all_rows : FnScope ["_law_many", "_law_rows", "_law_k", "_law_longer", "_law_row"] ["_law_many"] (defScope s_law_all_rows) := ⟨rfl, rfl, rfl, by decide +kernel, rfl, by decide +kernel, by decide +kernel⟩
theorem Txt.F_law_all_rows (T : Txt K mg) : FunD K "_law_all_rows" "_law_all_rows" (defArgs s_law_all_rows) (defBody s_law_all_rows) (defScope s_law_all_rows) [] [] (He.fAd K d_law_all_rows.at_) (fdO K d_law_all_rows) := T.fn (d := d_law_all_rows) (List.mem_of_getElem? (i := 27) rfl)
theorem Txt.b_law_all_rows (T : Txt K mg) : Binds K (fdO K d_law_all_rows) ["_law_many"] [] := T.F_law_all_rows.bindsN fun _ _ _ _ _ _ us hl => match us, hl with | [_], _ => rfl
theorem sc_law_table : FnScope ["_law_word", "_law_tables"] ["_law_word"] (defScope s_law_table) := ⟨rfl, rfl, rfl, by decide +kernel, rfl, by decide +kernel, by decide +kernel⟩
theorem Txt.F_law_table (T : Txt K mg) : FunD K "_law_table" "_law_table" (defArgs s_law_table) (defBody s_law_table) (defScope s_law_table) [] [] (He.fAd K d_law_table.at_) (fdO K d_law_table) := T.fn (d := d_law_table) (List.mem_of_getElem? (i := 28) rfl)
theorem Txt.b_law_table (T : Txt K mg) : Binds K (fdO K d_law_table) ["_law_word"] [] := T.F_law_table.bindsN fun _ _ _ _ _ _ us hl => match us, hl with | [_], _ => rfl
theorem sc_law_made : FnScope ["_law_table_here", "_law_rows", "_law_x", "_law_y", "_law_z"] ["_law_table_here", "_law_rows"] (defScope s_law_made) := ⟨rfl, rfl, rfl, by decide +kernel, rfl, by decide +kernel, by decide +kernel⟩
theorem Txt.F_law_made (T : Txt K mg) : FunD K "_law_made" "_law_made" (defArgs s_law_made) (defBody s_law_made) (defScope s_law_made) [] [] (He.fAd K d_law_made.at_) (fdO K d_law_made) := T.fn (d := d_law_made) (List.mem_of_getElem? (i := 29) rfl)
theorem Txt.b_law_made (T : Txt K mg) : Binds K (fdO K d_law_made) ["_law_table_here", "_law_rows"] [] := T.F_law_made.bindsN fun _ _ _ _ _ _ us hl => match us, hl with | [_, _], _ => rfl
theorem sc_law_chosen : FnScope ["_law_rows", "_law_table_here", "_law_chosen_here", "_law_k", "_law_longer", "_law_some", "_law_row"] ["_law_rows", "_law_table_here"] (defScope s_law_chosen) := ⟨rfl, rfl, rfl, by decide +kernel, rfl, by decide +kernel, by decide +kernel⟩
theorem Txt.F_law_chosen (T : Txt K mg) : FunD K "_law_chosen" "_law_chosen" (defArgs s_law_chosen) (defBody s_law_chosen) (defScope s_law_chosen) [] [] (He.fAd K d_law_chosen.at_) (fdO K d_law_chosen) := T.fn (d := d_law_chosen) (List.mem_of_getElem? (i := 30) rfl)
theorem Txt.b_law_chosen (T : Txt K mg) : Binds K (fdO K d_law_chosen) ["_law_rows", "_law_table_here"] [] := T.F_law_chosen.bindsN fun _ _ _ _ _ _ us hl => match us, hl with | [_, _], _ => rfl
theorem sc_law_closed : FnScope ["_law_rows", "_law_table_here", "_law_found", "_law_known", "_law_every", "_law_turn", "_law_more", "_law_some", "_law_row", "_law_k"] ["_law_rows", "_law_table_here"] (defScope s_law_closed) := ⟨rfl, rfl, rfl, by decide +kernel, rfl, by decide +kernel, by decide +kernel⟩
theorem Txt.F_law_closed (T : Txt K mg) : FunD K "_law_closed" "_law_closed" (defArgs s_law_closed) (defBody s_law_closed) (defScope s_law_closed) [] [] (He.fAd K d_law_closed.at_) (fdO K d_law_closed) := T.fn (d := d_law_closed) (List.mem_of_getElem? (i := 31) rfl)
theorem Txt.b_law_closed (T : Txt K mg) : Binds K (fdO K d_law_closed) ["_law_rows", "_law_table_here"] [] := T.F_law_closed.bindsN fun _ _ _ _ _ _ us hl => match us, hl with | [_, _], _ => rfl
theorem sc_law_relation : FnScope ["_law_hand", "_law_word", "_law_size", "_law_every", "_law_rows", "_law_k", "_law_row"] ["_law_hand", "_law_word"] (defScope s_law_relation) := ⟨rfl, rfl, rfl, by decide +kernel, rfl, by decide +kernel, by decide +kernel⟩
theorem Txt.F_law_relation (T : Txt K mg) : FunD K "_law_relation" "_law_relation" (defArgs s_law_relation) (defBody s_law_relation) (defScope s_law_relation) [] [] (He.fAd K d_law_relation.at_) (fdO K d_law_relation) := T.fn (d := d_law_relation) (List.mem_of_getElem? (i := 32) rfl)
theorem Txt.b_law_relation (T : Txt K mg) : Binds K (fdO K d_law_relation) ["_law_hand", "_law_word"] [] := T.F_law_relation.bindsN fun _ _ _ _ _ _ us hl => match us, hl with | [_, _], _ => rfl
theorem sc_law_book : FnScope ["_law_hand", "_law_word", "_law_k"] ["_law_hand", "_law_word"] (defScope s_law_book) := ⟨rfl, rfl, rfl, by decide +kernel, rfl, by decide +kernel, by decide +kernel⟩
theorem Txt.F_law_book (T : Txt K mg) : FunD K "_law_book" "_law_book" (defArgs s_law_book) (defBody s_law_book) (defScope s_law_book) [] [] (He.fAd K d_law_book.at_) (fdO K d_law_book) := T.fn (d := d_law_book) (List.mem_of_getElem? (i := 33) rfl)
theorem Txt.b_law_book (T : Txt K mg) : Binds K (fdO K d_law_book) ["_law_hand", "_law_word"] [] := T.F_law_book.bindsN fun _ _ _ _ _ _ us hl => match us, hl with | [_, _], _ => rfl
theorem sc_law_ties : FnScope ["_law_hand", "_law_book_here", "_law_cells", "_law_many", "_law_ties_here", "_law_k", "_law_number", "_law_place"] ["_law_hand", "_law_book_here", "_law_cells", "_law_many"] (defScope s_law_ties) := ⟨rfl, rfl, rfl, by decide +kernel, rfl, by decide +kernel, by decide +kernel⟩
theorem Txt.F_law_ties (T : Txt K mg) : FunD K "_law_ties" "_law_ties" (defArgs s_law_ties) (defBody s_law_ties) (defScope s_law_ties) [] [] (He.fAd K d_law_ties.at_) (fdO K d_law_ties) := T.fn (d := d_law_ties) (List.mem_of_getElem? (i := 34) rfl)
theorem Txt.b_law_ties (T : Txt K mg) : Binds K (fdO K d_law_ties) ["_law_hand", "_law_book_here", "_law_cells", "_law_many"] [] := T.F_law_ties.bindsN fun _ _ _ _ _ _ us hl => match us, hl with | [_, _, _, _], _ => rfl
theorem sc_law_start : FnScope ["_law_hand", "_law_cells", "_law_share", "_law_start_here", "_law_cell"] ["_law_hand", "_law_cells", "_law_share"] (defScope s_law_start) := ⟨rfl, rfl, rfl, by decide +kernel, rfl, by decide +kernel, by decide +kernel⟩
theorem Txt.F_law_start (T : Txt K mg) : FunD K "_law_start" "_law_start" (defArgs s_law_start) (defBody s_law_start) (defScope s_law_start) [] [] (He.fAd K d_law_start.at_) (fdO K d_law_start) := T.fn (d := d_law_start) (List.mem_of_getElem? (i := 35) rfl)
theorem Txt.b_law_start (T : Txt K mg) : Binds K (fdO K d_law_start) ["_law_hand", "_law_cells", "_law_share"] [] := T.F_law_start.bindsN fun _ _ _ _ _ _ us hl => match us, hl with | [_, _, _], _ => rfl
theorem sc_law_puzzle : FnScope ["_law_book_here", "_law_cells", "_law_ties_here", "_law_one"] ["_law_book_here", "_law_cells", "_law_ties_here"] (defScope s_law_puzzle) := ⟨rfl, rfl, rfl, by decide +kernel, rfl, by decide +kernel, by decide +kernel⟩
theorem Txt.F_law_puzzle (T : Txt K mg) : FunD K "_law_puzzle" "_law_puzzle" (defArgs s_law_puzzle) (defBody s_law_puzzle) (defScope s_law_puzzle) [] [] (He.fAd K d_law_puzzle.at_) (fdO K d_law_puzzle) := T.fn (d := d_law_puzzle) (List.mem_of_getElem? (i := 36) rfl)
theorem Txt.b_law_puzzle (T : Txt K mg) : Binds K (fdO K d_law_puzzle) ["_law_book_here", "_law_cells", "_law_ties_here"] [] := T.F_law_puzzle.bindsN fun _ _ _ _ _ _ us hl => match us, hl with | [_, _, _], _ => rfl
theorem sc_law_views : FnScope ["_law_book_here", "_law_tie", "_law_fixed", "_law_found", "_law_row", "_law_seen", "_law_cell", "_law_value"] ["_law_book_here", "_law_tie", "_law_fixed"] (defScope s_law_views) := ⟨rfl, rfl, rfl, by decide +kernel, rfl, by decide +kernel, by decide +kernel⟩
theorem Txt.F_law_views (T : Txt K mg) : FunD K "_law_views" "_law_views" (defArgs s_law_views) (defBody s_law_views) (defScope s_law_views) [] [] (He.fAd K d_law_views.at_) (fdO K d_law_views) := T.fn (d := d_law_views) (List.mem_of_getElem? (i := 37) rfl)
theorem Txt.b_law_views (T : Txt K mg) : Binds K (fdO K d_law_views) ["_law_book_here", "_law_tie", "_law_fixed"] [] := T.F_law_views.bindsN fun _ _ _ _ _ _ us hl => match us, hl with | [_, _, _], _ => rfl
theorem sc_law_fillings : FnScope ["_law_book_here", "_law_cells", "_law_ties_here", "_law_start_here", "_law_found", "_law_row", "_law_good", "_law_number", "_law_places", "_law_cell", "_law_value"] ["_law_book_here", "_law_cells", "_law_ties_here", "_law_start_here"] (defScope s_law_fillings) := ⟨rfl, rfl, rfl, by decide +kernel, rfl, by decide +kernel, by decide +kernel⟩
theorem Txt.F_law_fillings (T : Txt K mg) : FunD K "_law_fillings" "_law_fillings" (defArgs s_law_fillings) (defBody s_law_fillings) (defScope s_law_fillings) [] [] (He.fAd K d_law_fillings.at_) (fdO K d_law_fillings) := T.fn (d := d_law_fillings) (List.mem_of_getElem? (i := 38) rfl)
theorem Txt.b_law_fillings (T : Txt K mg) : Binds K (fdO K d_law_fillings) ["_law_book_here", "_law_cells", "_law_ties_here", "_law_start_here"] [] := T.F_law_fillings.bindsN fun _ _ _ _ _ _ us hl => match us, hl with | [_, _, _, _], _ => rfl
theorem sc_law_is_number : FnScope ["_law_value", "_law_most"] ["_law_value", "_law_most"] (defScope s_law_is_number) := ⟨rfl, rfl, rfl, by decide +kernel, rfl, by decide +kernel, by decide +kernel⟩
theorem Txt.F_law_is_number (T : Txt K mg) : FunD K "_law_is_number" "_law_is_number" (defArgs s_law_is_number) (defBody s_law_is_number) (defScope s_law_is_number) [] [] (He.fAd K d_law_is_number.at_) (fdO K d_law_is_number) := T.fn (d := d_law_is_number) (List.mem_of_getElem? (i := 39) rfl)
theorem Txt.b_law_is_number (T : Txt K mg) : Binds K (fdO K d_law_is_number) ["_law_value", "_law_most"] [] := T.F_law_is_number.bindsN fun _ _ _ _ _ _ us hl => match us, hl with | [_, _], _ => rfl
theorem sc_law_are : FnScope ["_law_value", "_law_many"] ["_law_value", "_law_many"] (defScope s_law_are) := ⟨rfl, rfl, rfl, by decide +kernel, rfl, by decide +kernel, by decide +kernel⟩
theorem Txt.F_law_are (T : Txt K mg) : FunD K "_law_are" "_law_are" (defArgs s_law_are) (defBody s_law_are) (defScope s_law_are) [] [] (He.fAd K d_law_are.at_) (fdO K d_law_are) := T.fn (d := d_law_are) (List.mem_of_getElem? (i := 40) rfl)
theorem Txt.b_law_are (T : Txt K mg) : Binds K (fdO K d_law_are) ["_law_value", "_law_many"] [] := T.F_law_are.bindsN fun _ _ _ _ _ _ us hl => match us, hl with | [_, _], _ => rfl
theorem sc_law_is_step : FnScope ["_law_ties_here", "_law_step", "_law_fixed"] ["_law_ties_here", "_law_step", "_law_fixed"] (defScope s_law_is_step) := ⟨rfl, rfl, rfl, by decide +kernel, rfl, by decide +kernel, by decide +kernel⟩
theorem Txt.F_law_is_step (T : Txt K mg) : FunD K "_law_is_step" "_law_is_step" (defArgs s_law_is_step) (defBody s_law_is_step) (defScope s_law_is_step) [] [] (He.fAd K d_law_is_step.at_) (fdO K d_law_is_step) := T.fn (d := d_law_is_step) (List.mem_of_getElem? (i := 41) rfl)
theorem Txt.b_law_is_step (T : Txt K mg) : Binds K (fdO K d_law_is_step) ["_law_ties_here", "_law_step", "_law_fixed"] [] := T.F_law_is_step.bindsN fun _ _ _ _ _ _ us hl => match us, hl with | [_, _, _], _ => rfl
theorem sc_law_is_chain : FnScope ["_law_book_here", "_law_ties_here", "_law_start_here", "_law_steps_here", "_law_t", "_law_fixed", "_law_step", "_law_tie", "_law_views_here", "_law_row"] ["_law_book_here", "_law_ties_here", "_law_start_here", "_law_steps_here", "_law_t"] (defScope s_law_is_chain) := ⟨rfl, rfl, rfl, by decide +kernel, rfl, by decide +kernel, by decide +kernel⟩
theorem Txt.F_law_is_chain (T : Txt K mg) : FunD K "_law_is_chain" "_law_is_chain" (defArgs s_law_is_chain) (defBody s_law_is_chain) (defScope s_law_is_chain) [] [] (He.fAd K d_law_is_chain.at_) (fdO K d_law_is_chain) := T.fn (d := d_law_is_chain) (List.mem_of_getElem? (i := 42) rfl)
theorem Txt.b_law_is_chain (T : Txt K mg) : Binds K (fdO K d_law_is_chain) ["_law_book_here", "_law_ties_here", "_law_start_here", "_law_steps_here", "_law_t"] [] := T.F_law_is_chain.bindsN fun _ _ _ _ _ _ us hl => match us, hl with | [_, _, _, _, _], _ => rfl
theorem sc_law_is_way : FnScope ["_law_book_here", "_law_ties_here", "_law_start_here", "_law_way", "_law_cell", "_law_value", "_law_end", "_law_step", "_law_places", "_law_row"] ["_law_book_here", "_law_ties_here", "_law_start_here", "_law_way", "_law_cell", "_law_value", "_law_end"] (defScope s_law_is_way) := ⟨rfl, rfl, rfl, by decide +kernel, rfl, by decide +kernel, by decide +kernel⟩
theorem Txt.F_law_is_way (T : Txt K mg) : FunD K "_law_is_way" "_law_is_way" (defArgs s_law_is_way) (defBody s_law_is_way) (defScope s_law_is_way) [] [] (He.fAd K d_law_is_way.at_) (fdO K d_law_is_way) := T.fn (d := d_law_is_way) (List.mem_of_getElem? (i := 43) rfl)
theorem Txt.b_law_is_way (T : Txt K mg) : Binds K (fdO K d_law_is_way) ["_law_book_here", "_law_ties_here", "_law_start_here", "_law_way", "_law_cell", "_law_value", "_law_end"] [] := T.F_law_is_way.bindsN fun _ _ _ _ _ _ us hl => match us, hl with | [_, _, _, _, _, _, _], _ => rfl
theorem sc_law_is_sum : FnScope ["_law_book_here", "_law_ties_here", "_law_start_here", "_law_parts", "_law_seen", "_law_odd", "_law_part", "_law_places", "_law_k", "_law_cell", "_law_row"] ["_law_book_here", "_law_ties_here", "_law_start_here", "_law_parts"] (defScope s_law_is_sum) := ⟨rfl, rfl, rfl, by decide +kernel, rfl, by decide +kernel, by decide +kernel⟩
theorem Txt.F_law_is_sum (T : Txt K mg) : FunD K "_law_is_sum" "_law_is_sum" (defArgs s_law_is_sum) (defBody s_law_is_sum) (defScope s_law_is_sum) [] [] (He.fAd K d_law_is_sum.at_) (fdO K d_law_is_sum) := T.fn (d := d_law_is_sum) (List.mem_of_getElem? (i := 44) rfl)
theorem Txt.b_law_is_sum (T : Txt K mg) : Binds K (fdO K d_law_is_sum) ["_law_book_here", "_law_ties_here", "_law_start_here", "_law_parts"] [] := T.F_law_is_sum.bindsN fun _ _ _ _ _ _ us hl => match us, hl with | [_, _, _, _], _ => rfl
theorem sc_law_with : FnScope ["_law_start_here", "_law_cell", "_law_value", "_law_ahead", "_law_pair"] ["_law_start_here", "_law_cell", "_law_value"] (defScope s_law_with) := ⟨rfl, rfl, rfl, by decide +kernel, rfl, by decide +kernel, by decide +kernel⟩
theorem Txt.F_law_with (T : Txt K mg) : FunD K "_law_with" "_law_with" (defArgs s_law_with) (defBody s_law_with) (defScope s_law_with) [] [] (He.fAd K d_law_with.at_) (fdO K d_law_with) := T.fn (d := d_law_with) (List.mem_of_getElem? (i := 45) rfl)
theorem Txt.b_law_with (T : Txt K mg) : Binds K (fdO K d_law_with) ["_law_start_here", "_law_cell", "_law_value"] [] := T.F_law_with.bindsN fun _ _ _ _ _ _ us hl => match us, hl with | [_, _, _], _ => rfl
theorem sc_law_is_none : FnScope ["_law_book_here", "_law_cells", "_law_ties_here", "_law_start_here", "_law_paper", "_law_cell"] ["_law_book_here", "_law_cells", "_law_ties_here", "_law_start_here", "_law_paper"] (defScope s_law_is_none) := ⟨rfl, rfl, rfl, by decide +kernel, rfl, by decide +kernel, by decide +kernel⟩
theorem Txt.F_law_is_none (T : Txt K mg) : FunD K "_law_is_none" "_law_is_none" (defArgs s_law_is_none) (defBody s_law_is_none) (defScope s_law_is_none) [] [] (He.fAd K d_law_is_none.at_) (fdO K d_law_is_none) := T.fn (d := d_law_is_none) (List.mem_of_getElem? (i := 46) rfl)
theorem Txt.b_law_is_none (T : Txt K mg) : Binds K (fdO K d_law_is_none) ["_law_book_here", "_law_cells", "_law_ties_here", "_law_start_here", "_law_paper"] [] := T.F_law_is_none.bindsN fun _ _ _ _ _ _ us hl => match us, hl with | [_, _, _, _, _], _ => rfl
theorem sc_law_spoilt : FnScope ["_law_hand", "_law_part", "_law_depth", "_law_kind", "_law_at", "_law_other", "_law_low", "_law_high"] ["_law_hand", "_law_part", "_law_depth"] (defScope s_law_spoilt) := ⟨rfl, rfl, rfl, by decide +kernel, rfl, by decide +kernel, by decide +kernel⟩
theorem Txt.F_law_spoilt (T : Txt K mg) : FunD K "_law_spoilt" "_law_spoilt" (defArgs s_law_spoilt) (defBody s_law_spoilt) (defScope s_law_spoilt) [] [] (He.fAd K d_law_spoilt.at_) (fdO K d_law_spoilt) := T.fn (d := d_law_spoilt) (List.mem_of_getElem? (i := 47) rfl)
theorem Txt.b_law_spoilt (T : Txt K mg) : Binds K (fdO K d_law_spoilt) ["_law_hand", "_law_part", "_law_depth"] [] := T.F_law_spoilt.bindsN fun _ _ _ _ _ _ us hl => match us, hl with | [_, _, _], _ => rfl
theorem sc_law_steps : FnScope ["_law_hand", "_law_book_here", "_law_ties_here", "_law_start_here", "_law_fixed", "_law_steps_here", "_law_turn", "_law_options", "_law_t", "_law_views_here", "_law_k", "_law_cell", "_law_step", "_law_row"] ["_law_hand", "_law_book_here", "_law_ties_here", "_law_start_here"] (defScope s_law_steps) := ⟨rfl, rfl, rfl, by decide +kernel, rfl, by decide +kernel, by decide +kernel⟩
theorem Txt.F_law_steps (T : Txt K mg) : FunD K "_law_steps" "_law_steps" (defArgs s_law_steps) (defBody s_law_steps) (defScope s_law_steps) [] [] (He.fAd K d_law_steps.at_) (fdO K d_law_steps) := T.fn (d := d_law_steps) (List.mem_of_getElem? (i := 48) rfl)
theorem Txt.b_law_steps (T : Txt K mg) : Binds K (fdO K d_law_steps) ["_law_hand", "_law_book_here", "_law_ties_here", "_law_start_here"] [] := T.F_law_steps.bindsN fun _ _ _ _ _ _ us hl => match us, hl with | [_, _, _, _], _ => rfl
theorem sc_law_refute : FnScope ["_law_hand", "_law_book_here", "_law_cells", "_law_ties_here", "_law_start_here", "_law_steps_here", "_law_t", "_law_free", "_law_cell", "_law_no"] ["_law_hand", "_law_book_here", "_law_cells", "_law_ties_here", "_law_start_here"] (defScope s_law_refute) := ⟨rfl, rfl, rfl, by decide +kernel, rfl, by decide +kernel, by decide +kernel⟩
theorem Txt.F_law_refute (T : Txt K mg) : FunD K "_law_refute" "_law_refute" (defArgs s_law_refute) (defBody s_law_refute) (defScope s_law_refute) [] [] (He.fAd K d_law_refute.at_) (fdO K d_law_refute) := T.fn (d := d_law_refute) (List.mem_of_getElem? (i := 49) rfl)
theorem Txt.b_law_refute (T : Txt K mg) : Binds K (fdO K d_law_refute) ["_law_hand", "_law_book_here", "_law_cells", "_law_ties_here", "_law_start_here"] [] := T.F_law_refute.bindsN fun _ _ _ _ _ _ us hl => match us, hl with | [_, _, _, _, _], _ => rfl
theorem sc_law_drawn_steps : FnScope ["_law_hand", "_law_cells", "_law_ties_here", "_law_many", "_law_steps_here", "_law_k", "_law_t", "_law_cell"] ["_law_hand", "_law_cells", "_law_ties_here", "_law_many"] (defScope s_law_drawn_steps) := ⟨rfl, rfl, rfl, by decide +kernel, rfl, by decide +kernel, by decide +kernel⟩
theorem Txt.F_law_drawn_steps (T : Txt K mg) : FunD K "_law_drawn_steps" "_law_drawn_steps" (defArgs s_law_drawn_steps) (defBody s_law_drawn_steps) (defScope s_law_drawn_steps) [] [] (He.fAd K d_law_drawn_steps.at_) (fdO K d_law_drawn_steps) := T.fn (d := d_law_drawn_steps) (List.mem_of_getElem? (i := 50) rfl)
theorem Txt.b_law_drawn_steps (T : Txt K mg) : Binds K (fdO K d_law_drawn_steps) ["_law_hand", "_law_cells", "_law_ties_here", "_law_many"] [] := T.F_law_drawn_steps.bindsN fun _ _ _ _ _ _ us hl => match us, hl with | [_, _, _, _], _ => rfl
theorem sc_law_drawn_parts : FnScope ["_law_hand", "_law_cells", "_law_ties_here", "_law_parts", "_law_k", "_law_t", "_law_own", "_law_cell"] ["_law_hand", "_law_cells", "_law_ties_here"] (defScope s_law_drawn_parts) := ⟨rfl, rfl, rfl, by decide +kernel, rfl, by decide +kernel, by decide +kernel⟩
theorem Txt.F_law_drawn_parts (T : Txt K mg) : FunD K "_law_drawn_parts" "_law_drawn_parts" (defArgs s_law_drawn_parts) (defBody s_law_drawn_parts) (defScope s_law_drawn_parts) [] [] (He.fAd K d_law_drawn_parts.at_) (fdO K d_law_drawn_parts) := T.fn (d := d_law_drawn_parts) (List.mem_of_getElem? (i := 51) rfl)
theorem Txt.b_law_drawn_parts (T : Txt K mg) : Binds K (fdO K d_law_drawn_parts) ["_law_hand", "_law_cells", "_law_ties_here"] [] := T.F_law_drawn_parts.bindsN fun _ _ _ _ _ _ us hl => match us, hl with | [_, _, _], _ => rfl
theorem sc_law_drawn_paper : FnScope ["_law_hand", "_law_cells", "_law_ties_here", "_law_depth", "_law_kind", "_law_no", "_law_cell", "_law_there", "_law_back"] ["_law_hand", "_law_cells", "_law_ties_here", "_law_depth"] (defScope s_law_drawn_paper) := ⟨rfl, rfl, rfl, by decide +kernel, rfl, by decide +kernel, by decide +kernel⟩
theorem Txt.F_law_drawn_paper (T : Txt K mg) : FunD K "_law_drawn_paper" "_law_drawn_paper" (defArgs s_law_drawn_paper) (defBody s_law_drawn_paper) (defScope s_law_drawn_paper) [] [] (He.fAd K d_law_drawn_paper.at_) (fdO K d_law_drawn_paper) := T.fn (d := d_law_drawn_paper) (List.mem_of_getElem? (i := 52) rfl)
theorem Txt.b_law_drawn_paper (T : Txt K mg) : Binds K (fdO K d_law_drawn_paper) ["_law_hand", "_law_cells", "_law_ties_here", "_law_depth"] [] := T.F_law_drawn_paper.bindsN fun _ _ _ _ _ _ us hl => match us, hl with | [_, _, _, _], _ => rfl
theorem sc_law_is_sound : FnScope ["_law_book_here", "_law_cells", "_law_ties_here", "_law_puzzle_here", "_law_start_here", "_law_paper", "_law_filled", "_law_told"] ["_law_book_here", "_law_cells", "_law_ties_here", "_law_puzzle_here", "_law_start_here", "_law_paper", "_law_filled"] (defScope s_law_is_sound) := ⟨rfl, rfl, rfl, by decide +kernel, rfl, by decide +kernel, by decide +kernel⟩
theorem Txt.F_law_is_sound (T : Txt K mg) : FunD K "_law_is_sound" "_law_is_sound" (defArgs s_law_is_sound) (defBody s_law_is_sound) (defScope s_law_is_sound) [] [] (He.fAd K d_law_is_sound.at_) (fdO K d_law_is_sound) := T.fn (d := d_law_is_sound) (List.mem_of_getElem? (i := 53) rfl)
theorem Txt.b_law_is_sound (T : Txt K mg) : Binds K (fdO K d_law_is_sound) ["_law_book_here", "_law_cells", "_law_ties_here", "_law_puzzle_here", "_law_start_here", "_law_paper", "_law_filled"] [] := T.F_law_is_sound.bindsN fun _ _ _ _ _ _ us hl => match us, hl with | [_, _, _, _, _, _, _], _ => rfl
theorem sc_law : FnScope ["_law_script", "_law_hand", "_law_kept", "_law_t", "_law_word", "_law_book_here", "_law_cells", "_law_ties_here", "_law_start_here", "_law_puzzle_here", "_law_filled", "_law_papers", "_law_paper", "_law_other", "_law_k"] ["_law_script"] (defScope s_law) := ⟨rfl, rfl, rfl, by decide +kernel, rfl, by decide +kernel, by decide +kernel⟩
theorem Txt.F_law (T : Txt K mg) : FunD K "law" "law" (defArgs s_law) (defBody s_law) (defScope s_law) [] [] (He.fAd K d_law.at_) (fdO K d_law) := T.fn (d := d_law) (List.mem_of_getElem? (i := 54) rfl)
theorem Txt.b_law (T : Txt K mg) : Binds K (fdO K d_law) ["_law_script"] [] := T.F_law.bindsN fun _ _ _ _ _ _ us hl => match us, hl with | [_], _ => rfl
end
end EC

set_option Elab.async false
set_option linter.all false
set_option maxRecDepth 100000
set_option maxHeartbeats 2000000
/-! Heaps, data as PyData over the heap, the dict of fixed cells, the program's objects. -/
namespace EC
open PySem PySem.Spec PyProof.Rows L2
/-! ### tests whose answer is known -/
theorem ifT {b : Bool} {A B : Prop} (h : b = true) (a : A) : if b = true then A else B := by
  rw [if_pos h]
  exact a
theorem ifF {b : Bool} {A B : Prop} (h : b = false) (x : B) : if b = true then A else B := by
  rw [if_neg (by rw [h]; exact Bool.false_ne_true)]
  exact x
theorem ifNT {b : Bool} {A B : Prop} (h : b = true) (x : B) : if (!b) = true then A else B := ifF (by rw [h]; rfl) x
theorem ifNF {b : Bool} {A B : Prop} (h : b = false) (x : A) : if (!b) = true then A else B := ifT (by rw [h]; rfl) x
theorem ifB {b : Bool} {A B : Prop} (h1 : b = true → A) (h2 : b = false → B) : if b = true then A else B := by
  cases b with
  | true => exact ifT rfl (h1 rfl)
  | false => exact ifF rfl (h2 rfl)
/-! ### heaps -/
def immut : HO → Bool
  | .tup _ => true
  | .ins _ _ _ => true
  | .own _ => true
  | .frz _ _ => true
  | _ => false
/-- what cannot change stands as it stood -/
def Im (H H' : Hp) : Prop := ∀ b o, immut o = true → H b = some o → H' b = some o
theorem Im.refl (H : Hp) : Im H H := fun _ _ _ h => h
theorem Im.trans {H H1 H2 : Hp} (a : Im H H1) (b : Im H1 H2) : Im H H2 := fun c o i h => b c o i (a c o i h)
theorem im_same {H H' : Hp} (h : Same H H') : Im H H' := fun b o _ e => h b o e
theorem same_new {H : Hp} {p : Addr} (o : HO) (h : H p = none) : Same H (upd H p o) := fun b u e => by
  rw [upd_ne (ne_of_none e h)]
  exact e
/-- an object that H does not know may change -/
theorem same_mut {H H' : Hp} {p : Addr} (o : HO) (e : Same H H') (h : H p = none) : Same H (upd H' p o) := fun a u ha => by
  rw [upd_ne (ne_of_none ha h)]
  exact e a u ha
theorem same_nw {H H' : Hp} {p : Addr} (o : HO) (e : Same H H') (h : H' p = none) : Same H (upd H' p o) := e.trans (same_new o h)
theorem im_new {H : Hp} {p : Addr} (o : HO) (h : H p = none) : Im H (upd H p o) := im_same (same_new o h)
theorem im_mut {H : Hp} {p : Addr} {u : HO} (o : HO) (h : H p = some u) (hu : immut u = false) : Im H (upd H p o) := fun b v i e => by
  rw [upd_ne]
  · exact e
  · rintro rfl
    rw [h] at e
    cases e
    rw [hu] at i
    cases i
/-- all but hd stands as it stood -/
def SX (hd : Addr) (H H' : Hp) : Prop := ∀ b o, b ≠ hd → H b = some o → H' b = some o
theorem SX.refl (hd : Addr) (H : Hp) : SX hd H H := fun _ _ _ h => h
theorem SX.trans {hd : Addr} {H H1 H2 : Hp} (a : SX hd H H1) (b : SX hd H1 H2) : SX hd H H2 := fun c o n h => b c o n (a c o n h)
theorem sx_same {hd : Addr} {H H' : Hp} (h : Same H H') : SX hd H H' := fun b o _ e => h b o e
theorem SX.mut {hd : Addr} {H H' : Hp} {p : Addr} (o : HO) (e : SX hd H H') (h : H p = none) : SX hd H (upd H' p o) := fun a u n ha => by
  rw [upd_ne (ne_of_none ha h)]
  exact e a u n ha
theorem SX.new {hd : Addr} {H H' : Hp} {p : Addr} (o : HO) (e : SX hd H H') (h : H' p = none) : SX hd H (upd H' p o) := e.trans (sx_same (same_new o h))
theorem SX.im {hd : Addr} {H H' : Hp} {l : List V} (e : SX hd H H') (h : H hd = some (.lst l)) : Im H H' := fun b o i q => by
  refine e b o ?_ q
  rintro rfl
  rw [h] at q
  cases q
  cases i
theorem SX.free {hd : Addr} {H H' : Hp} {l : List V} (e : SX hd H H') (h : H' hd = some (.lst l)) {p : Addr} (hp : H' p = none) : H p = none := by
  cases q : H p with
  | none => rfl
  | some o =>
    have hn : p ≠ hd := by
      rintro rfl
      rw [h] at hp
      cases hp
    rw [e p o hn q] at hp
    cases hp
section
variable {K : PySem.W.Frag} {H H' : Hp}
theorem sqT_im {a : Addr} {xs : List V} (e : Im H H') (h : SqT K H a xs) : SqT K H' a xs := by
  rcases h with (h | ⟨o, h⟩) | h
  · exact .inl (.inl (e _ _ rfl h))
  · exact .inl (.inr ⟨o, e _ _ rfl h⟩)
  · exact .inr h
theorem sqT_same {a : Addr} {xs : List V} (e : Same H H') (h : SqT K H a xs) : SqT K H' a xs := sqT_im (im_same e) h
theorem FrT.im {a : Addr} {xs : List V} (e : Im H H') (h : FrT H a xs) : FrT H' a xs := by
  obtain ⟨o, h1, h2⟩ := h
  exact ⟨o, e _ _ rfl h1, h2⟩
theorem FrT.same {a : Addr} {xs : List V} (e : Same H H') (h : FrT H a xs) : FrT H' a xs := h.im (im_same e)
/-! ### data -/
theorem dp_tup {v : V} {ds : List PyData} (h : Dp K H v (.tuple ds)) : ∃ a xs, v = .ref a ∧ SqT K H a xs ∧ DpAll K H xs ds := by
  cases h with
  | tup h1 h2 => exact ⟨_, _, rfl, h1, h2⟩
theorem dp_int {v : V} {i : Int} (h : Dp K H v (.int i)) : v = .int i := by
  cases h
  rfl
theorem dp_str {v : V} {x : Str} (h : Dp K H v (.str x)) : v = .str x := by
  cases h
  rfl
theorem dpAll_len : ∀ {xs : List V} {ds : List PyData}, DpAll K H xs ds → xs.length = ds.length
  | _, _, .nil => rfl
  | _, _, .cons _ t => congrArg Nat.succ (dpAll_len t)
theorem dpAll_get : ∀ {xs : List V} {ds : List PyData} {i : Nat} {d : PyData}, DpAll K H xs ds → ds[i]? = some d → ∃ x, xs[i]? = some x ∧ Dp K H x d
  | _, _, _, _, .nil, e => by simp at e
  | _, _, 0, _, .cons h _, e => by
    have e' := Option.some.inj (show some _ = some _ from e)
    subst e'
    exact ⟨_, rfl, h⟩
  | _, _, i + 1, _, .cons _ t, e => by
    obtain ⟨x, h1, h2⟩ := dpAll_get (i := i) t (by simpa using e)
    exact ⟨x, by simpa using h1, h2⟩
theorem dpAll_at : ∀ {xs : List V} {ds : List PyData} {i : Nat} {x : V}, DpAll K H xs ds → xs[i]? = some x → ∃ d, ds[i]? = some d ∧ Dp K H x d
  | _, _, _, _, .nil, e => by simp at e
  | _, _, 0, _, .cons h _, e => by
    have e' := Option.some.inj (show some _ = some _ from e)
    subst e'
    exact ⟨_, rfl, h⟩
  | _, _, i + 1, _, .cons _ t, e => by
    obtain ⟨x, h1, h2⟩ := dpAll_at (i := i) t (by simpa using e)
    exact ⟨x, by simpa using h1, h2⟩
theorem dpAll_append : ∀ {xs ys : List V} {ds es : List PyData}, DpAll K H xs ds → DpAll K H ys es → DpAll K H (xs ++ ys) (ds ++ es)
  | _, _, _, _, .nil, h => h
  | _, _, _, _, .cons a t, h => .cons a (dpAll_append t h)
theorem dpAll_take : ∀ {xs : List V} {ds : List PyData} (n : Nat), DpAll K H xs ds → DpAll K H (xs.take n) (ds.take n)
  | _, _, 0, _ => .nil
  | _, _, _ + 1, .nil => .nil
  | _, _, n + 1, .cons a t => .cons a (dpAll_take n t)
theorem dpAll_drop : ∀ {xs : List V} {ds : List PyData} (n : Nat), DpAll K H xs ds → DpAll K H (xs.drop n) (ds.drop n)
  | _, _, 0, h => h
  | _, _, _ + 1, .nil => .nil
  | _, _, n + 1, .cons _ t => dpAll_drop n t
theorem dpAll_one {x : V} {d : PyData} (h : Dp K H x d) : DpAll K H [x] [d] := .cons h .nil
theorem dpAll_ints : ∀ {xs : List V} {ns : List Int}, DpAll K H xs (ns.map .int) → xs = ns.map V.int
  | _, [], .nil => rfl
  | _, n :: ns, .cons a t => by rw [dp_int a, dpAll_ints t, List.map_cons]
theorem ints_dpAll : ∀ (ns : List Int), DpAll K H (ns.map V.int) (ns.map PyData.int)
  | [] => .nil
  | n :: ns => .cons (.int n) (ints_dpAll ns)
/-- no list within -/
def noL : Nat → PyData → Bool
  | _, .list _ => false
  | _, .dict _ => false
  | 0, .tuple _ => false
  | n + 1, .tuple ds => ds.all (noL n)
  | _, _ => true
mutual
theorem dp_im {Hq : Hp} (e : Im H Hq) : ∀ {n : Nat} {v : V} {d : PyData}, Dp K H v d → noL n d = true → Dp K Hq v d
  | _, _, _, .non, _ => .non
  | _, _, _, .bl b, _ => .bl b
  | _, _, _, .int i, _ => .int i
  | _, _, _, .str x, _ => .str x
  | n, _, _, .lst _ _, h => by cases n <;> cases h
  | 0, _, _, .tup _ _, h => by cases h
  | n + 1, _, _, .tup (ds := ds) h1 h2, h => .tup (sqT_im e h1) (dpAll_im e h2 (show ds.all (noL n) = true from h))
theorem dpAll_im {Hq : Hp} (e : Im H Hq) : ∀ {n : Nat} {xs : List V} {ds : List PyData}, DpAll K H xs ds → ds.all (noL n) = true → DpAll K Hq xs ds
  | _, _, _, .nil, _ => .nil
  | n, _, _, .cons (d := d) (ds := ds) a t, h => by
    rw [List.all_cons, Bool.and_eq_true] at h
    exact .cons (dp_im e a h.1) (dpAll_im e t h.2)
end
mutual
theorem dp_same {Hq : Hp} (e : Same H Hq) : ∀ {v : V} {d : PyData}, Dp K H v d → Dp K Hq v d
  | _, _, .non => .non
  | _, _, .bl b => .bl b
  | _, _, .int i => .int i
  | _, _, .str x => .str x
  | _, _, .lst h1 h2 => .lst (e.seq h1) (dpAll_same e h2)
  | _, _, .tup h1 h2 => .tup (sqT_same e h1) (dpAll_same e h2)
theorem dpAll_same {Hq : Hp} (e : Same H Hq) : ∀ {xs : List V} {ds : List PyData}, DpAll K H xs ds → DpAll K Hq xs ds
  | _, _, .nil => .nil
  | _, _, .cons a t => .cons (dp_same e a) (dpAll_same e t)
end
end
/-- rows, ties, starts as data -/
def eI (ns : List Int) : PyData := .tuple (ns.map .int)
def eR (rows : List (List Int)) : PyData := .tuple (rows.map eI)
def eRel (rel : Rel) : PyData := .tuple [.int rel.1, eR rel.2]
def eP (p : Int × Int) : PyData := eI [p.1, p.2]
section
variable {K : PySem.W.Frag} {H H' : Hp}
theorem noL_ints (n : Nat) : ∀ ns : List Int, ((ns.map PyData.int).all (noL n)) = true
  | [] => rfl
  | i :: ns => by
    rw [List.map_cons, List.all_cons, noL_ints n ns, Bool.and_true]
    cases n <;> rfl
theorem noL_eI (n : Nat) (ns : List Int) : noL (n + 1) (eI ns) = true := noL_ints n ns
theorem noL_eR (n : Nat) (rows : List (List Int)) : noL (n + 2) (eR rows) = true := by
  show (rows.map eI).all (noL (n + 1)) = true
  rw [List.all_map]
  exact List.all_eq_true.mpr fun r _ => noL_eI n r
theorem noL_eRel (rel : Rel) : noL 3 (eRel rel) = true := by
  show ([PyData.int rel.1, eR rel.2].all (noL 2)) = true
  rw [List.all_cons, List.all_cons, noL_eR 0]
  rfl
theorem eI_inv {v : V} {ns : List Int} (h : Dp K H v (eI ns)) : ∃ a, v = .ref a ∧ SqT K H a (ns.map V.int) := by
  obtain ⟨a, xs, e, h1, h2⟩ := dp_tup h
  rw [dpAll_ints h2] at h1
  exact ⟨a, e, h1⟩
theorem eI_mk {a : Addr} {ns : List Int} (h : SqT K H a (ns.map V.int)) : Dp K H (.ref a) (eI ns) := .tup h (ints_dpAll ns)
theorem eI_im {v : V} {ns : List Int} (e : Im H H') (h : Dp K H v (eI ns)) : Dp K H' v (eI ns) := dp_im e h (noL_eI 0 ns)
theorem eR_im {v : V} {rows : List (List Int)} (e : Im H H') (h : Dp K H v (eR rows)) : Dp K H' v (eR rows) := dp_im e h (noL_eR 0 rows)
theorem eR_inv {v : V} {rows : List (List Int)} (h : Dp K H v (eR rows)) : ∃ a xs, v = .ref a ∧ SqT K H a xs ∧ xs.length = rows.length ∧ ∀ (i : Nat) (r : List Int), rows[i]? = some r → ∃ b, xs[i]? = some (.ref b) ∧ SqT K H b (r.map V.int) := by
  obtain ⟨a, xs, e, h1, h2⟩ := dp_tup h
  refine ⟨a, xs, e, h1, by rw [dpAll_len h2, List.length_map], fun i r hr => ?_⟩
  obtain ⟨x, hx, hd⟩ := dpAll_get (i := i) (d := eI r) h2 (by rw [List.getElem?_map, hr]; rfl)
  obtain ⟨b, rfl, hb⟩ := eI_inv hd
  exact ⟨b, hx, hb⟩
end
/-! ### the dict of fixed cells -/
def FxD (H : Hp) (a : Addr) (f : Fx) (m : Nat) : Prop := ∃ kvs : List (Key × V), H a = some (.dK kvs) ∧ kvs.length ≤ m ∧ ∀ c : Int, valV kvs (Sum.inl c) = (f c).map V.int
theorem FxD.same {H H' : Hp} {a : Addr} {f : Fx} {m : Nat} (e : Same H H') (h : FxD H a f m) : FxD H' a f m := by
  obtain ⟨kvs, h1, h2, h3⟩ := h
  exact ⟨kvs, e _ _ h1, h2, h3⟩
theorem FxD.mono {H : Hp} {a : Addr} {f : Fx} {m k : Nat} (h : FxD H a f m) (hk : m ≤ k) : FxD H a f k := by
  obtain ⟨kvs, h1, h2, h3⟩ := h
  exact ⟨kvs, h1, Nat.le_trans h2 hk, h3⟩
theorem FxD.get {H : Hp} {a : Addr} {f : Fx} {m : Nat} (h : FxD H a f m) (c : Int) : DGet H a (.int c) ((f c).map V.int) := by
  obtain ⟨kvs, h1, h2, h3⟩ := h
  rw [← h3 c]
  exact DGet.k (k := Sum.inl c) h1
theorem look_put {kvs : List (Key × V)} {f : Fx} (h : ∀ c : Int, valV kvs (Sum.inl c) = (f c).map V.int) (c v : Int) (d : Int) : valV (putK kvs (Sum.inl c) (.int v)) (Sum.inl d) = (put f c v d).map V.int := by
  rw [valV_put]
  by_cases e : d = c
  · subst e
    rw [if_pos rfl, put_same]
    rfl
  · rw [if_neg (fun z => e (Sum.inl.inj z)), put_ne f v e]
    exact h d
theorem FxD.put {H : Hp} {a : Addr} {f : Fx} {m : Nat} (h : FxD H a f m) (hm : m < 1000) (c v : Int) : ∃ H', DPut H a (.int c) (.int v) H' ∧ FxD H' a (put f c v) (m + 1) ∧ ∃ o, H' = upd H a o := by
  obtain ⟨kvs, h1, h2, h3⟩ := h
  refine ⟨_, DPut.k (k := Sum.inl c) h1 (small1000 (by omega)), ⟨_, upd_same, ?_, look_put h3 c v⟩, _, rfl⟩
  have := length_putK kvs (Sum.inl c) (.int v)
  omega
theorem merge_look (st : List (Int × Int)) : ∀ (kvs : List (Key × V)) (f : Fx), (∀ c : Int, valV kvs (Sum.inl c) = (f c).map V.int) → ∀ c : Int, valV (mergeK kvs (st.map fun p => (Sum.inl p.1, V.int p.2))) (Sum.inl c) = (lookF f st c).map V.int := by
  induction st with
  | nil => intro kvs f h c; exact h c
  | cons p st ih =>
    intro kvs f h c
    exact ih _ _ (look_put h p.1 p.2) c
/-! ### data whose class is asked -/
def isTupD : PyData → Bool
  | .tuple _ => true
  | _ => false
def isIntD : PyData → Bool
  | .int _ => true
  | .bool _ => true
  | _ => false
def isBlD : PyData → Bool
  | .bool _ => true
  | _ => false
def isStrD : PyData → Bool
  | .str _ => true
  | _ => false
def noDict : PyData → Bool
  | .dict _ => false
  | _ => true
section
variable {K : PySem.W.Frag} {H : Hp}
theorem tyx_tup {a : Addr} {xs : List V} (h : SqT K H a xs) : TyX K H (.ref a) (.type "tuple") := by
  rcases h with (h | ⟨o, h⟩) | ⟨o, its, n, h, hc, _⟩
  · exact .base (.tup h)
  · exact .fTuple h
  · exact .kTuple h hc
theorem tyx_lst {a : Addr} {xs : List V} (h : SqL K H a xs) : TyX K H (.ref a) (.type "list") := by
  rcases h with (h | ⟨o, h⟩) | ⟨o, its, n, h, hc, _⟩
  · exact .base (.lst h)
  · exact .base (.frz h)
  · exact .kList h hc
theorem isi_tup {v : V} {d : PyData} (h : Dp K H v d) : ∃ t, TyX K H v t ∧ PySem.W.kitOne K t (.type "tuple") = some (isTupD d) := by
  cases h with
  | non => exact ⟨_, .base .non, kit_ty (show kitB "NoneType" "tuple" = some false by decide +kernel)⟩
  | bl b => exact ⟨_, .base (.bl b), kit_ty (show kitB "bool" "tuple" = some false by decide +kernel)⟩
  | int i => exact ⟨_, .base (.int i), kit_ty (show kitB "int" "tuple" = some false by decide +kernel)⟩
  | str x => exact ⟨_, .base (.str x), kit_ty (show kitB "str" "tuple" = some false by decide +kernel)⟩
  | lst h _ => exact ⟨_, tyx_lst h, kit_ty (show kitB "list" "tuple" = some false by decide +kernel)⟩
  | tup h _ => exact ⟨_, tyx_tup h, kit_ty (show kitB "tuple" "tuple" = some true by decide +kernel)⟩
theorem isi_int {v : V} {d : PyData} (h : Dp K H v d) : ∃ t, TyX K H v t ∧ PySem.W.kitOne K t (.type "int") = some (isIntD d) := by
  cases h with
  | non => exact ⟨_, .base .non, kit_ty (show kitB "NoneType" "int" = some false by decide +kernel)⟩
  | bl b => exact ⟨_, .base (.bl b), kit_ty (show kitB "bool" "int" = some true by decide +kernel)⟩
  | int i => exact ⟨_, .base (.int i), kit_ty (show kitB "int" "int" = some true by decide +kernel)⟩
  | str x => exact ⟨_, .base (.str x), kit_ty (show kitB "str" "int" = some false by decide +kernel)⟩
  | lst h _ => exact ⟨_, tyx_lst h, kit_ty (show kitB "list" "int" = some false by decide +kernel)⟩
  | tup h _ => exact ⟨_, tyx_tup h, kit_ty (show kitB "tuple" "int" = some false by decide +kernel)⟩
theorem isi_bl {v : V} {d : PyData} (h : Dp K H v d) : ∃ t, TyX K H v t ∧ PySem.W.kitOne K t (.type "bool") = some (isBlD d) := by
  cases h with
  | non => exact ⟨_, .base .non, kit_ty (show kitB "NoneType" "bool" = some false by decide +kernel)⟩
  | bl b => exact ⟨_, .base (.bl b), kit_ty (show kitB "bool" "bool" = some true by decide +kernel)⟩
  | int i => exact ⟨_, .base (.int i), kit_ty (show kitB "int" "bool" = some false by decide +kernel)⟩
  | str x => exact ⟨_, .base (.str x), kit_ty (show kitB "str" "bool" = some false by decide +kernel)⟩
  | lst h _ => exact ⟨_, tyx_lst h, kit_ty (show kitB "list" "bool" = some false by decide +kernel)⟩
  | tup h _ => exact ⟨_, tyx_tup h, kit_ty (show kitB "tuple" "bool" = some false by decide +kernel)⟩
theorem isi_str {v : V} {d : PyData} (h : Dp K H v d) : ∃ t, TyX K H v t ∧ PySem.W.kitOne K t (.type "str") = some (isStrD d) := by
  cases h with
  | non => exact ⟨_, .base .non, kit_ty (show kitB "NoneType" "str" = some false by decide +kernel)⟩
  | bl b => exact ⟨_, .base (.bl b), kit_ty (show kitB "bool" "str" = some false by decide +kernel)⟩
  | int i => exact ⟨_, .base (.int i), kit_ty (show kitB "int" "str" = some false by decide +kernel)⟩
  | str x => exact ⟨_, .base (.str x), kit_ty (show kitB "str" "str" = some true by decide +kernel)⟩
  | lst h _ => exact ⟨_, tyx_lst h, kit_ty (show kitB "list" "str" = some false by decide +kernel)⟩
  | tup h _ => exact ⟨_, tyx_tup h, kit_ty (show kitB "tuple" "str" = some false by decide +kernel)⟩
end
/-- data that may be compared: n deep, no dict, no long sequence -/
def fine : Nat → PyData → Prop
  | _, .none => True
  | _, .bool _ => True
  | _, .int _ => True
  | _, .str x => PyData.strOk x = true
  | _, .dict _ => False
  | 0, .list _ => False
  | 0, .tuple _ => False
  | n + 1, .list ds => ds.length ≤ 100 ∧ ∀ d ∈ ds, fine n d
  | n + 1, .tuple ds => ds.length ≤ 100 ∧ ∀ d ∈ ds, fine n d
theorem canLayAll_of : ∀ (ds : List PyData), (∀ d ∈ ds, d.canLay0 = true) → PyData.canLayAll0 ds = true
  | [], _ => by simp [PyData.canLayAll0]
  | d :: ds, h => by
    simp only [PyData.canLayAll0, Bool.and_eq_true]
    exact ⟨h d List.mem_cons_self, canLayAll_of ds fun x hx => h x (List.mem_cons_of_mem _ hx)⟩
theorem depthAll_of {n : Nat} : ∀ (ds : List PyData), (∀ d ∈ ds, d.depth ≤ n) → PyData.depthAll ds ≤ n
  | [], _ => by simp [PyData.depthAll]
  | d :: ds, h => by
    have h1 := h d List.mem_cons_self
    have h2 := depthAll_of ds fun x hx => h x (List.mem_cons_of_mem _ hx)
    simp only [PyData.depthAll]
    omega
theorem fine_lay : ∀ (n : Nat) (d : PyData), fine n d → d.canLay0 = true ∧ d.depth ≤ n
  | _, .none, _ => by simp [PyData.canLay0, PyData.depth]
  | _, .bool _, _ => by simp [PyData.canLay0, PyData.depth]
  | _, .int _, _ => by simp [PyData.canLay0, PyData.depth]
  | n, .str x, h => by
    have h' : PyData.strOk x = true := by cases n <;> exact h
    simp [PyData.canLay0, PyData.depth, h']
  | n, .dict _, h => by cases n <;> exact h.elim
  | 0, .list _, h => h.elim
  | 0, .tuple _, h => h.elim
  | n + 1, .list ds, h => by
    obtain ⟨_, h⟩ := h
    simp only [PyData.canLay0, PyData.depth]
    exact ⟨canLayAll_of ds fun d hd => (fine_lay n d (h d hd)).1, Nat.succ_le_succ (depthAll_of ds fun d hd => (fine_lay n d (h d hd)).2)⟩
  | n + 1, .tuple ds, h => by
    obtain ⟨_, h⟩ := h
    simp only [PyData.canLay0, PyData.depth]
    exact ⟨canLayAll_of ds fun d hd => (fine_lay n d (h d hd)).1, Nat.succ_le_succ (depthAll_of ds fun d hd => (fine_lay n d (h d hd)).2)⟩
theorem fine_shaped {n : Nat} {d : PyData} (h : fine n d) (hn : n ≤ 60) : SeqAt.shaped d = true := by
  obtain ⟨h1, h2⟩ := fine_lay n d h
  show (d.canLay0 && decide (d.depth ≤ 64)) = true
  rw [h1, Bool.true_and]
  exact decide_eq_true (by omega)
theorem fine_mono : ∀ {n m : Nat} {d : PyData}, fine n d → n ≤ m → fine m d
  | _, m, .none, _, _ => by cases m <;> trivial
  | _, m, .bool _, _, _ => by cases m <;> trivial
  | _, m, .int _, _, _ => by cases m <;> trivial
  | n, m, .str x, h, _ => by cases n <;> cases m <;> exact h
  | n, m, .dict _, h, _ => by cases n <;> exact h.elim
  | 0, _, .list _, h, _ => h.elim
  | 0, _, .tuple _, h, _ => h.elim
  | n + 1, 0, .list _, _, hm => by omega
  | n + 1, 0, .tuple _, _, hm => by omega
  | n + 1, m + 1, .list ds, h, hm => ⟨h.1, fun d hd => fine_mono (h.2 d hd) (by omega)⟩
  | n + 1, m + 1, .tuple ds, h, hm => ⟨h.1, fun d hd => fine_mono (h.2 d hd) (by omega)⟩
theorem fine_tup {n : Nat} {ds : List PyData} (h : fine n (.tuple ds)) : ∃ m, n = m + 1 ∧ ds.length ≤ 100 ∧ ∀ d ∈ ds, fine m d := by
  cases n with
  | zero => exact h.elim
  | succ m => exact ⟨m, rfl, h⟩
/-! ### the program's objects -/
def RelAt (K : PySem.W.Frag) (H : Hp) (p : Addr) (rel : Rel) : Prop := ∃ dx b, H p = some (.ins (He.ga K "Relation") dx [("size", .int rel.1), ("rows", b)]) ∧ Dp K H b (eR rel.2)
def RelsAt (K : PySem.W.Frag) (H : Hp) (xs : List V) (bk : List Rel) : Prop := xs.length = bk.length ∧ ∀ (i : Nat) (rel : Rel), bk[i]? = some rel → ∃ p, xs[i]? = some (.ref p) ∧ RelAt K H p rel
def BookAt (K : PySem.W.Frag) (H : Hp) (p : Addr) (bk : List Rel) : Prop := ∃ dx a b xs, H p = some (.ins (He.ga K "Book") dx [("relations", .ref a), ("plain", b)]) ∧ SqT K H a xs ∧ RelsAt K H xs bk
def TieAt (K : PySem.W.Frag) (H : Hp) (x : V) (tie : Tie) : Prop := ∃ a c, x = .ref a ∧ SqT K H a [.int tie.1, .ref c] ∧ FrT H c (tie.2.map V.int)
def TiesAt (K : PySem.W.Frag) (H : Hp) (v : V) (ties : List Tie) : Prop := ∃ a xs, v = .ref a ∧ SqT K H a xs ∧ xs.length = ties.length ∧ ∀ (i : Nat) (tie : Tie), ties[i]? = some tie → ∃ x, xs[i]? = some x ∧ TieAt K H x tie
def PuzAt (K : PySem.W.Frag) (H : Hp) (p : Addr) (bk : List Rel) (ties : List Tie) (n : Nat) : Prop := ∃ dx b t, H p = some (.ins (He.ga K "Puzzle") dx [("book", .ref b), ("cell_count", .int n), ("ties", t)]) ∧ BookAt K H b bk ∧ TiesAt K H t ties
section
variable {K : PySem.W.Frag} {H H' : Hp}
theorem RelAt.im {p : Addr} {rel : Rel} (e : Im H H') (h : RelAt K H p rel) : RelAt K H' p rel := by
  obtain ⟨dx, b, h1, h2⟩ := h
  exact ⟨dx, b, e _ _ rfl h1, eR_im e h2⟩
theorem RelsAt.im {xs : List V} {bk : List Rel} (e : Im H H') (h : RelsAt K H xs bk) : RelsAt K H' xs bk :=
  ⟨h.1, fun i rel hr => let ⟨p, h1, h2⟩ := h.2 i rel hr; ⟨p, h1, h2.im e⟩⟩
theorem BookAt.im {p : Addr} {bk : List Rel} (e : Im H H') (h : BookAt K H p bk) : BookAt K H' p bk := by
  obtain ⟨dx, a, b, xs, h1, h2, h3⟩ := h
  exact ⟨dx, a, b, xs, e _ _ rfl h1, sqT_im e h2, h3.im e⟩
theorem TieAt.im {x : V} {tie : Tie} (e : Im H H') (h : TieAt K H x tie) : TieAt K H' x tie := by
  obtain ⟨a, c, h1, h2, h3⟩ := h
  exact ⟨a, c, h1, sqT_im e h2, h3.im e⟩
theorem TiesAt.im {v : V} {ties : List Tie} (e : Im H H') (h : TiesAt K H v ties) : TiesAt K H' v ties := by
  obtain ⟨a, xs, h1, h2, h3, h4⟩ := h
  exact ⟨a, xs, h1, sqT_im e h2, h3, fun i tie ht => let ⟨x, q1, q2⟩ := h4 i tie ht; ⟨x, q1, q2.im e⟩⟩
theorem PuzAt.im {p : Addr} {bk : List Rel} {ties : List Tie} {n : Nat} (e : Im H H') (h : PuzAt K H p bk ties n) : PuzAt K H' p bk ties n := by
  obtain ⟨dx, b, t, h1, h2, h3⟩ := h
  exact ⟨dx, b, t, e _ _ rfl h1, h2.im e, h3.im e⟩
end
end EC

set_option Elab.async false
set_option linter.all false
set_option maxRecDepth 100000
set_option maxHeartbeats 2000000
/-! Rules whose reading speaks of the written part, for use within a comprehension: the part named; starts on the heap; little words. -/
namespace EC
open PySem PySem.Spec PyProof.Rows L2
section
variable {X : Cx} {K : PySem.W.Frag}
theorem pe_fldK {e : Expr} {ta : TE} {f : Str} {pos : Pos} (hK : X.K = K) (he : PE X e ta) (hb : attributeBase e f X.env (eval e X.env) = eval e X.env) : PE X (.Attribute e f pos) (tFld K ta f) := by
  subst hK
  exact pe_fld he hb
theorem pg_tupK {es : List Expr} {k : Nat} {t : TGs} {n : Nat} {pos : Pos} (hK : X.K = K) (hc : X.calm = true) (h : PGs X es t)
    (hn : (assignEach es X.env).length = n := by rfl) (hst : (assignEach es X.env).findIdx? (·.1) = none := by rfl) : PG X (.Tuple es k pos) (gTup K n t) := by
  subst hK
  exact pg_tup hc h hn hst
theorem ix_tupK (hK : X.K = K) : IxR X (rIxT K) := by
  subst hK
  exact ix_tup
theorem ix_listK (hK : X.K = K) : IxR X (rIxL K) := by
  subst hK
  exact ix_list
theorem op_in_seqK (hK : X.K = K) : OpR X (compareOp .In) (rIn K false) := by
  subst hK
  exact op_in_seq
theorem op_notIn_seqK (hK : X.K = K) : OpR X (compareOp .NotIn) (rIn K true) := by
  subst hK
  exact op_notIn_seq
theorem op_catAK (hK : X.K = K) : OpR X (binaryOp .Add) (rCatA K) := by
  subst hK
  exact op_catA
theorem op_inDK (hK : X.K = K) (hu : X.A.units + 65 < cLine) : OpR X (compareOp .In) (rInD K) := by
  subst hK
  exact op_inD hu
theorem op_notInDK (hK : X.K = K) (hu : X.A.units + 65 < cLine) : OpR X (compareOp .NotIn) (rNotInD K) := by
  subst hK
  exact op_notInD hu
theorem call_len_seqK (hK : X.K = K) : CallR X (.builtin "len") (fun xs H Q => ∃ p ys, xs = [.ref p] ∧ (SqL K H p ys ∨ SqT K H p ys) ∧ Q (.int ys.length) H) := by
  subst hK
  exact call_len_seq
theorem call_isiK (hK : X.K = K) : CallR X (.builtin "isinstance") (rIsi K) := by
  subst hK
  exact call_isi
theorem cr_sumK (hK : X.K = K) (hc : X.calm = true) : CallR X (.builtin "sum") (rSum K) := by
  subst hK
  exact cr_sum hc
theorem pi_tupK {tg l : Expr} {tl : TE} (hK : X.K = K) (hl : PE X l tl) : PI X tg l (iTup K tl) := by
  subst hK
  exact pi_tup hl
theorem call_tupFK (hK : X.K = K) : CallR X (.type "tuple") (fun xs H Q => ∃ p ys, xs = [.ref p] ∧ SqL K H p ys ∧ ∀ l o, H l = none → o.dict = none → Q (.ref l) (upd H l (.frz o (.tup ys)))) := by
  subst hK
  exact call_tupF
end
/-! ### starts on the heap -/
theorem paired_get {α β : Type} {F : α → β → Prop} : ∀ {l : List α} {m : List β} {i : Nat} {b : β}, Paired F l m → m[i]? = some b → ∃ a, l[i]? = some a ∧ F a b
  | _, _, _, _, .nil, e => by simp at e
  | _, _, 0, _, .cons h _, e => by
    have e' := Option.some.inj (show some _ = some _ from e)
    subst e'
    exact ⟨_, rfl, h⟩
  | _, _, i + 1, _, .cons _ t, e => by
    obtain ⟨x, h1, h2⟩ := paired_get (i := i) t (by simpa using e)
    exact ⟨x, by simpa using h1, h2⟩
theorem paired_map {α β γ : Type} {F : α → γ → Prop} (f : β → γ) : ∀ {l : List α} {m : List β}, Paired (fun a b => F a (f b)) l m → Paired F l (m.map f)
  | _, _, .nil => .nil
  | _, _, .cons h t => .cons h (paired_map f t)
def StAt (K : PySem.W.Frag) (H : Hp) (a : Addr) (st : List (Int × Int)) : Prop := ∃ ps : List Addr, FrT H a (ps.map V.ref) ∧ Paired (fun p (q : Int × Int) => SqT K H p [.int q.1, .int q.2]) ps st
section
variable {K : PySem.W.Frag} {H H' : Hp} {a : Addr} {st : List (Int × Int)}
theorem StAt.im (e : Im H H') (h : StAt K H a st) : StAt K H' a st := by
  obtain ⟨ps, h1, h2⟩ := h
  exact ⟨ps, h1.im e, L2.Paired.mapP h2 fun p q k => sqT_im e k⟩
theorem StAt.sq (h : StAt K H a st) : ∃ xs, SqT K H a xs ∧ xs.length = st.length ∧ ∀ (i : Nat) (q : Int × Int), st[i]? = some q → ∃ p, xs[i]? = some (.ref p) ∧ SqT K H p [.int q.1, .int q.2] := by
  obtain ⟨ps, h1, h2⟩ := h
  refine ⟨_, h1.sq, by rw [List.length_map, h2.length], fun i q hq => ?_⟩
  obtain ⟨p, e1, e2⟩ := paired_get h2 hq
  exact ⟨p, by rw [List.getElem?_map, e1]; rfl, e2⟩
theorem StAt.pairs (h : StAt K H a st) : ∃ ps : List Addr, FrT H a (ps.map V.ref) ∧ Paired (fun p (kv : Key × V) => SqT K H p [kV kv.1, kv.2]) ps (st.map fun p => (Sum.inl p.1, V.int p.2)) := by
  obtain ⟨ps, h1, h2⟩ := h
  exact ⟨ps, h1, paired_map (fun p : Int × Int => ((Sum.inl p.1 : Key), V.int p.2)) h2⟩
end
theorem mergeK_len : ∀ (l kvs : List (Key × V)), (mergeK kvs l).length ≤ kvs.length + l.length
  | [], kvs => Nat.le_refl _
  | p :: l, kvs => by
    have h1 := mergeK_len l (putK kvs p.1 p.2)
    have h2 := length_putK kvs p.1 p.2
    have h3 : mergeK kvs (p :: l) = mergeK (putK kvs p.1 p.2) l := rfl
    rw [h3, List.length_cons]
    omega
/-- dict(start) -/
theorem fxD_start {H : Hp} {D : Addr} {st : List (Int × Int)} : FxD (upd H D (.dK (mergeK [] (st.map fun p => ((Sum.inl p.1 : Key), V.int p.2))))) D (lookS st) st.length := by
  refine ⟨_, upd_same, ?_, merge_look st [] (fun _ => none) fun c => rfl⟩
  have := mergeK_len (st.map fun p => ((Sum.inl p.1 : Key), V.int p.2)) []
  rw [List.length_map] at this
  simpa using this
theorem start_len {n : Nat} {st : List (Int × Int)} (S : StartG n st) : st.length ≤ n := by
  have key : ∀ (st : List (Int × Int)) (lo : Int), st.Pairwise (fun p q => p.1 < q.1) → (∀ p ∈ st, lo ≤ p.1 ∧ p.1 < (n : Int)) → (st.length : Int) ≤ max 0 ((n : Int) - lo) := by
    intro st
    induction st with
    | nil => intro lo _ _; simp; omega
    | cons p st ih =>
      intro lo hp hb
      rw [List.pairwise_cons] at hp
      have h1 := hb p List.mem_cons_self
      have h2 := ih (p.1 + 1) hp.2 fun q hq => ⟨by have := hp.1 q hq; omega, (hb q (List.mem_cons_of_mem _ hq)).2⟩
      rw [List.length_cons]
      omega
  have := key st 0 S.up fun p hp => ⟨(S.ok p hp).1, (S.ok p hp).2.1⟩
  omega
end EC

set_option Elab.async false
set_option linter.all false
set_option maxRecDepth 100000
set_option maxHeartbeats 4000000
namespace EC
open PySem PySem.Spec PyProof.Rows L2
section
variable {P : Program} {w : World} {K : PySem.W.Frag} {mg : Str → Option Value} {base : Heap}
/-! ### is_below, is_number_below, _law_is_number -/
def spNum (K : PySem.W.Frag) : Sp := fun vs H Q _ => ∃ (v : V) (d : PyData) (n : Int), vs = [v, .int n] ∧ Dp K H v d ∧ Q (.bl (numB d n)) H
theorem numB_no {d : PyData} {n : Int} (h : isIntD d = false ∨ isBlD d = true) : numB d n = false := by
  cases d <;> first | rfl | (rcases h with h | h <;> cases h)
theorem numB_yes {d : PyData} (h : isIntD d = true) (h2 : isBlD d = false) : ∃ i, d = .int i := by
  cases d <;> first | exact ⟨_, rfl⟩ | (cases h; done) | (cases h2; done)
theorem ok_is_below (T : Txt K mg) : Ok P w K mg base 1 d_is_below ["value", "limit"] (spNum K) := by
  refine T.F_is_below.ok sc_is_below (fun vs H Q E h => ?_) (fun cdv A outer s H vs Q E hr h => ?_)
  · obtain ⟨v, d, n, rfl, _⟩ := h
    rfl
  obtain ⟨v, d, n, rfl, hd, q⟩ := h
  refine ⟨_, PSs.nox (
  (pss_one (ps_ret (pe_and (pe_callB call_isi (by rfl) T.z_isinstance (by decide +kernel) (pa_cons (pv 0) (pa_cons (pe_bltn (v := .ty "int") (by rfl) T.z_int (by decide +kernel) rfl) pa_nil))) (pe_and (pe_not (pe_callB call_isi (by rfl) T.z_isinstance (by decide +kernel) (pa_cons (pv 0) (pa_cons (pe_bltn (v := .ty "bool") (by rfl) T.z_bool (by decide +kernel) rfl) pa_nil)))) (pe_one (pe_chain op_le op_lt pe_int (pv 0) (pv 1)))))))
  ), ?_⟩
  obtain ⟨t, ht, hk⟩ := isi_int hd
  refine ⟨_, rfl, _, _, t, _, _, rfl, .ty _, ht, hk, _, rfl, ?_⟩
  cases e : isIntD d with
  | false =>
    rw [numB_no (.inl e)] at q
    exact iteF q
  | true =>
    refine iteT ?_
    obtain ⟨t, ht, hk⟩ := isi_bl hd
    refine ⟨_, rfl, _, _, t, _, _, rfl, .ty _, ht, hk, _, rfl, _, rfl, ?_⟩
    cases e2 : isBlD d with
    | true =>
      rw [numB_no (.inr e2)] at q
      exact iteF q
    | false =>
      refine iteT ?_
      obtain ⟨i, rfl⟩ := numB_yes e e2
      have ev := dp_int hd
      subst ev
      refine ⟨.int i, rfl, _, _, rfl, rfl, _, rfl, ?_⟩
      have e3 : numB (.int i) n = (decide (0 ≤ i) && decide (i < n)) := rfl
      rw [e3] at q
      cases e4 : decide (0 ≤ i) with
      | false =>
        rw [e4] at q
        exact iteF q
      | true =>
        rw [e4] at q
        exact iteT ⟨.int n, rfl, _, _, rfl, rfl, q⟩
theorem ok_is_number_below (T : Txt K mg) : Ok P w K mg base 1 d_is_number_below ["value", "bound"] (spNum K) := by
  refine T.F_is_number_below.ok sc_is_number_below (fun vs H Q E h => ?_) (fun cdv A outer s H vs Q E hr h => ?_)
  · obtain ⟨v, d, n, rfl, _⟩ := h
    rfl
  obtain ⟨v, d, n, rfl, hd, q⟩ := h
  refine ⟨_, PSs.nox (
  (pss_one (ps_ret (pe_and (pe_callB call_isi (by rfl) T.z_isinstance (by decide +kernel) (pa_cons (pv 0) (pa_cons (pe_bltn (v := .ty "int") (by rfl) T.z_int (by decide +kernel) rfl) pa_nil))) (pe_and (pe_not (pe_callB call_isi (by rfl) T.z_isinstance (by decide +kernel) (pa_cons (pv 0) (pa_cons (pe_bltn (v := .ty "bool") (by rfl) T.z_bool (by decide +kernel) rfl) pa_nil)))) (pe_one (pe_chain op_le op_lt pe_int (pv 0) (pv 1)))))))
  ), ?_⟩
  obtain ⟨t, ht, hk⟩ := isi_int hd
  refine ⟨_, rfl, _, _, t, _, _, rfl, .ty _, ht, hk, _, rfl, ?_⟩
  cases e : isIntD d with
  | false =>
    rw [numB_no (.inl e)] at q
    exact iteF q
  | true =>
    refine iteT ?_
    obtain ⟨t, ht, hk⟩ := isi_bl hd
    refine ⟨_, rfl, _, _, t, _, _, rfl, .ty _, ht, hk, _, rfl, _, rfl, ?_⟩
    cases e2 : isBlD d with
    | true =>
      rw [numB_no (.inr e2)] at q
      exact iteF q
    | false =>
      refine iteT ?_
      obtain ⟨i, rfl⟩ := numB_yes e e2
      have ev := dp_int hd
      subst ev
      refine ⟨.int i, rfl, _, _, rfl, rfl, _, rfl, ?_⟩
      have e3 : numB (.int i) n = (decide (0 ≤ i) && decide (i < n)) := rfl
      rw [e3] at q
      cases e4 : decide (0 ≤ i) with
      | false =>
        rw [e4] at q
        exact iteF q
      | true =>
        rw [e4] at q
        exact iteT ⟨.int n, rfl, _, _, rfl, rfl, q⟩
theorem ok_law_is_number (T : Txt K mg) : Ok P w K mg base 1 d_law_is_number ["_law_value", "_law_most"] (spNum K) := by
  refine T.F_law_is_number.ok sc_law_is_number (fun vs H Q E h => ?_) (fun cdv A outer s H vs Q E hr h => ?_)
  · obtain ⟨v, d, n, rfl, _⟩ := h
    rfl
  obtain ⟨v, d, n, rfl, hd, q⟩ := h
  refine ⟨_, PSs.nox (
  (pss_one (ps_ret (pe_and (pe_callB call_isi (by rfl) T.z_isinstance (by decide +kernel) (pa_cons (pv 0) (pa_cons (pe_bltn (v := .ty "int") (by rfl) T.z_int (by decide +kernel) rfl) pa_nil))) (pe_and (pe_not (pe_callB call_isi (by rfl) T.z_isinstance (by decide +kernel) (pa_cons (pv 0) (pa_cons (pe_bltn (v := .ty "bool") (by rfl) T.z_bool (by decide +kernel) rfl) pa_nil)))) (pe_and (pe_cmpR op_ge (pv 0) pe_int (nomark _)) (pe_one (pe_cmpR op_lt (pv 0) (pv 1) (nomark _))))))))
  ), ?_⟩
  obtain ⟨t, ht, hk⟩ := isi_int hd
  refine ⟨_, rfl, _, _, t, _, _, rfl, .ty _, ht, hk, _, rfl, ?_⟩
  cases e : isIntD d with
  | false =>
    rw [numB_no (.inl e)] at q
    exact iteF q
  | true =>
    refine iteT ?_
    obtain ⟨t, ht, hk⟩ := isi_bl hd
    refine ⟨_, rfl, _, _, t, _, _, rfl, .ty _, ht, hk, _, rfl, _, rfl, ?_⟩
    cases e2 : isBlD d with
    | true =>
      rw [numB_no (.inr e2)] at q
      exact iteF q
    | false =>
      refine iteT ?_
      obtain ⟨i, rfl⟩ := numB_yes e e2
      have ev := dp_int hd
      subst ev
      refine ⟨_, rfl, _, _, rfl, rfl, _, rfl, ?_⟩
      have e3 : numB (.int i) n = (decide (0 ≤ i) && decide (i < n)) := rfl
      rw [e3] at q
      cases e4 : decide (0 ≤ i) with
      | false =>
        rw [e4] at q
        exact iteF q
      | true =>
        rw [e4] at q
        exact iteT ⟨_, rfl, _, rfl, _, _, rfl, rfl, q⟩
/-! ### _law_are -/
def areB (d : PyData) (m : Int) : Bool := match d with
  | .tuple ds => decide (m < 0) || decide ((ds.length : Int) = m)
  | _ => false
def spAre (K : PySem.W.Frag) : Sp := fun vs H Q _ => ∃ (v : V) (d : PyData) (m : Int), vs = [v, .int m] ∧ Dp K H v d ∧ Q (.bl (areB d m)) H
theorem areB_no {d : PyData} {m : Int} (h : isTupD d = false) : areB d m = false := by
  cases d <;> first | rfl | cases h
theorem tupD_yes {d : PyData} (h : isTupD d = true) : ∃ ds, d = .tuple ds := by
  cases d <;> first | exact ⟨_, rfl⟩ | cases h
theorem ok_law_are (T : Txt K mg) : Ok P w K mg base 1 d_law_are ["_law_value", "_law_many"] (spAre K) := by
  refine T.F_law_are.ok sc_law_are (fun vs H Q E h => ?_) (fun cdv A outer s H vs Q E hr h => ?_)
  · obtain ⟨v, d, n, rfl, _⟩ := h
    rfl
  obtain ⟨v, d, m, rfl, hd, q⟩ := h
  refine ⟨_, PSs.nox (
  (pss_one (ps_ret (pe_and (pe_callB call_isi (by rfl) T.z_isinstance (by decide +kernel) (pa_cons (pv 0) (pa_cons (pe_bltn (v := .ty "tuple") (by rfl) T.z_tuple (by decide +kernel) rfl) pa_nil))) (pe_one (pe_or (pe_cmpR op_lt (pv 1) pe_int (nomark _)) (pe_one (pe_cmpR op_eq (pe_callB call_len_seq (by rfl) T.z_len PySem.boot_len (pa_cons (pv 0) pa_nil)) (pv 1) (nomark _))))))))
  ), ?_⟩
  obtain ⟨t, ht, hk⟩ := isi_tup hd
  refine ⟨_, rfl, _, _, t, _, _, rfl, .ty _, ht, hk, _, rfl, ?_⟩
  cases e : isTupD d with
  | false =>
    rw [areB_no e] at q
    exact iteF q
  | true =>
    refine iteT ?_
    obtain ⟨ds, rfl⟩ := tupD_yes e
    obtain ⟨a, xs, rfl, hs, hds⟩ := dp_tup hd
    have e3 : areB (.tuple ds) m = (decide (m < 0) || decide ((ds.length : Int) = m)) := rfl
    rw [e3] at q
    refine ⟨_, rfl, _, _, rfl, rfl, _, rfl, ?_⟩
    cases e4 : decide (m < 0) with
    | true =>
      rw [e4] at q
      exact iteT q
    | false =>
      rw [e4] at q
      refine iteF ⟨_, rfl, a, xs, rfl, .inr hs, _, rfl, rfl, ?_⟩
      rw [dpAll_len hds, dec_int, ← Bool.beq_eq_decide_eq] at *
      exact q
end
end EC


set_option Elab.async false
set_option linter.all false
set_option maxRecDepth 100000
set_option maxHeartbeats 4000000
namespace EC
open PySem PySem.Spec PyProof.Rows L2
section
variable {P : Program} {w : World} {K : PySem.W.Frag} {mg : Str → Option Value} {base : Heap}
theorem numB_bit {z n : Int} (h : z = 0 ∨ z = 1) (hn : 2 ≤ n) : numB (.int z) n = true := by
  show (decide (0 ≤ z) && decide (z < n)) = true
  rw [Bool.and_eq_true, decide_eq_true_eq, decide_eq_true_eq]
  omega
/-! ### is_row -/
def spRow (K : PySem.W.Frag) : Sp := fun vs H Q _ => ∃ (v : V) (r : List Int) (n : Int), vs = [v, .int n] ∧ Dp K H v (eI r) ∧ (r.length : Int) = n ∧ bitRow r ∧ Q (.bl true) H
theorem ok_is_row (T : Txt K mg) : Ok P w K mg base 2 d_is_row ["value", "size"] (spRow K) := by
  have G_is_below : Ok P w K mg base 1 d_is_below ["value", "limit"] (spNum K) := ok_is_below T
  refine T.F_is_row.ok sc_is_row (fun vs H Q E h => ?_) (fun cdv A outer s H vs Q E hr h => ?_)
  · obtain ⟨v, r, n, rfl, _⟩ := h
    rfl
  obtain ⟨v, r, n, rfl, hd, hn, hb, q⟩ := h
  refine ⟨_, PSs.nox (
  (pss_cons (ps_if (PW.pt (pw_or (pt_not (pt_val (pe_callB call_isi (by rfl) T.z_isinstance (by decide +kernel) (pa_cons (pv 0) (pa_cons (pe_bltn (v := .ty "tuple") (by rfl) T.z_tuple (by decide +kernel) rfl) pa_nil))))) (pw_or1 (pt_cmpR op_ne (pe_callB call_len_seq (by rfl) T.z_len PySem.boot_len (pa_cons (pv 0) pa_nil)) (pv 1) (nomark _)))))
      (pss_one (ps_ret pe_bl))
      pss_nil)
    (pss_cons (ps_for PassesOwn.never rfl (pi_tup (pv 0)) (pg_name (i := 2) sc_is_row.nd rfl (Or.inl rfl))
      (pss_one (ps_if (pt_not (pt_val (pe_call G_is_below (hr.mono (by omega)) (by rfl) T.g_is_below T.F_is_below.kp T.b_is_below .nil pass0 (pa_cons (pv 2) (pa_cons pe_int pa_nil)))))
        (pss_one (ps_ret pe_bl))
        pss_nil)))
    (pss_one (ps_ret pe_bl))))
  ), ?_⟩
  obtain ⟨t, ht, hk⟩ := isi_tup hd
  obtain ⟨a, rfl, hs⟩ := eI_inv hd
  refine ⟨_, rfl, _, _, t, _, _, rfl, .ty _, ht, hk, _, rfl, iteF ?_⟩
  refine ⟨_, rfl, a, _, rfl, .inr hs, _, rfl, rfl, _, rfl, iteNS (by rw [List.length_map, hn]) ?_⟩
  refine ⟨_, rfl, a, rfl, ⟨_, hs⟩, for_tup (xs := r.map V.int) (fun i σ H' => ∃ o, σ = [some (.ref a), some (.int n), o] ∧ H' = H) ⟨_, rfl, rfl⟩ (fun i σ H' _ h => by obtain ⟨_, _, rfl⟩ := h; exact hs) ?_ ?_⟩
  · rintro i x σ H' hx ⟨o, rfl, rfl⟩
    rw [List.getElem?_map] at hx
    obtain ⟨z, hz, rfl⟩ := Option.map_eq_some_iff.mp hx
    refine ⟨_, rfl, _, .int z, 2, rfl, .int z, _, rfl, ifNT (numB_bit (hb z (List.mem_of_getElem? hz)) (Int.le_refl 2)) ?_⟩
    exact ⟨_, rfl, rfl⟩
  · rintro σ H' ⟨o, rfl, rfl⟩
    exact q
/-! ### are_rows -/
def spRows (K : PySem.W.Frag) : Sp := fun vs H Q _ => ∃ (v : V) (rows : List (List Int)) (n : Int), vs = [v, .int n] ∧ Dp K H v (eR rows) ∧ rows ≠ [] ∧ (∀ r ∈ rows, (r.length : Int) = n ∧ bitRow r) ∧ ∀ H', Same H H' → Q (.bl true) H'
theorem kit_lt {t : Value} (h : PySem.W.kitOne K t (.type "tuple") = some true) (h2 : PySem.W.kitOne K t (.type "list") = some false) : PySem.W.kitAny K t [.type "list", .type "tuple"] = some true :=
  kitAny_cons h2 (fun _ => kitAny_cons h (fun z => nomatch z) fun _ => rfl) fun z => nomatch z
theorem ok_are_rows (T : Txt K mg) : Ok P w K mg base 3 d_are_rows ["rows", "size"] (spRows K) := by
  have G_is_row : Ok P w K mg base 2 d_is_row ["value", "size"] (spRow K) := ok_is_row T
  refine T.F_are_rows.ok sc_are_rows (fun vs H Q E h => ?_) (fun cdv A outer s H vs Q E hr h => ?_)
  · obtain ⟨v, r, n, rfl, _⟩ := h
    rfl
  obtain ⟨v, rows, n, rfl, hd, hne, hb, q⟩ := h
  refine ⟨_, PSs.nox (
  (pss_cons (ps_if (PW.pt (pw_or (pt_not (pt_val (pe_callB call_isiT (by rfl) T.z_isinstance (by decide +kernel) (pa_cons (pv 0) (pa_cons (pe_tup (pa_cons (pe_bltn (v := .ty "list") (by rfl) T.z_list (by decide +kernel) rfl) (pa_cons (pe_bltn (v := .ty "tuple") (by rfl) T.z_tuple (by decide +kernel) rfl) pa_nil))) pa_nil))))) (pw_or1 (pt_cmpR op_eq (pe_callB call_len_seq (by rfl) T.z_len PySem.boot_len (pa_cons (pv 0) pa_nil)) pe_int (nomark _)))))
      (pss_one (ps_ret pe_bl))
      pss_nil)
    (pss_cons (ps_for PassesOwn.never rfl (pi_tup (pv 0)) (pg_name (i := 2) sc_are_rows.nd rfl (Or.inl rfl))
      (pss_one (ps_if (pt_not (pt_val (pe_call G_is_row (hr.mono (by omega)) (by rfl) T.g_is_row T.F_is_row.kp T.b_is_row .nil pass0 (pa_cons (pv 2) (pa_cons (pv 1) pa_nil)))))
        (pss_one (ps_ret pe_bl))
        pss_nil)))
    (pss_one (ps_ret pe_bl))))
  ), ?_⟩
  obtain ⟨a, xs, rfl, hs, hl, hx⟩ := eR_inv hd
  refine ⟨_, rfl, (by show 2 ≤ sizeLine; decide), fun T0 hT => ?_⟩
  have s1 : Same H (upd H T0 (.tup [.ty "list", .ty "tuple"])) := same_new _ hT
  have hs1 := sqT_same s1 hs
  refine ⟨_, T0, _, _, _, true, rfl, upd_same, .cons (.ty _) (.cons (.ty _) .nil), tyx_tup hs1, kit_lt (kit_ty (show kitB "tuple" "tuple" = some true by decide +kernel)) (kit_ty (show kitB "tuple" "list" = some false by decide +kernel)), _, rfl, iteF ?_⟩
  have hxl : 0 < xs.length := by
    rw [hl]
    exact List.length_pos_iff.mpr hne
  refine ⟨_, rfl, a, _, rfl, .inr hs1, rfl, _, rfl, ifF (decide_eq_false fun e => ?_) ?_⟩
  · have e' := V.int.inj e
    omega
  refine ⟨_, rfl, a, rfl, ⟨_, hs1⟩, for_tup (xs := xs) (fun i σ H' => ∃ o, σ = [some (.ref a), some (.int n), o] ∧ Same H H') ⟨_, rfl, s1⟩ (fun i σ H' _ h => by obtain ⟨_, _, e⟩ := h; exact sqT_same e hs) ?_ ?_⟩
  · rintro i x σ H' hi ⟨o, rfl, sm⟩
    have hlt := (List.getElem?_eq_some_iff.mp hi).1
    have hlt2 : i < rows.length := by omega
    obtain ⟨b, hb1, hb2⟩ := hx i rows[i] (List.getElem?_eq_getElem hlt2)
    rw [hi] at hb1
    cases hb1
    obtain ⟨h1, h2⟩ := hb _ (List.getElem_mem hlt2)
    exact ⟨_, rfl, _, rfl, _, rows[i], n, rfl, eI_mk (sqT_same sm hb2), h1, h2, _, rfl, iteF ⟨_, rfl, sm⟩⟩
  · rintro σ H' ⟨o, rfl, sm⟩
    exact q _ sm
end
end EC


set_option Elab.async false
set_option linter.all false
set_option maxRecDepth 100000
set_option maxHeartbeats 4000000
namespace EC
open PySem PySem.Spec PyProof.Rows L2
theorem sx_at {p : Addr} {H H' : Hp} (o : HO) (e : SX p H H') : SX p H (upd H' p o) := fun b u n h => by
  rw [upd_ne n]
  exact e b u n h
/-- a tuple of rows, each row a tuple of its own -/
def RowsU (K : PySem.W.Frag) (H : Hp) (v : V) (rows : List (List Int)) : Prop := ∃ a xs, v = .ref a ∧ SqT K H a xs ∧ xs.length = rows.length ∧ ∀ (i : Nat) (r : List Int), rows[i]? = some r → ∃ b, xs[i]? = some (.ref b) ∧ H b = some (.tup (r.map V.int))
theorem RowsU.im {K : PySem.W.Frag} {H H' : Hp} {v : V} {rows : List (List Int)} (e : Im H H') (h : RowsU K H v rows) : RowsU K H' v rows := by
  obtain ⟨a, xs, h1, h2, h3, h4⟩ := h
  exact ⟨a, xs, h1, sqT_im e h2, h3, fun i r hr => let ⟨b, q1, q2⟩ := h4 i r hr; ⟨b, q1, e _ _ rfl q2⟩⟩
theorem dpAll_of {K : PySem.W.Frag} {H : Hp} : ∀ {xs : List V} {ds : List PyData}, xs.length = ds.length → (∀ (i : Nat) (d : PyData), ds[i]? = some d → ∃ x, xs[i]? = some x ∧ Dp K H x d) → DpAll K H xs ds
  | [], [], _, _ => .nil
  | [], _ :: _, h, _ => by cases h
  | _ :: _, [], h, _ => by cases h
  | x :: xs, d :: ds, h, k => by
    obtain ⟨x', e, hx⟩ := k 0 d rfl
    have e' := Option.some.inj (show some x = some x' from e)
    subst e'
    exact .cons hx (dpAll_of (by simpa using h) fun i d' e => by simpa using k (i + 1) d' (by simpa using e))
theorem RowsU.dp {K : PySem.W.Frag} {H : Hp} {v : V} {rows : List (List Int)} (h : RowsU K H v rows) : Dp K H v (eR rows) := by
  obtain ⟨a, xs, rfl, h2, h3, h4⟩ := h
  refine .tup h2 (dpAll_of (by rw [h3, List.length_map]) fun i d hd => ?_)
  rw [List.getElem?_map] at hd
  obtain ⟨r, hr, rfl⟩ := Option.map_eq_some_iff.mp hd
  obtain ⟨b, q1, q2⟩ := h4 i r hr
  exact ⟨_, q1, eI_mk (.inl (.inl q2))⟩
def rdV : V → Int
  | .int i => i
  | _ => 0
def rdRow (H : Hp) (b : Addr) : List Int := match H b with
  | some (.tup xs) => xs.map rdV
  | _ => []
theorem rdRow_of {H : Hp} {b : Addr} {r : List Int} (h : H b = some (.tup (r.map V.int))) : rdRow H b = r := by
  unfold rdRow
  rw [h]
  show (r.map V.int).map rdV = r
  rw [List.map_map]
  exact List.map_id' r
theorem key_row (r : List Int) : (r.map (Sum.inl : Int → Key)).map kV = r.map V.int := by
  rw [List.map_map]
  rfl
theorem keys_at {H : Hp} : ∀ {kvs : List (List Key × V)} {bs : List Addr}, IsKeys H kvs bs → (∀ b ∈ bs, ∃ p ∈ kvs, H b = some (.tup (p.1.map kV))) ∧ ∀ p ∈ kvs, ∃ b ∈ bs, H b = some (.tup (p.1.map kV)) := by
  intro kvs bs h
  induction h with
  | nil => exact ⟨fun b hb => (nomatch hb), fun p hp => (nomatch hp)⟩
  | @cons p b ps bs h t ih =>
    refine ⟨fun c hc => ?_, fun q hq => ?_⟩
    · rcases List.mem_cons.mp hc with z | z
      · exact ⟨p, List.mem_cons_self, by rw [z]; exact h⟩
      · obtain ⟨q, h1, h2⟩ := ih.1 c z
        exact ⟨q, List.mem_cons_of_mem _ h1, h2⟩
    · rcases List.mem_cons.mp hq with z | z
      · exact ⟨b, List.mem_cons_self, by rw [z]; exact h⟩
      · obtain ⟨c, h1, h2⟩ := ih.2 q z
        exact ⟨c, List.mem_cons_of_mem _ h1, h2⟩
theorem keys_len {H : Hp} {kvs : List (List Key × V)} {bs : List Addr} (h : IsKeys H kvs bs) : bs.length = kvs.length := by
  induction h with
  | nil => rfl
  | cons h t ih => rw [List.length_cons, List.length_cons, ih]
theorem keys_put (kvs : List (List Key × V)) (k : List Key) (v : V) (q : List Key) : q ∈ (putK kvs k v).map (·.1) ↔ q ∈ kvs.map (·.1) ∨ q = k := by
  have h1 : ∀ (l : List (List Key × V)) (q : List Key), q ∈ l.map (·.1) ↔ (valV l q).isSome = true := fun l q => by
    rw [← valV_any, List.any_eq_true]
    constructor
    · intro h
      obtain ⟨p, hp, e⟩ := List.mem_map.mp h
      exact ⟨p, hp, decide_eq_true e⟩
    · rintro ⟨p, hp, e⟩
      exact List.mem_map.mpr ⟨p, hp, of_decide_eq_true e⟩
  rw [h1, h1, valV_put]
  by_cases e : q = k
  · rw [if_pos e]
    exact ⟨fun _ => .inr e, fun _ => rfl⟩
  · rw [if_neg e]
    exact ⟨fun h => .inl h, fun h => h.elim id fun z => absurd z e⟩
section
variable {P : Program} {w : World} {K : PySem.W.Frag} {mg : Str → Option Value} {base : Heap}
/-! ### Relation.__init__ -/
def spRelInit (K : PySem.W.Frag) : Sp := fun vs H Q _ => ∃ (p dx : Addr) (n : Int) (v : V) (rows : List (List Int)), vs = [.ref p, .int n, v] ∧ H p = some (.ins (He.ga K "Relation") dx []) ∧ RowsU K H v rows ∧ RelG (n, rows) ∧
  ∀ H' rows', SX p H H' → RelAt K H' p (n, rows') → RelG (n, rows') → (∀ r, r ∈ rows' ↔ r ∈ rows) → Q .non H'
theorem ok_Relation_init (T : Txt K mg) : Ok P w K mg base 4 d_Relation_init ["self", "size", "rows"] (spRelInit K) := by
  have G_is_below : Ok P w K mg base 1 d_is_below ["value", "limit"] (spNum K) := ok_is_below T
  have G_are_rows : Ok P w K mg base 3 d_are_rows ["rows", "size"] (spRows K) := ok_are_rows T
  obtain ⟨tMP, h_MOST_PLACES⟩ := T.i_MOST_PLACES
  refine T.F_Relation_init.ok sc_Relation_init (fun vs H Q E h => ?_) (fun cdv A outer s H vs Q E hr h => ?_)
  · obtain ⟨p, dx, n, v, rows, rfl, _⟩ := h
    rfl
  obtain ⟨p, dx, n, v, rows, rfl, hp, hR, G, q⟩ := h
  have g1 : 1 ≤ n := G.lo
  have g4 : n ≤ 4 := G.hi
  have gb : ∀ r ∈ rows, r.length = n.toNat ∧ bitRow r := G.rows
  refine ⟨_, PSs.nox (
  (pss_cons (ps_if (PW.pt (pw_or (pt_not (pt_val (pe_call G_is_below (hr.mono (by omega)) (by rfl) T.g_is_below T.F_is_below.kp T.b_is_below .nil pass0 (pa_cons (pv 1) (pa_cons (pe_op op_add (pe_glob (v := .int 4) rfl h_MOST_PLACES ⟨_, rfl⟩) pe_int) pa_nil))))) (pw_or (pt_cmpR op_eq (pv 1) pe_int (nomark _)) (pw_or1 (pt_not (pt_val (pe_call G_are_rows (hr.mono (by omega)) (by rfl) T.g_are_rows T.F_are_rows.kp T.b_are_rows .nil pass0 (pa_cons (pv 2) (pa_cons (pv 1) pa_nil)))))))))
      (pss_one ps_never)
      pss_nil)
    (pss_cons (ps_fld (pv 0) (pv 1) rfl)
    (pss_one (ps_fld (pv 0) (pe_callTy call_tuple_of (by rfl) T.z_tuple (by decide +kernel) (pa_cons (pe_callB (cr_sortedDT (d := n.toNat) (B := 2) (by omega) rfl) (by rfl) T.z_sorted (by decide +kernel) (pa_cons (pe_dcT (own := [("row", 3)]) hr.units0 rfl sc_Relation_init.nd (pi_tup (pv 2)) (blkOk_by (own := [("row", 3)]) (N := ["self", "size", "rows", "row"]) (sc := defScope s_Relation_init) (by decide +kernel)) (fun _ _ _ _ _ => (pg_name (i := 3) sc_Relation_init.nd rfl (Or.inl rfl))) (fun _ _ _ _ _ => pts_nil) (fun _ _ _ _ _ => (pv 3)) (fun _ _ _ _ _ => pe_bl)) pa_nil)) pa_nil)) rfl))))
  ), ?_⟩
  have e5 : numB (.int n) (4 + 1) = true := by
    show (decide (0 ≤ n) && decide (n < 4 + 1)) = true
    rw [Bool.and_eq_true, decide_eq_true_eq, decide_eq_true_eq]
    omega
  refine ⟨_, rfl, _, _, rfl, rfl, _, .int n, _, rfl, .int n, _, rfl, ifNT e5 ?_⟩
  refine ⟨_, rfl, rfl, _, rfl, ifF (decide_eq_false fun e => ?_) ?_⟩
  · have e' := V.int.inj e
    omega
  refine ⟨_, rfl, _, rfl, v, rows, n, rfl, hR.dp, G.ne, fun r h => ⟨?_, (gb r h).2⟩, fun H1 s1 => ⟨_, rfl, iteF ?_⟩⟩
  · have := (gb r h).1
    omega
  -- self.size = size
  refine ⟨_, rfl, _, rfl, p, _, dx, [], rfl, s1 _ _ hp, T.c_Relation, T.n_Relation_size, (by show 0 < 1000; decide), ?_⟩
  have x1 : SX p H (upd H1 p (.ins (He.ga K "Relation") dx (putF "size" (.int n) []))) := sx_at _ (sx_same s1)
  generalize hH2 : upd H1 p (.ins (He.ga K "Relation") dx (putF "size" (.int n) [])) = H2 at x1 ⊢
  have hp2 : H2 p = some (.ins (He.ga K "Relation") dx [("size", .int n)]) := by
    rw [← hH2, upd_same]
    rfl
  have hR2 : RowsU K H2 v rows := by
    obtain ⟨a, xs, h1, h2, h3, h4⟩ := hR
    have im : ∀ {b : Addr} {ys : List V}, H b = some (.tup ys) → H2 b = some (.tup ys) := fun {b ys} e => x1 b _ (by rintro rfl; rw [hp] at e; cases e) e
    refine ⟨a, xs, h1, ?_, h3, fun i r hr => let ⟨b, q1, q2⟩ := h4 i r hr; ⟨b, q1, im q2⟩⟩
    rcases h2 with (h2 | ⟨o, h2⟩) | h2
    · exact .inl (.inl (im h2))
    · exact .inl (.inr ⟨o, x1 a _ (by rintro rfl; rw [hp] at h2; cases h2) h2⟩)
    · exact .inr h2
  -- the dict of the rows
  obtain ⟨a, xs, rfl, hs, hl, hx⟩ := hR2
  refine ⟨_, rfl, a, rfl, ⟨xs, hs⟩, fun D hD => dcT_tup (xs := xs) (fun i H' => Same H2 H' ∧ ∃ kvs, H' D = some (.dT kvs) ∧ kvs.length ≤ i ∧ (∀ p ∈ kvs, ∃ r ∈ rows, p.1 = r.map Sum.inl) ∧ ∀ r ∈ rows.take i, r.map Sum.inl ∈ kvs.map (·.1))
    ⟨same_new _ hD, [], upd_same, Nat.le_refl _, fun p h => (nomatch h), fun r h => (nomatch h)⟩ (fun i H' _ h => sqT_same h.1 hs) ?_ ?_⟩
  · rintro i x H' hi ⟨sm, kvs, hk, hkl, hk1, hk2⟩
    have hlt := (List.getElem?_eq_some_iff.mp hi).1
    have hlt2 : i < rows.length := by omega
    obtain ⟨b, hb1, hb2⟩ := hx i rows[i] (List.getElem?_eq_getElem hlt2)
    rw [hi] at hb1
    cases hb1
    have h16 : rows.length ≤ 16 := G.len
    refine ⟨rfl, _, rfl, kvs, rows[i].map Sum.inl, b, rfl, ?_, hk, small1000 (by omega), ?_⟩
    · rw [key_row]
      exact sm _ _ hb2
    · refine ⟨same_mut _ sm hD, _, upd_same, ?_, fun p h => ?_, fun r h => ?_⟩
      · have := length_putK kvs (rows[i].map Sum.inl) (.bl true)
        omega
      · have hm : p.1 ∈ (putK kvs (rows[i].map Sum.inl) (.bl true)).map (·.1) := List.mem_map.mpr ⟨p, h, rfl⟩
        rcases (keys_put _ _ _ _).mp hm with z | z
        · obtain ⟨p', h1, h2⟩ := List.mem_map.mp z
          obtain ⟨r, h3, h4⟩ := hk1 p' h1
          exact ⟨r, h3, by rw [← h2, h4]⟩
        · exact ⟨rows[i], List.getElem_mem hlt2, z⟩
      · rw [List.take_succ, List.getElem?_eq_getElem hlt2] at h
        refine (keys_put _ _ _ _).mpr ?_
        rcases List.mem_append.mp h with z | z
        · exact .inl (hk2 r z)
        · have e : r = rows[i] := by simpa using z
          exact .inr (by rw [e])
  rintro H3 ⟨sm, kvs, hk, hkl, hk1, hk2⟩
  have h16 : rows.length ≤ 16 := G.len
  refine ⟨D, kvs, rfl, hk, by omega, fun p h => ?_, fun bs l hln hbs => ?_⟩
  · obtain ⟨r, hr1, hr2⟩ := hk1 p h
    obtain ⟨h1, h2⟩ := gb r hr1
    refine ⟨r, hr2, h1, fun m hm => ?_⟩
    rcases h2 m hm with z | z <;> omega
  obtain ⟨bs0, hb0, hpm⟩ := hbs
  refine ⟨l, _, rfl, .inl ⟨.inl (.inl upd_same), fun t ht => ?_⟩⟩
  -- self.rows = ..
  generalize hH4 : upd (upd H3 l (.lst (bs.map V.ref))) t (.tup (bs.map V.ref)) = H4
  have s4 : Same H3 H4 := by
    rw [← hH4]
    exact same_nw _ (same_new _ hln) ht
  have ht4 : H4 t = some (.tup (bs.map V.ref)) := by
    rw [← hH4]
    exact upd_same
  have s24 : Same H2 H4 := sm.trans s4
  refine ⟨_, rfl, p, _, dx, _, rfl, s24 _ _ hp2, T.c_Relation, T.n_Relation_rows, (by show 1 < 1000; decide), ?_⟩
  obtain ⟨ka, kb⟩ := keys_at hb0
  have row_at : ∀ b ∈ bs0, ∃ r ∈ rows, H3 b = some (.tup (r.map V.int)) := fun b hb => by
    obtain ⟨p', h1, h2⟩ := ka b hb
    obtain ⟨r, h3, h4⟩ := hk1 p' h1
    rw [h4, key_row] at h2
    exact ⟨r, h3, h2⟩
  have hrows : ∀ r, r ∈ bs.map (rdRow H3) ↔ r ∈ rows := fun r => by
    rw [List.mem_map]
    constructor
    · rintro ⟨b, hb, rfl⟩
      obtain ⟨r, h1, h2⟩ := row_at b (hpm.mem_iff.mp hb)
      rw [rdRow_of h2]
      exact h1
    · intro hr
      obtain ⟨i, hi, e⟩ := List.getElem_of_mem hr
      have hm := hk2 r (by
        rw [← hl] at hi
        rw [List.take_of_length_le (by omega)]
        exact hr)
      obtain ⟨p', h1, h2⟩ := List.mem_map.mp hm
      obtain ⟨b, h3, h4⟩ := kb p' h1
      have h2' : p'.1 = r.map Sum.inl := h2
      rw [h2', key_row] at h4
      exact ⟨b, hpm.mem_iff.mpr h3, rdRow_of h4⟩
  refine q _ (bs.map (rdRow H3)) (sx_at _ (x1.trans (sx_same s24))) ⟨dx, .ref t, ?_, ?_⟩ ⟨g1, g4, ?_, ?_, fun r hr => gb r ((hrows r).mp hr)⟩ hrows
  · rw [upd_same]
    rfl
  · have hne : ∀ {b : Addr} {ys : List V}, H4 b = some (.tup ys) → b ≠ p := fun {b ys} e => by
      rintro rfl
      rw [s24 _ _ hp2] at e
      cases e
    refine .tup (.inl (.inl (by rw [upd_ne (hne ht4)]; exact ht4))) (dpAll_of (by rw [List.length_map, List.length_map, List.length_map]) fun i d hd => ?_)
    rw [List.map_map, List.getElem?_map] at hd
    obtain ⟨b, hb, rfl⟩ := Option.map_eq_some_iff.mp hd
    obtain ⟨r, h1, h2⟩ := row_at b (hpm.mem_iff.mp (List.mem_of_getElem? hb))
    refine ⟨.ref b, by rw [List.getElem?_map, hb]; rfl, ?_⟩
    show Dp K _ (.ref b) (eI (rdRow H3 b))
    rw [rdRow_of h2]
    refine eI_mk (.inl (.inl ?_))
    rw [upd_ne (hne (s4 _ _ h2))]
    exact s4 _ _ h2
  · intro e
    obtain ⟨r0, h0⟩ := List.exists_mem_of_ne_nil _ G.ne
    have h1 := (hrows r0).mpr h0
    rw [show bs.map (rdRow H3) = [] from e] at h1
    cases h1
  · show (bs.map (rdRow H3)).length ≤ 16
    have h2 := keys_len hb0
    have h3 := hpm.length_eq
    rw [List.length_map]
    omega
end
end EC


set_option Elab.async false
set_option linter.all false
set_option maxRecDepth 100000
set_option maxHeartbeats 4000000
namespace EC
open PySem PySem.Spec PyProof.Rows L2
theorem at_nn {α : Type} {xs : List α} {i : Int} {v : α} (h0 : 0 ≤ i) (h : xs[i.toNat]? = some v) : atI xs i = some v := by
  have := atI_nat h
  rwa [Int.toNat_of_nonneg h0] at this
section
variable {P : Program} {w : World} {K : PySem.W.Frag} {mg : Str → Option Value} {base : Heap}
theorem kit_ll {t : Value} (h : PySem.W.kitOne K t (.type "list") = some true) : PySem.W.kitAny K t [.type "list", .type "tuple"] = some true :=
  kitAny_cons h (fun z => nomatch z) fun _ => rfl
theorem Txt.isi_Relation (T : Txt K mg) : C8.InsC K (He.ga K "Relation") := T.isi (He.ba (He.ba (He.ba T.ex).2).2).1 T.c_Relation
theorem Txt.isi_Book (T : Txt K mg) : C8.InsC K (He.ga K "Book") := T.isi (He.ba (He.ba (He.ba T.ex).2).2).2 T.c_Book
/-! ### are_relations -/
def spRels (K : PySem.W.Frag) : Sp := fun vs H Q _ => ∃ (l : Addr) (xs : List V) (bk : List Rel), vs = [.ref l] ∧ H l = some (.lst xs) ∧ RelsAt K H xs bk ∧ 1 ≤ bk.length ∧ bk.length ≤ 6 ∧ ∀ H', Same H H' → Q (.bl true) H'
theorem ok_are_relations (T : Txt K mg) : Ok P w K mg base 1 d_are_relations ["relations"] (spRels K) := by
  obtain ⟨tMR, h_MOST_RELATIONS⟩ := T.i_MOST_RELATIONS
  refine T.F_are_relations.ok sc_are_relations (fun vs H Q E h => ?_) (fun cdv A outer s H vs Q E hr h => ?_)
  · obtain ⟨l, xs, bk, rfl, _⟩ := h
    rfl
  obtain ⟨l, xs, bk, rfl, hl, hR, hb1, hb6, q⟩ := h
  refine ⟨_, PSs.nox (
  (pss_cons (ps_if (PW.pt (pw_or (pt_not (pt_val (pe_callB call_isiT (by rfl) T.z_isinstance (by decide +kernel) (pa_cons (pv 0) (pa_cons (pe_tup (pa_cons (pe_bltn (v := .ty "list") (by rfl) T.z_list (by decide +kernel) rfl) (pa_cons (pe_bltn (v := .ty "tuple") (by rfl) T.z_tuple (by decide +kernel) rfl) pa_nil))) pa_nil))))) (pw_or1 (pt_not (pt_chain op_le op_le pe_int (pe_callB call_len_seq (by rfl) T.z_len PySem.boot_len (pa_cons (pv 0) pa_nil)) (pe_glob (v := .int 6) rfl h_MOST_RELATIONS ⟨_, rfl⟩))))))
      (pss_one (ps_ret pe_bl))
      pss_nil)
    (pss_cons (ps_for PassesOwn.never rfl (pi_list (pv 0)) (pg_name (i := 1) sc_are_relations.nd rfl (Or.inl rfl))
      (pss_one (ps_if (pt_not (pt_val (pe_callB (C8.call_isC T.isi_Relation) (by rfl) T.z_isinstance (by decide +kernel) (pa_cons (pv 1) (pa_cons (pe_glob (v := .ref (He.ga K "Relation")) rfl T.g_Relation rfl) pa_nil)))))
        (pss_one (ps_ret pe_bl))
        pss_nil)))
    (pss_one (ps_ret pe_bl))))
  ), ?_⟩
  refine ⟨_, rfl, (by show 2 ≤ sizeLine; decide), fun T0 hT => ?_⟩
  have s1 : Same H (upd H T0 (.tup [.ty "list", .ty "tuple"])) := same_new _ hT
  have hs1 : SqL K (upd H T0 (.tup [.ty "list", .ty "tuple"])) l xs := .inl (.inl (s1 _ _ hl))
  have hxl := hR.1
  refine ⟨_, T0, _, _, _, true, rfl, upd_same, .cons (.ty _) (.cons (.ty _) .nil), tyx_lst hs1, kit_ll (kit_ty (show kitB "list" "list" = some true by decide +kernel)), _, rfl, iteF ?_⟩
  refine ⟨_, rfl, l, xs, rfl, .inl hs1, _, _, rfl, rfl, _, rfl, ?_⟩
  rw [decide_eq_true (show (1 : Int) ≤ (xs.length : Int) by omega)]
  refine iteT ⟨_, _, rfl, rfl, _, rfl, ?_⟩
  rw [decide_eq_true (show (xs.length : Int) ≤ 6 by omega)]
  refine iteF ?_
  refine ⟨_, rfl, l, rfl, ⟨_, hs1⟩, for_list (xs := xs) (fun i σ H' => ∃ o, σ = [some (.ref l), o] ∧ Same H H') ⟨_, rfl, s1⟩ (fun i σ H' _ h => by obtain ⟨_, _, e⟩ := h; exact .inl (.inl (e _ _ hl))) ?_ ?_⟩
  · rintro i x σ H' hi ⟨o, rfl, sm⟩
    have hlt := (List.getElem?_eq_some_iff.mp hi).1
    have hlt2 : i < bk.length := by omega
    obtain ⟨p, hp, dx, b, h1, h2⟩ := hR.2 i bk[i] (List.getElem?_eq_getElem hlt2)
    rw [hi] at hp
    cases hp
    exact ⟨_, rfl, _, _, _, rfl, sm _ _ h1, _, rfl, iteF ⟨_, rfl, sm⟩⟩
  · rintro σ H' ⟨o, rfl, sm⟩
    exact q _ sm
/-! ### Book.__init__, Book.__len__ -/
def spBookInit (K : PySem.W.Frag) : Sp := fun vs H Q _ => ∃ (p dx l : Addr) (xs : List V) (bk : List Rel) (H0 : Hp), vs = [.ref p, .ref l] ∧ H p = some (.ins (He.ga K "Book") dx []) ∧ H0 p = none ∧ Same H0 H ∧ H0 l = some (.lst xs) ∧ RelsAt K H0 xs bk ∧ 1 ≤ bk.length ∧ bk.length ≤ 6 ∧ ∀ H', Same H0 H' → BookAt K H' p bk → Q .non H'
theorem ok_Book_init (T : Txt K mg) : Ok P w K mg base 2 d_Book_init ["self", "relations"] (spBookInit K) := by
  have G_are_relations : Ok P w K mg base 1 d_are_relations ["relations"] (spRels K) := ok_are_relations T
  refine T.F_Book_init.ok sc_Book_init (fun vs H Q E h => ?_) (fun cdv A outer s H vs Q E hr h => ?_)
  · obtain ⟨p, dx, l, xs, bk, H0, rfl, _⟩ := h
    rfl
  obtain ⟨p, dx, l, xs, bk, H0, rfl, hp, hp0, s0, hl, hR, hb1, hb6, q⟩ := h
  refine ⟨_, PSs.nox (
  (pss_cons (ps_if (pt_not (pt_val (pe_call G_are_relations (hr.mono (by omega)) (by rfl) T.g_are_relations T.F_are_relations.kp T.b_are_relations .nil pass0 (pa_cons (pv 1) pa_nil))))
      (pss_one ps_never)
      pss_nil)
    (pss_cons (ps_fld (pv 0) (pe_callTy call_tuple_of (by rfl) T.z_tuple (by decide +kernel) (pa_cons (pv 1) pa_nil)) rfl)
    (pss_one (ps_fld (pv 0) (pe_callTy call_tuple_of (by rfl) T.z_tuple (by decide +kernel) (pa_cons (pe_lc (own := [("relation", 2)]) rfl sc_Book_init.nd (pi_list (pv 1)) (blkOk_by (own := [("relation", 2)]) (N := ["self", "relations", "relation"]) (sc := defScope s_Book_init) (by decide +kernel)) (fun _ _ _ _ _ => (pg_name (i := 2) sc_Book_init.nd rfl (Or.inl rfl))) (fun _ _ _ _ _ => pts_nil) (fun _ _ _ _ _ => (pe_tup (pa_cons (pe_fldK (K := K) rfl (pv 2) (by rfl)) (pa_cons (pe_fldK (K := K) rfl (pv 2) (by rfl)) pa_nil))))) pa_nil)) rfl))))
  ), ?_⟩
  have hxl := hR.1
  refine ⟨_, rfl, l, xs, bk, rfl, s0 _ _ hl, hR.im (im_same s0), hb1, hb6, fun H1 s1 => ⟨_, rfl, iteF ?_⟩⟩
  refine ⟨_, rfl, l, xs, rfl, .inl ⟨.inl (.inl (s1 _ _ (s0 _ _ hl))), fun t ht => ?_⟩⟩
  have s2 : Same H (upd H1 t (.tup xs)) := same_nw _ s1 ht
  refine ⟨_, rfl, p, _, dx, [], rfl, s2 _ _ hp, T.c_Book, T.n_Book_relations, (by show 0 < 1000; decide), ?_⟩
  have x2 : Same H0 (upd (upd H1 t (.tup xs)) p (.ins (He.ga K "Book") dx (putF "relations" (.ref t) []))) := same_mut _ (s0.trans s2) hp0
  have htp : t ≠ p := by
    rintro rfl
    rw [s1 _ _ hp] at ht
    cases ht
  have ht2 : upd (upd H1 t (.tup xs)) p (.ins (He.ga K "Book") dx (putF "relations" (.ref t) [])) t = some (.tup xs) := by
    rw [upd_ne htp, upd_same]
  have hp2 : upd (upd H1 t (.tup xs)) p (.ins (He.ga K "Book") dx (putF "relations" (.ref t) [])) p = some (.ins (He.ga K "Book") dx [("relations", .ref t)]) := by
    rw [upd_same]
    rfl
  generalize hH2 : upd (upd H1 t (.tup xs)) p (.ins (He.ga K "Book") dx (putF "relations" (.ref t) [])) = H2 at x2 ht2 hp2 ⊢
  have hl2 : H2 l = some (.lst xs) := x2 _ _ hl
  have hR2 : RelsAt K H2 xs bk := hR.im (im_same x2)
  refine ⟨_, rfl, l, rfl, ⟨xs, .inl (.inl hl2)⟩, fun D hD => lc_list (xs := xs) (fun i H' => Same H2 H' ∧ ∃ acc, H' D = some (.lst acc) ∧ acc.length = i)
    ⟨same_new _ hD, [], upd_same, rfl⟩ (fun i H' _ h => .inl (.inl (h.1 _ _ hl2))) ?_ ?_⟩
  · rintro i x H' hi ⟨sm, acc, ha, hal⟩
    have hlt := (List.getElem?_eq_some_iff.mp hi).1
    have hlt2 : i < bk.length := by omega
    obtain ⟨a, h0, dx', b, h1, h2⟩ := hR2.2 i bk[i] (List.getElem?_eq_getElem hlt2)
    rw [hi] at h0
    cases h0
    refine ⟨rfl, _, rfl, a, _, dx', _, _, rfl, sm _ _ h1, T.c_Relation, T.n_Relation_size, rfl, ?_⟩
    refine ⟨_, rfl, a, _, dx', _, _, rfl, sm _ _ h1, T.c_Relation, T.n_Relation_rows, rfl, ?_⟩
    refine ⟨(by show 2 ≤ sizeLine; decide), fun u hu => ⟨acc, same_new _ hu _ _ ha, small1000 (by omega), ?_⟩⟩
    exact ⟨same_mut _ (same_nw _ sm hu) hD, _, upd_same, by rw [List.length_append, hal]; rfl⟩
  rintro H3 ⟨s3, acc, hacc, hal⟩
  refine ⟨D, acc, rfl, .inl ⟨.inl (.inl hacc), fun u hu => ?_⟩⟩
  have s4 : Same H2 (upd H3 u (.tup acc)) := same_nw _ s3 hu
  refine ⟨_, rfl, p, _, dx, _, rfl, s4 _ _ hp2, T.c_Book, T.n_Book_plain, (by show 1 < 1000; decide), ?_⟩
  have s5 : Same H0 (upd (upd H3 u (.tup acc)) p (.ins (He.ga K "Book") dx (putF "plain" (.ref u) [("relations", .ref t)]))) := same_mut _ (x2.trans s4) hp0
  refine q _ s5 ⟨dx, t, .ref u, xs, ?_, ?_, hR.im (im_same s5)⟩
  · rw [upd_same]
    rfl
  · refine .inl (.inl ?_)
    rw [upd_ne htp]
    exact s4 _ _ ht2
def spBookLen (K : PySem.W.Frag) : Sp := fun vs H Q _ => ∃ (p : Addr) (bk : List Rel), vs = [.ref p] ∧ BookAt K H p bk ∧ Q (.int bk.length) H
theorem ok_Book_len (T : Txt K mg) : Ok P w K mg base 1 d_Book_len ["self"] (spBookLen K) := by
  refine T.F_Book_len.ok sc_Book_len (fun vs H Q E h => ?_) (fun cdv A outer s H vs Q E hr h => ?_)
  · obtain ⟨p, bk, rfl, _⟩ := h
    rfl
  obtain ⟨p, bk, rfl, ⟨dx, a, b, xs, h1, h2, h3⟩, q⟩ := h
  refine ⟨_, PSs.nox (
  (pss_one (ps_ret (pe_callB call_len_seq (by rfl) T.z_len PySem.boot_len (pa_cons (pe_fldK (K := K) rfl (pv 0) (by rfl)) pa_nil))))
  ), ?_⟩
  refine ⟨_, rfl, p, _, dx, _, _, rfl, h1, T.c_Book, T.n_Book_relations, rfl, a, xs, rfl, .inr h2, ?_⟩
  rw [h3.1]
  exact q
/-! ### are_cells, is_tie -/
def spCells (K : PySem.W.Frag) : Sp := fun vs H Q _ => ∃ (c : Addr) (cs : List Int) (m n : Int), vs = [.ref c, .int m, .int n] ∧ SqT K H c (cs.map V.int) ∧ (cs.length : Int) = m ∧ (∀ x ∈ cs, 0 ≤ x ∧ x < n) ∧ Q (.bl true) H
theorem ok_are_cells (T : Txt K mg) : Ok P w K mg base 2 d_are_cells ["value", "count", "cell_count"] (spCells K) := by
  have G_is_below : Ok P w K mg base 1 d_is_below ["value", "limit"] (spNum K) := ok_is_below T
  refine T.F_are_cells.ok sc_are_cells (fun vs H Q E h => ?_) (fun cdv A outer s H vs Q E hr h => ?_)
  · obtain ⟨c, cs, m, n, rfl, _⟩ := h
    rfl
  obtain ⟨c, cs, m, n, rfl, hc, hm, hb, q⟩ := h
  refine ⟨_, PSs.nox (
  (pss_cons (ps_if (PW.pt (pw_or (pt_not (pt_val (pe_callB call_isi (by rfl) T.z_isinstance (by decide +kernel) (pa_cons (pv 0) (pa_cons (pe_bltn (v := .ty "tuple") (by rfl) T.z_tuple (by decide +kernel) rfl) pa_nil))))) (pw_or1 (pt_cmpR op_ne (pe_callB call_len_seq (by rfl) T.z_len PySem.boot_len (pa_cons (pv 0) pa_nil)) (pv 1) (nomark _)))))
      (pss_one (ps_ret pe_bl))
      pss_nil)
    (pss_cons (ps_for PassesOwn.never rfl (pi_tup (pv 0)) (pg_name (i := 3) sc_are_cells.nd rfl (Or.inl rfl))
      (pss_one (ps_if (pt_not (pt_val (pe_call G_is_below (hr.mono (by omega)) (by rfl) T.g_is_below T.F_is_below.kp T.b_is_below .nil pass0 (pa_cons (pv 3) (pa_cons (pv 2) pa_nil)))))
        (pss_one (ps_ret pe_bl))
        pss_nil)))
    (pss_one (ps_ret pe_bl))))
  ), ?_⟩
  refine ⟨_, rfl, _, _, _, _, _, rfl, .ty _, tyx_tup hc, kit_ty (show kitB "tuple" "tuple" = some true by decide +kernel), _, rfl, iteF ?_⟩
  refine ⟨_, rfl, c, _, rfl, .inr hc, _, rfl, rfl, _, rfl, iteNS (by rw [List.length_map, hm]) ?_⟩
  refine ⟨_, rfl, c, rfl, ⟨_, hc⟩, for_tup (xs := cs.map V.int) (fun i σ H' => ∃ o, σ = [some (.ref c), some (.int m), some (.int n), o] ∧ H' = H) ⟨_, rfl, rfl⟩ (fun i σ H' _ h => by obtain ⟨_, _, rfl⟩ := h; exact hc) ?_ ?_⟩
  · rintro i x σ H' hx ⟨o, rfl, rfl⟩
    rw [List.getElem?_map] at hx
    obtain ⟨z, hz, rfl⟩ := Option.map_eq_some_iff.mp hx
    have h2 := hb z (List.mem_of_getElem? hz)
    have h3 : numB (.int z) n = true := by
      show (decide (0 ≤ z) && decide (z < n)) = true
      rw [decide_eq_true h2.1, decide_eq_true h2.2]
      rfl
    refine ⟨_, rfl, _, rfl, _, .int z, n, rfl, .int z, _, rfl, ifNT h3 ?_⟩
    exact ⟨_, rfl, rfl⟩
  · rintro σ H' ⟨o, rfl, rfl⟩
    exact q
def spTie (K : PySem.W.Frag) : Sp := fun vs H Q _ => ∃ (b : Addr) (bk : List Rel) (n : Nat) (x : V) (tie : Tie), vs = [.ref b, .int n, x] ∧ BookAt K H b bk ∧ bk.length ≤ 6 ∧ (∀ rel ∈ bk, RelG rel) ∧ TieAt K H x tie ∧ TieG bk n tie ∧ Q (.bl true) H
theorem ok_is_tie (T : Txt K mg) : Ok P w K mg base 3 d_is_tie ["book", "cell_count", "value"] (spTie K) := by
  have G_is_below : Ok P w K mg base 1 d_is_below ["value", "limit"] (spNum K) := ok_is_below T
  have G_Book_len : Ok P w K mg base 1 d_Book_len ["self"] (spBookLen K) := ok_Book_len T
  have G_are_cells : Ok P w K mg base 2 d_are_cells ["value", "count", "cell_count"] (spCells K) := ok_are_cells T
  refine T.F_is_tie.ok sc_is_tie (fun vs H Q E h => ?_) (fun cdv A outer s H vs Q E hr h => ?_)
  · obtain ⟨b, bk, n, x, tie, rfl, _⟩ := h
    rfl
  obtain ⟨b, bk, n, x, tie, rfl, hB, hb6, hG, hT, g, q⟩ := h
  refine ⟨_, PSs.nox (
  (pss_cons (ps_if (PW.pt (pw_or (pt_not (pt_val (pe_callB call_isi (by rfl) T.z_isinstance (by decide +kernel) (pa_cons (pv 2) (pa_cons (pe_bltn (v := .ty "tuple") (by rfl) T.z_tuple (by decide +kernel) rfl) pa_nil))))) (pw_or (pt_cmpR op_ne (pe_callB call_len_seq (by rfl) T.z_len PySem.boot_len (pa_cons (pv 2) pa_nil)) pe_int (nomark _)) (pw_or1 (pt_not (pt_val (pe_call G_is_below (hr.mono (by omega)) (by rfl) T.g_is_below T.F_is_below.kp T.b_is_below .nil pass0 (pa_cons (pe_ix ix_tup (pv 2) pe_int (fun _ _ => rfl)) (pa_cons (pe_callB (call_lenOwn G_Book_len (hr.mono (by omega)) T.h_Book_len T.b_Book_len pass0) (by rfl) T.z_len PySem.boot_len (pa_cons (pv 0) pa_nil)) pa_nil)))))))))
      (pss_one (ps_ret pe_bl))
      pss_nil)
    (pss_one (ps_ret (pe_call G_are_cells (hr.mono (by omega)) (by rfl) T.g_are_cells T.F_are_cells.kp T.b_are_cells .nil pass0 (pa_cons (pe_ix ix_tup (pv 2) pe_int (fun _ _ => rfl)) (pa_cons (pe_fldK (K := K) rfl (pe_ix ix_tup (pe_fldK (K := K) rfl (pv 0) (by rfl)) (pe_ix ix_tup (pv 2) pe_int (fun _ _ => rfl)) (fun _ _ => rfl)) (by rfl)) (pa_cons (pv 1) pa_nil)))))))
  ), ?_⟩
  obtain ⟨a, c, rfl, ht, hc⟩ := hT
  have hB' := hB
  obtain ⟨dx, br, bp, xs, h1, h2, h3⟩ := hB
  obtain ⟨rel, hrel, hlen⟩ := g.rel
  have hlo := g.lo
  have hlt : tie.1.toNat < bk.length := (List.getElem?_eq_some_iff.mp hrel).1
  have hrg := hG rel (List.mem_of_getElem? hrel)
  obtain ⟨p, hp, dxr, rb, hr1, hr2⟩ := h3.2 _ rel hrel
  have hnb : numB (.int tie.1) (bk.length : Int) = true := by
    show (decide (0 ≤ tie.1) && decide (tie.1 < (bk.length : Int))) = true
    rw [decide_eq_true hlo, decide_eq_true (show tie.1 < (bk.length : Int) by omega)]
    rfl
  have hat : atI xs tie.1 = some (.ref p) := at_nn hlo hp
  refine ⟨_, rfl, _, _, _, _, _, rfl, .ty _, tyx_tup ht, kit_ty (show kitB "tuple" "tuple" = some true by decide +kernel), _, rfl, iteF ?_⟩
  refine ⟨_, rfl, a, _, rfl, .inr ht, rfl, _, rfl, iteNS rfl ?_⟩
  refine ⟨_, rfl, a, _, _, _, rfl, rfl, ht, rfl, _, rfl, b, dx, _, rfl, h1, ⟨b, bk, rfl, hB', _, rfl, by omega, by omega, ?_⟩⟩
  refine ⟨_, _, _, rfl, .int _, _, rfl, ifNT hnb ?_⟩
  refine ⟨_, rfl, a, _, _, _, rfl, rfl, ht, rfl, ?_⟩
  refine ⟨_, rfl, b, _, dx, _, _, rfl, h1, T.c_Book, T.n_Book_relations, rfl, ?_⟩
  refine ⟨_, rfl, a, _, _, _, rfl, rfl, ht, rfl, br, xs, _, _, rfl, rfl, h2, hat, ?_⟩
  refine ⟨p, _, dxr, _, _, rfl, hr1, T.c_Relation, T.n_Relation_size, rfl, ?_⟩
  refine ⟨_, rfl, c, tie.2, rel.1, n, rfl, hc.sq, ?_, g.cells, q⟩
  have := hrg.lo
  omega
/-! ### Puzzle.__init__ -/
def spPuzInit (K : PySem.W.Frag) : Sp := fun vs H Q _ => ∃ (p dx b : Addr) (n : Nat) (t : V) (H0 : Hp) (bk : List Rel) (ties : List Tie), vs = [.ref p, .ref b, .int n, t] ∧ H p = some (.ins (He.ga K "Puzzle") dx []) ∧ H0 p = none ∧ Same H0 H ∧ BookAt K H0 b bk ∧ bk.length ≤ 6 ∧ (∀ rel ∈ bk, RelG rel) ∧
  TiesAt K H0 t ties ∧ (∀ tie ∈ ties, TieG bk n tie) ∧ ∀ H', Same H0 H' → PuzAt K H' p bk ties n → Q .non H'
theorem ok_Puzzle_init (T : Txt K mg) : Ok P w K mg base 4 d_Puzzle_init ["self", "book", "cell_count", "ties"] (spPuzInit K) := by
  have G_is_tie : Ok P w K mg base 3 d_is_tie ["book", "cell_count", "value"] (spTie K) := ok_is_tie T
  refine T.F_Puzzle_init.ok sc_Puzzle_init (fun vs H Q E h => ?_) (fun cdv A outer s H vs Q E hr h => ?_)
  · obtain ⟨p, dx, b, n, t, H0, bk, ties, rfl, _⟩ := h
    rfl
  obtain ⟨p, dx, b, n, t, H0, bk, ties, rfl, hp, hp0, s0, hB, hb6, hG, hT, hg, q⟩ := h
  refine ⟨_, PSs.nox (
  (pss_cons (ps_if (pt_not (pt_val (pe_callB (C8.call_isC T.isi_Book) (by rfl) T.z_isinstance (by decide +kernel) (pa_cons (pv 1) (pa_cons (pe_glob (v := .ref (He.ga K "Book")) rfl T.g_Book rfl) pa_nil)))))
      (pss_one ps_never)
      pss_nil)
    (pss_cons (ps_if (PW.pt (pw_or (pt_not (pt_val (pe_callB call_isi (by rfl) T.z_isinstance (by decide +kernel) (pa_cons (pv 2) (pa_cons (pe_bltn (v := .ty "int") (by rfl) T.z_int (by decide +kernel) rfl) pa_nil))))) (pw_or (pt_val (pe_callB call_isi (by rfl) T.z_isinstance (by decide +kernel) (pa_cons (pv 2) (pa_cons (pe_bltn (v := .ty "bool") (by rfl) T.z_bool (by decide +kernel) rfl) pa_nil)))) (pw_or1 (pt_cmpR op_lt (pv 2) pe_int (nomark _))))))
      (pss_one ps_never)
      pss_nil)
    (pss_cons (ps_if (pt_not (pt_val (pe_callB call_isiT (by rfl) T.z_isinstance (by decide +kernel) (pa_cons (pv 3) (pa_cons (pe_tup (pa_cons (pe_bltn (v := .ty "list") (by rfl) T.z_list (by decide +kernel) rfl) (pa_cons (pe_bltn (v := .ty "tuple") (by rfl) T.z_tuple (by decide +kernel) rfl) pa_nil))) pa_nil)))))
      (pss_one ps_never)
      pss_nil)
    (pss_cons (ps_for PassesOwn.never rfl (pi_enumT (by rfl) T.z_enumerate (pa_cons (pv 3) pa_nil)) (pg_tup rfl (pgs_cons (pg_name (i := 4) sc_Puzzle_init.nd rfl (Or.inl rfl)) (pgs_cons (pg_name (i := 5) sc_Puzzle_init.nd rfl (Or.inl rfl)) pgs_nil)))
      (pss_one (ps_if (pt_not (pt_val (pe_call G_is_tie (hr.mono (by omega)) (by rfl) T.g_is_tie T.F_is_tie.kp T.b_is_tie .nil pass0 (pa_cons (pv 1) (pa_cons (pv 2) (pa_cons (pv 5) pa_nil))))))
        (pss_one ps_never)
        pss_nil)))
    (pss_cons (ps_fld (pv 0) (pv 1) rfl)
    (pss_cons (ps_fld (pv 0) (pv 2) rfl)
    (pss_one (ps_fld (pv 0) (pe_callTy call_tuple_of (by rfl) T.z_tuple (by decide +kernel) (pa_cons (pv 3) pa_nil)) rfl))))))))
  ), ?_⟩
  have hB' := hB
  obtain ⟨dxb, br, bp, xs, h1, h2, h3⟩ := hB'
  obtain ⟨a, ts, rfl, ht1, ht2, ht3⟩ := hT
  refine ⟨_, rfl, b, dxb, _, rfl, s0 _ _ h1, _, rfl, iteF ?_⟩
  refine ⟨_, rfl, _, _, _, _, _, rfl, .ty _, .base (.int _), kit_ty (show kitB "int" "int" = some true by decide +kernel), _, rfl, iteF ?_⟩
  refine ⟨_, rfl, _, _, _, _, _, rfl, .ty _, .base (.int _), kit_ty (show kitB "int" "bool" = some false by decide +kernel), _, rfl, iteF ?_⟩
  refine ⟨_, rfl, _, _, rfl, rfl, _, rfl, ifF (decide_eq_false (by omega)) ?_⟩
  refine ⟨_, rfl, (by show 2 ≤ sizeLine; decide), fun T0 hT => ?_⟩
  have s1 : Same H (upd H T0 (.tup [.ty "list", .ty "tuple"])) := same_new _ hT
  have s01 := s0.trans s1
  have hs1 : SqT K (upd H T0 (.tup [.ty "list", .ty "tuple"])) a ts := sqT_same s01 ht1
  refine ⟨_, T0, _, _, _, true, rfl, upd_same, .cons (.ty _) (.cons (.ty _) .nil), tyx_tup hs1, kit_lt (kit_ty (show kitB "tuple" "tuple" = some true by decide +kernel)) (kit_ty (show kitB "tuple" "list" = some false by decide +kernel)), _, rfl, iteF ?_⟩
  generalize hH1 : upd H T0 (.tup [.ty "list", .ty "tuple"]) = H1 at s1 s01 hs1 ⊢
  refine ⟨_, rfl, a, ts, rfl, hs1, for_it (walk_enumT (xs := ts)) (fun i σ H' => ∃ o1 o2, σ = [some (.ref p), some (.ref b), some (.int n), some (.ref a), o1, o2] ∧ Same H1 H') ⟨_, _, rfl, .refl _⟩ (fun i σ H' _ h => by obtain ⟨_, _, _, e⟩ := h; exact sqT_same e hs1) ?_ ?_⟩
  · rintro i x σ H' H2 hi ⟨o1, o2, rfl, sm⟩ ⟨T1, x1, x2, rfl, hT1, rfl, e1, e2⟩
    cases e1
    have hi2 : i < ties.length := by omega
    obtain ⟨y, hy, hty⟩ := ht3 i ties[i] (List.getElem?_eq_getElem hi2)
    have e3 : some y = some x2 := hy.symm.trans e2
    cases e3
    have sm2 : Same H1 (upd H' T1 (.tup [.int (i : Nat), x2])) := same_nw _ sm hT1
    have im := im_same (s01.trans sm2)
    refine ⟨T1, _, rfl, .inl (.inl upd_same), rfl, ?_⟩
    refine ⟨_, _, rfl, _, _, rfl, rfl, _, rfl, _, rfl, _, rfl, b, bk, n, x2, ties[i], rfl, hB.im im, hb6, hG, hty.im im, hg _ (List.getElem_mem hi2), _, rfl, iteF ?_⟩
    exact ⟨_, _, rfl, sm2⟩
  rintro σ H2 ⟨o1, o2, rfl, sm⟩
  have s2 := s1.trans sm
  refine ⟨_, rfl, _, rfl, p, _, dx, [], rfl, s2 _ _ hp, T.c_Puzzle, T.n_Puzzle_book, (by show 0 < 1000; decide), ?_⟩
  have hp3 : upd H2 p (.ins (He.ga K "Puzzle") dx (putF "book" (.ref b) [])) p = some (.ins (He.ga K "Puzzle") dx [("book", .ref b)]) := by
    rw [upd_same]
    rfl
  have s3 : Same H0 (upd H2 p (.ins (He.ga K "Puzzle") dx (putF "book" (.ref b) []))) := same_mut _ (s0.trans s2) hp0
  generalize upd H2 p (.ins (He.ga K "Puzzle") dx (putF "book" (.ref b) [])) = H3 at hp3 s3 ⊢
  refine ⟨_, rfl, _, rfl, p, _, dx, _, rfl, hp3, T.c_Puzzle, T.n_Puzzle_cell_count, (by show 1 < 1000; decide), ?_⟩
  have hp4 : upd H3 p (.ins (He.ga K "Puzzle") dx (putF "cell_count" (.int n) [("book", .ref b)])) p = some (.ins (He.ga K "Puzzle") dx [("book", .ref b), ("cell_count", .int n)]) := by
    rw [upd_same]
    rfl
  have s4 : Same H0 (upd H3 p (.ins (He.ga K "Puzzle") dx (putF "cell_count" (.int n) [("book", .ref b)]))) := same_mut _ s3 hp0
  generalize upd H3 p (.ins (He.ga K "Puzzle") dx (putF "cell_count" (.int n) [("book", .ref b)])) = H4 at hp4 s4 ⊢
  refine ⟨_, rfl, a, ts, rfl, .inr ⟨sqT_same s4 ht1, ?_⟩⟩
  refine ⟨_, rfl, p, _, dx, _, rfl, hp4, T.c_Puzzle, T.n_Puzzle_ties, (by show 2 < 1000; decide), ?_⟩
  have s5 : Same H0 (upd H4 p (.ins (He.ga K "Puzzle") dx (putF "ties" (.ref a) [("book", .ref b), ("cell_count", .int n)]))) := same_mut _ s4 hp0
  refine q _ s5 ⟨dx, b, .ref a, ?_, hB.im (im_same s5), a, ts, rfl, sqT_same s5 ht1, ht2, fun i tie h => let ⟨x, g1, g2⟩ := ht3 i tie h; ⟨x, g1, g2.im (im_same s5)⟩⟩
  rw [upd_same]
  rfl
end
end EC


set_option Elab.async false
set_option linter.all false
set_option maxRecDepth 100000
set_option maxHeartbeats 4000000
namespace EC
open PySem PySem.Spec PyProof.Rows L2
/-! ### the row's fit, cell by cell -/
def nxt (g : Fx) (p : Int × Int) : Fx := match g p.1 with
  | none => put g p.1 p.2
  | some _ => g
def nxts (g : Fx) (l : List (Int × Int)) : Fx := l.foldl nxt g
def bls : Fx → List (Int × Int) → List Bool
  | _, [] => []
  | g, p :: l => decide ((g p.1).getD p.2 = p.2) :: bls (nxt g p) l
theorem bls_snoc (p : Int × Int) : ∀ (l : List (Int × Int)) (g : Fx), bls g (l ++ [p]) = bls g l ++ [decide ((nxts g l p.1).getD p.2 = p.2)]
  | [], _ => rfl
  | q :: l, g => by
    show _ :: bls (nxt g q) (l ++ [p]) = _
    rw [bls_snoc p l]
    rfl
theorem nxts_snoc (g : Fx) (l : List (Int × Int)) (p : Int × Int) : nxts g (l ++ [p]) = nxt (nxts g l) p := by
  unfold nxts
  rw [List.foldl_append]
  rfl
theorem bls_fits : ∀ (cs r : List Int) (g : Fx), (bls g (cs.zip r)).all id = fits g cs r
  | [], _, _ => rfl
  | _ :: _, [], _ => rfl
  | c :: cs, v :: r, g => by
    show (decide ((g c).getD v = v) && (bls (nxt g (c, v)) (cs.zip r)).all id) = (decide ((g c).getD v = v) && fits (put g c v) cs r)
    by_cases e : (g c).getD v = v
    · rw [decide_eq_true e, Bool.true_and, Bool.true_and, bls_fits cs r]
      have e2 : nxt g (c, v) = put g c v := by
        unfold nxt
        cases q : g c with
        | none => rfl
        | some u =>
          rw [q] at e
          have e' : u = v := e
          rw [e'] at q
          exact (put_self q).symm
      rw [e2]
    · rw [decide_eq_false e, Bool.false_and, Bool.false_and]
theorem fits_congr : ∀ (cs r : List Int) (f g : Fx), (∀ c ∈ cs, f c = g c) → fits f cs r = fits g cs r
  | [], _, _, _, _ => rfl
  | _ :: _, [], _, _, _ => rfl
  | c :: cs, v :: r, f, g, h => by
    show (decide ((f c).getD v = v) && fits (put f c v) cs r) = (decide ((g c).getD v = v) && fits (put g c v) cs r)
    rw [h c List.mem_cons_self, fits_congr cs r (put f c v) (put g c v) fun d hd => by
      by_cases e : d = c
      · subst e
        rw [put_same, put_same]
      · rw [put_ne _ _ e, put_ne _ _ e]
        exact h d (List.mem_cons_of_mem _ hd)]
def RowsL (K : PySem.W.Frag) (H : Hp) (xs : List V) (rows : List (List Int)) : Prop := xs.length = rows.length ∧ ∀ (i : Nat) (r : List Int), rows[i]? = some r → ∃ b, xs[i]? = some (.ref b) ∧ SqT K H b (r.map V.int)
theorem RowsL.nil {K : PySem.W.Frag} {H : Hp} : RowsL K H [] [] := ⟨rfl, fun i r h => by simp at h⟩
theorem RowsL.im {K : PySem.W.Frag} {H H' : Hp} {xs : List V} {rows : List (List Int)} (e : Im H H') (h : RowsL K H xs rows) : RowsL K H' xs rows :=
  ⟨h.1, fun i r hr => let ⟨b, q1, q2⟩ := h.2 i r hr; ⟨b, q1, sqT_im e q2⟩⟩
theorem RowsL.snoc {K : PySem.W.Frag} {H : Hp} {xs : List V} {rows : List (List Int)} {b : Addr} {r : List Int} (h : RowsL K H xs rows) (hb : SqT K H b (r.map V.int)) : RowsL K H (xs ++ [.ref b]) (rows ++ [r]) := by
  refine ⟨by rw [List.length_append, List.length_append, h.1]; rfl, fun i q hq => ?_⟩
  by_cases e : i < rows.length
  · rw [List.getElem?_append_left e] at hq
    obtain ⟨b', q1, q2⟩ := h.2 i q hq
    exact ⟨b', by rw [List.getElem?_append_left (by rw [h.1]; exact e)]; exact q1, q2⟩
  · have e2 : i = rows.length := by
      have := (List.getElem?_eq_some_iff.mp hq).1
      rw [List.length_append, List.length_singleton] at this
      omega
    subst e2
    rw [List.getElem?_append_right (Nat.le_refl _), Nat.sub_self] at hq
    have e3 : r = q := Option.some.inj hq
    subst e3
    refine ⟨b, ?_, hb⟩
    rw [← h.1, List.getElem?_append_right (Nat.le_refl _), Nat.sub_self]
    rfl
theorem take_filter {α : Type} (p : α → Bool) (l : List α) {i : Nat} {x : α} (h : l[i]? = some x) : (l.take (i + 1)).filter p = (l.take i).filter p ++ (if p x then [x] else []) := by
  rw [List.take_succ, h, List.filter_append]
  congr 1
  show [x].filter p = _
  cases e : p x <;> simp [e]
section
variable {P : Program} {w : World} {K : PySem.W.Frag} {mg : Str → Option Value} {base : Heap}
/-! ### is_start -/
def spStart (K : PySem.W.Frag) : Sp := fun vs H Q _ => ∃ (pz a : Addr) (bk : List Rel) (ties : List Tie) (n : Nat) (st : List (Int × Int)), vs = [.ref pz, .ref a] ∧ PuzAt K H pz bk ties n ∧ StAt K H a st ∧ StartG n st ∧ Q (.bl true) H
theorem numB_in {z n : Int} (h0 : 0 ≤ z) (h1 : z < n) : numB (.int z) n = true := by
  show (decide (0 ≤ z) && decide (z < n)) = true
  rw [decide_eq_true h0, decide_eq_true h1]
  rfl
theorem ok_is_start (T : Txt K mg) : Ok P w K mg base 2 d_is_start ["puzzle", "value"] (spStart K) := by
  have G_is_below : Ok P w K mg base 1 d_is_below ["value", "limit"] (spNum K) := ok_is_below T
  refine T.F_is_start.ok sc_is_start (fun vs H Q E h => ?_) (fun cdv A outer s H vs Q E hr h => ?_)
  · obtain ⟨pz, a, bk, ties, n, st, rfl, _⟩ := h
    rfl
  obtain ⟨pz, a, bk, ties, n, st, rfl, hP, hS, S, q⟩ := h
  refine ⟨_, PSs.nox (
  (pss_cons (ps_if (pt_not (pt_val (pe_callB call_isi (by rfl) T.z_isinstance (by decide +kernel) (pa_cons (pv 1) (pa_cons (pe_bltn (v := .ty "tuple") (by rfl) T.z_tuple (by decide +kernel) rfl) pa_nil)))))
      (pss_one (ps_ret pe_bl))
      pss_nil)
    (pss_cons (ps_set (i := 2) sc_is_start.nd rfl (Or.inl rfl) pe_int)
    (pss_cons (ps_for PassesOwn.never rfl (pi_tup (pv 1)) (pg_name (i := 3) sc_is_start.nd rfl (Or.inl rfl))
      (pss_cons (ps_if (PW.pt (pw_or (pt_not (pt_val (pe_callB call_isi (by rfl) T.z_isinstance (by decide +kernel) (pa_cons (pv 3) (pa_cons (pe_bltn (v := .ty "tuple") (by rfl) T.z_tuple (by decide +kernel) rfl) pa_nil))))) (pw_or (pt_cmpR op_ne (pe_callB call_len_seq (by rfl) T.z_len PySem.boot_len (pa_cons (pv 3) pa_nil)) pe_int (nomark _)) (pw_or1 (pt_not (pt_val (pe_call G_is_below (hr.mono (by omega)) (by rfl) T.g_is_below T.F_is_below.kp T.b_is_below .nil pass0 (pa_cons (pe_ix ix_tup (pv 3) pe_int (fun _ _ => rfl)) (pa_cons (pe_fldK (K := K) rfl (pv 0) (by rfl)) pa_nil)))))))))
        (pss_one (ps_ret pe_bl))
        pss_nil)
      (pss_cons (ps_if (PW.pt (pw_or (pt_cmpR op_lt (pe_ix ix_tup (pv 3) pe_int (fun _ _ => rfl)) (pv 2) (nomark _)) (pw_or1 (pt_not (pt_val (pe_call G_is_below (hr.mono (by omega)) (by rfl) T.g_is_below T.F_is_below.kp T.b_is_below .nil pass0 (pa_cons (pe_ix ix_tup (pv 3) pe_int (fun _ _ => rfl)) (pa_cons pe_int pa_nil))))))))
        (pss_one (ps_ret pe_bl))
        pss_nil)
      (pss_one (ps_set (i := 2) sc_is_start.nd rfl (Or.inl rfl) (pe_op op_add (pe_ix ix_tup (pv 3) pe_int (fun _ _ => rfl)) pe_int))))))
    (pss_one (ps_ret pe_bl)))))
  ), ?_⟩
  obtain ⟨dx, b, tv, hpz, hB, hT⟩ := hP
  obtain ⟨xs, hs, hl, hx⟩ := hS.sq
  refine ⟨_, rfl, _, _, _, _, _, rfl, .ty _, tyx_tup hs, kit_ty (show kitB "tuple" "tuple" = some true by decide +kernel), _, rfl, iteF ?_⟩
  refine ⟨_, rfl, a, rfl, ⟨_, hs⟩, for_tup (xs := xs) (fun i σ H' => ∃ (l : Int) (o : Option V), σ = [some (.ref pz), some (.ref a), some (.int l), o] ∧ H' = H ∧ ∀ q, st[i]? = some q → l ≤ q.1) ⟨0, _, rfl, rfl, fun q h => (S.ok q (List.mem_of_getElem? h)).1⟩ (fun i σ H' _ h => by obtain ⟨_, _, _, rfl, _⟩ := h; exact hs) ?_ ?_⟩
  · rintro i x σ H' hi ⟨l, o, rfl, rfl, hle⟩
    have hlt := (List.getElem?_eq_some_iff.mp hi).1
    have hlt2 : i < st.length := by omega
    have hst := List.getElem?_eq_getElem hlt2
    obtain ⟨p, hp1, hp2⟩ := hx i st[i] hst
    rw [hi] at hp1
    cases hp1
    obtain ⟨h0, h1, h2⟩ := S.ok st[i] (List.getElem_mem hlt2)
    have hle2 := hle _ hst
    refine ⟨_, rfl, _, _, _, _, _, rfl, .ty _, tyx_tup hp2, kit_ty (show kitB "tuple" "tuple" = some true by decide +kernel), _, rfl, iteF ?_⟩
    refine ⟨_, rfl, p, _, rfl, .inr hp2, rfl, _, rfl, iteNS rfl ?_⟩
    refine ⟨_, rfl, p, _, _, _, rfl, rfl, hp2, rfl, _, rfl, pz, _, dx, _, _, rfl, hpz, T.c_Puzzle, T.n_Puzzle_cell_count, rfl, ?_⟩
    refine ⟨_, _, n, rfl, .int _, _, rfl, ifNT (numB_in h0 h1) ?_⟩
    refine ⟨_, rfl, p, _, _, _, rfl, rfl, hp2, rfl, _, rfl, _, _, rfl, rfl, _, rfl, ifF (decide_eq_false (by omega)) ?_⟩
    refine ⟨_, rfl, p, _, _, _, rfl, rfl, hp2, rfl, _, _, 2, rfl, .int _, _, rfl, ifNT (numB_bit h2 (Int.le_refl 2)) ?_⟩
    refine ⟨_, rfl, p, _, _, _, rfl, rfl, hp2, rfl, _, _, rfl, rfl, _, _, rfl, rfl, fun q hq => ?_⟩
    have := List.pairwise_iff_getElem.mp S.up i (i + 1) hlt2 (List.getElem?_eq_some_iff.mp hq).1 (Nat.lt_succ_self i)
    rw [(List.getElem?_eq_some_iff.mp hq).2] at this
    omega
  · rintro σ H' ⟨l, o, rfl, rfl, _⟩
    exact q
/-! ### are_triples -/
def triB : PyData → Bool
  | .tuple ds => ds.all fun e => areB e 3
  | _ => false
def spTri (K : PySem.W.Frag) : Sp := fun vs H Q _ => ∃ (v : V) (d : PyData) (m : Nat), vs = [v] ∧ Dp K H v d ∧ fine m d ∧ ∀ H', Same H H' → Q (.bl (triB d)) H'
theorem ok_are_triples (T : Txt K mg) : Ok P w K mg base 1 d_are_triples ["value"] (spTri K) := by
  refine T.F_are_triples.ok sc_are_triples (fun vs H Q E h => ?_) (fun cdv A outer s H vs Q E hr h => ?_)
  · obtain ⟨v, d, m, rfl, _⟩ := h
    rfl
  obtain ⟨v, d, m, rfl, hd, hf, q⟩ := h
  refine ⟨_, PSs.nox (
  (pss_one (ps_ret (pe_and (pe_callB call_isi (by rfl) T.z_isinstance (by decide +kernel) (pa_cons (pv 0) (pa_cons (pe_bltn (v := .ty "tuple") (by rfl) T.z_tuple (by decide +kernel) rfl) pa_nil))) (pe_one (pe_callB (cr_all rfl) (by rfl) T.z_all (by decide +kernel) (pa_cons (pe_lc (own := [("one", 1)]) rfl sc_are_triples.nd (pi_tup (pv 0)) (blkOk_by (own := [("one", 1)]) (N := ["value", "one"]) (sc := defScope s_are_triples) (by decide +kernel)) (fun _ _ _ _ _ => (pg_name (i := 1) sc_are_triples.nd rfl (Or.inl rfl))) (fun _ _ _ _ _ => pts_nil) (fun _ _ _ _ _ => (pe_and (pe_callB (call_isiK (K := K) rfl) (by rfl) T.z_isinstance (by decide +kernel) (pa_cons (pv 1) (pa_cons (pe_bltn (v := .ty "tuple") (by rfl) T.z_tuple (by decide +kernel) rfl) pa_nil))) (pe_one (pe_cmpR op_eq (pe_callB (call_len_seqK (K := K) rfl) (by rfl) T.z_len PySem.boot_len (pa_cons (pv 1) pa_nil)) pe_int (nomark _)))))) pa_nil))))))
  ), ?_⟩
  obtain ⟨t, ht, hk⟩ := isi_tup hd
  refine ⟨_, rfl, _, _, t, _, _, rfl, .ty _, ht, hk, _, rfl, ?_⟩
  cases e : isTupD d with
  | false =>
    have e2 : triB d = false := by
      cases d <;> first | rfl | cases e
    have := q H (.refl H)
    rw [e2] at this
    exact iteF this
  | true =>
    obtain ⟨ds, rfl⟩ := tupD_yes e
    obtain ⟨_, rfl, hlen, _⟩ := fine_tup hf
    obtain ⟨a, xs, rfl, hs, hds⟩ := dp_tup hd
    have hxl := dpAll_len hds
    refine iteT ⟨_, rfl, a, rfl, ⟨_, hs⟩, fun D hD => lc_tup (xs := xs) (fun i H' => Same H H' ∧ H' D = some (.lst (((ds.take i).map fun e => areB e 3).map V.bl)))
      ⟨same_new _ hD, upd_same⟩ (fun i H' _ h => sqT_same h.1 hs) ?_ ?_⟩
    · rintro i x H' hi ⟨sm, ha⟩
      have hlt := (List.getElem?_eq_some_iff.mp hi).1
      obtain ⟨d, hdi, hdx⟩ := dpAll_at hds hi
      have hdx' := dp_same sm hdx
      obtain ⟨t, ht, hk⟩ := isi_tup hdx'
      have fin : ∃ acc, H' D = some (.lst acc) ∧ acc.length < sizeLine ∧ (Same H (upd H' D (.lst (acc ++ [V.bl (areB d 3)]))) ∧ (upd H' D (.lst (acc ++ [V.bl (areB d 3)]))) D = some (.lst (((ds.take (i + 1)).map fun e => areB e 3).map V.bl))) := by
        refine ⟨_, ha, small1000 (by simp; omega), same_mut _ sm hD, ?_⟩
        rw [upd_same, List.take_succ, hdi]
        simp
      refine ⟨rfl, _, rfl, _, _, t, _, _, rfl, .ty _, ht, hk, _, rfl, ?_⟩
      cases e3 : isTupD d with
      | false =>
        rw [areB_no e3] at fin
        exact iteF fin
      | true =>
        obtain ⟨es, rfl⟩ := tupD_yes e3
        obtain ⟨b, ys, rfl, hys, hes⟩ := dp_tup hdx'
        refine iteT ⟨_, rfl, b, ys, rfl, .inr hys, rfl, ?_⟩
        have e4 : areB (.tuple es) 3 = decide (V.int ys.length = V.int 3) := by
          show (decide ((3 : Int) < 0) || decide ((es.length : Int) = 3)) = _
          rw [dpAll_len hes, dec_int]
          rfl
        rw [e4] at fin
        exact fin
    · rintro H' ⟨sm, ha⟩
      refine ⟨D, _, rfl, .inl (.inl ha), ?_⟩
      rw [List.take_of_length_le (by omega)]
      have e5 : ((ds.map fun e => areB e 3).all id) = triB (.tuple ds) := by
        rw [List.all_map]
        rfl
      rw [e5]
      exact q _ sm
end
end EC


set_option Elab.async false
set_option linter.all false
set_option maxRecDepth 100000
set_option maxHeartbeats 4000000
namespace EC
open PySem PySem.Spec PyProof.Rows L2
section
variable {P : Program} {w : World} {K : PySem.W.Frag} {mg : Str → Option Value} {base : Heap}
/-! ### cells_of, is_step -/
theorem tieAt_numB {ties : List Tie} {d : PyData} : (tieAt ties d).isSome = numB d (ties.length : Int) := by
  cases d with
  | int i =>
    show (if 0 ≤ i then ties[i.toNat]? else none).isSome = (decide (0 ≤ i) && decide (i < (ties.length : Int)))
    by_cases h : 0 ≤ i
    · rw [if_pos h, decide_eq_true h, Bool.true_and]
      by_cases h2 : i < (ties.length : Int)
      · rw [List.getElem?_eq_getElem (by omega), decide_eq_true h2]
        rfl
      · rw [List.getElem?_eq_none (by omega), decide_eq_false h2]
        rfl
    · rw [if_neg h, decide_eq_false h]
      rfl
  | _ => rfl
theorem tieAt_int {ties : List Tie} {d : PyData} {tie : Tie} (h : tieAt ties d = some tie) : ∃ i : Int, d = .int i ∧ 0 ≤ i ∧ ties[i.toNat]? = some tie := by
  unfold tieAt at h
  split at h
  · rename_i i
    split at h
    · exact ⟨i, rfl, ‹_›, h⟩
    · cases h
  · cases h
def spCellsOf (K : PySem.W.Frag) : Sp := fun vs H Q _ => ∃ (pz : Addr) (v : V) (d : PyData) (bk : List Rel) (ties : List Tie) (n : Nat), vs = [.ref pz, v] ∧ PuzAt K H pz bk ties n ∧ Dp K H v d ∧
  (∀ tie, tieAt ties d = some tie → ∀ c, FrT H c (tie.2.map V.int) → Q (.ref c) H) ∧ (tieAt ties d = none → ∀ T, H T = none → Q (.ref T) (upd H T (.tup [])))
theorem ok_cells_of (T : Txt K mg) : Ok P w K mg base 2 d_cells_of ["puzzle", "t"] (spCellsOf K) := by
  have G_is_number_below : Ok P w K mg base 1 d_is_number_below ["value", "bound"] (spNum K) := ok_is_number_below T
  refine T.F_cells_of.ok sc_cells_of (fun vs H Q E h => ?_) (fun cdv A outer s H vs Q E hr h => ?_)
  · obtain ⟨pz, v, d, bk, ties, n, rfl, _⟩ := h
    rfl
  obtain ⟨pz, v, d, bk, ties, n, rfl, hP, hd, q1, q2⟩ := h
  refine ⟨_, PSs.nox (
  (pss_one (ps_ret (pe_ifExp (pt_val (pe_call G_is_number_below (hr.mono (by omega)) (by rfl) T.g_is_number_below T.F_is_number_below.kp T.b_is_number_below .nil pass0 (pa_cons (pv 1) (pa_cons (pe_callB call_len_seq (by rfl) T.z_len PySem.boot_len (pa_cons (pe_fldK (K := K) rfl (pv 0) (by rfl)) pa_nil)) pa_nil)))) (pe_ix ix_tup (pe_ix ix_tup (pe_fldK (K := K) rfl (pv 0) (by rfl)) (pv 1) (fun _ _ => rfl)) pe_int (fun _ _ => rfl)) (pe_tup pa_nil))))
  ), ?_⟩
  obtain ⟨dx, b, tv, hpz, hB, hT⟩ := hP
  obtain ⟨a, ts, rfl, ht1, ht2, ht3⟩ := hT
  refine ⟨_, rfl, _, rfl, pz, _, dx, _, _, rfl, hpz, T.c_Puzzle, T.n_Puzzle_ties, rfl, a, ts, rfl, .inr ht1, v, d, _, rfl, hd, _, rfl, ?_⟩
  rw [ht2, ← tieAt_numB]
  cases e : tieAt ties d with
  | none => exact iteF ⟨(by show 0 ≤ sizeLine; exact Nat.zero_le _), fun T0 hT => q2 e T0 hT⟩
  | some tie =>
    obtain ⟨i, rfl, h0, hi⟩ := tieAt_int e
    obtain ⟨x, hx, ta, c, rfl, hta, hc⟩ := ht3 _ tie hi
    have ev := dp_int hd
    subst ev
    refine iteT ⟨_, rfl, pz, _, dx, _, _, rfl, hpz, T.c_Puzzle, T.n_Puzzle_ties, rfl, _, rfl, a, ts, i, _, rfl, rfl, ht1, at_nn h0 hx, ta, _, _, _, rfl, rfl, hta, rfl, q1 tie e c hc⟩
theorem flat_ints (cs : List Int) : (cs.map V.int).all flatV = true := by
  rw [List.all_map]
  exact List.all_eq_true.mpr fun _ _ => rfl
theorem inV_int {cs : List Int} {c : Int} : inV (.int c) (cs.map V.int) = decide (c ∈ cs) := by
  unfold inV
  rw [List.any_map]
  by_cases h : c ∈ cs
  · rw [decide_eq_true h]
    refine List.any_eq_true.mpr ⟨c, h, ?_⟩
    show eqV (.int c) (.int c) = true
    unfold eqV
    simp
  · rw [decide_eq_false h]
    refine Bool.eq_false_iff.mpr fun e => h ?_
    obtain ⟨x, hx, ex⟩ := List.any_eq_true.mp e
    have : x = c := by
      have e' : eqV (.int x) (.int c) = true := ex
      unfold eqV at e'
      simpa using e'
    rw [← this]
    exact hx
def spStep (K : PySem.W.Frag) : Sp := fun vs H Q _ => ∃ (pz : Addr) (v : V) (a b c : PyData) (bk : List Rel) (ties : List Tie) (n : Nat), vs = [.ref pz, v] ∧ PuzAt K H pz bk ties n ∧ Good bk ties n ∧ Dp K H v (.tuple [a, b, c]) ∧
  ∀ H', Same H H' → Q (.bl (stepOf ties (.tuple [a, b, c])).isSome) H'
theorem stepOf_b {ties : List Tie} {a b c : PyData} (h : isIntD b = false ∨ isBlD b = true) : stepOf ties (.tuple [a, b, c]) = none := by
  cases b <;> first | rfl | (rcases h with h | h <;> cases h)
theorem stepOf_c {ties : List Tie} {a b c : PyData} (h : numB c 2 = false) : stepOf ties (.tuple [a, b, c]) = none := by
  cases b <;> try rfl
  cases c <;> try rfl
  rename_i i v
  show (match tieAt ties a with | some tie => if i ∈ tie.2 ∧ 0 ≤ v ∧ v < 2 then some (tie, i, v) else none | none => none) = none
  split
  · refine if_neg fun k => ?_
    rw [numB_in k.2.1 k.2.2] at h
    cases h
  · rfl
theorem stepOf_tie {ties : List Tie} {a b c : PyData} (h : tieAt ties a = none) : stepOf ties (.tuple [a, b, c]) = none := by
  cases b <;> try rfl
  cases c <;> try rfl
  rename_i i v
  show (match tieAt ties a with | some tie => if i ∈ tie.2 ∧ 0 ≤ v ∧ v < 2 then some (tie, i, v) else none | none => none) = none
  rw [h]
theorem stepOf_out {ties : List Tie} {a c : PyData} {i : Int} {tie : Tie} (h : tieAt ties a = some tie) (hi : i ∉ tie.2) : stepOf ties (.tuple [a, .int i, c]) = none := by
  cases c <;> try rfl
  rename_i v
  show (match tieAt ties a with | some tie => if i ∈ tie.2 ∧ 0 ≤ v ∧ v < 2 then some (tie, i, v) else none | none => none) = none
  rw [h]
  exact if_neg fun k => hi k.1
theorem stepOf_in {ties : List Tie} {a : PyData} {i v : Int} {tie : Tie} (h : tieAt ties a = some tie) (hi : i ∈ tie.2) (h0 : 0 ≤ v) (h1 : v < 2) : stepOf ties (.tuple [a, .int i, .int v]) = some (tie, i, v) := by
  show (match tieAt ties a with | some tie => if i ∈ tie.2 ∧ 0 ≤ v ∧ v < 2 then some (tie, i, v) else none | none => none) = _
  rw [h]
  exact if_pos ⟨hi, h0, h1⟩
theorem numB_int {d : PyData} {n : Int} (h : numB d n = true) : ∃ i, d = .int i ∧ 0 ≤ i ∧ i < n := by
  cases d with
  | int i =>
    have h' : (decide (0 ≤ i) && decide (i < n)) = true := h
    rw [Bool.and_eq_true, decide_eq_true_eq, decide_eq_true_eq] at h'
    exact ⟨i, rfl, h'⟩
  | _ => cases h
theorem ok_is_step (T : Txt K mg) : Ok P w K mg base 3 d_is_step ["puzzle", "step"] (spStep K) := by
  have G_is_number_below : Ok P w K mg base 1 d_is_number_below ["value", "bound"] (spNum K) := ok_is_number_below T
  have G_cells_of : Ok P w K mg base 2 d_cells_of ["puzzle", "t"] (spCellsOf K) := ok_cells_of T
  refine T.F_is_step.ok sc_is_step (fun vs H Q E h => ?_) (fun cdv A outer s H vs Q E hr h => ?_)
  · obtain ⟨pz, v, a, b, c, bk, ties, n, rfl, _⟩ := h
    rfl
  obtain ⟨pz, v, a, b, c, bk, ties, n, rfl, hP, hG, hd, q⟩ := h
  refine ⟨_, PSs.nox (
  (pss_cons (ps_asg (pv 1) (pg_tup rfl (pgs_cons (pg_name (i := 2) sc_is_step.nd rfl (Or.inl rfl)) (pgs_cons (pg_name (i := 3) sc_is_step.nd rfl (Or.inl rfl)) (pgs_cons (pg_name (i := 4) sc_is_step.nd rfl (Or.inl rfl)) pgs_nil)))))
    (pss_one (ps_ret (pe_and (pe_call G_is_number_below (hr.mono (by omega)) (by rfl) T.g_is_number_below T.F_is_number_below.kp T.b_is_number_below .nil pass0 (pa_cons (pv 3) (pa_cons (pe_fldK (K := K) rfl (pv 0) (by rfl)) pa_nil))) (pe_and (pe_cmpR op_in_seq (pv 3) (pe_call G_cells_of (hr.mono (by omega)) (by rfl) T.g_cells_of T.F_cells_of.kp T.b_cells_of .nil pass0 (pa_cons (pv 0) (pa_cons (pv 2) pa_nil))) (by rfl)) (pe_one (pe_call G_is_number_below (hr.mono (by omega)) (by rfl) T.g_is_number_below T.F_is_number_below.kp T.b_is_number_below .nil pass0 (pa_cons (pv 4) (pa_cons pe_int pa_nil)))))))))
  ), ?_⟩
  have hP' := hP
  obtain ⟨dx, bb, tv, hpz, hB, hT⟩ := hP
  obtain ⟨sa, ys, rfl, hs, hds⟩ := dp_tup hd
  cases hds with
  | cons ha t1 =>
  cases t1 with
  | cons hb t2 =>
  cases t2 with
  | cons hc t3 =>
  cases t3
  rename_i x y z
  refine ⟨_, rfl, sa, _, rfl, hs, rfl, _, _, rfl, _, _, rfl, _, _, rfl, rfl, ?_⟩
  refine ⟨_, rfl, _, rfl, pz, _, dx, _, _, rfl, hpz, T.c_Puzzle, T.n_Puzzle_cell_count, rfl, y, b, n, rfl, hb, _, rfl, ?_⟩
  cases e : numB b n with
  | false =>
    have := q H (.refl H)
    have e2 : stepOf ties (.tuple [a, b, c]) = none := by
      cases b <;> try rfl
      rename_i i
      cases e3 : tieAt ties a with
      | none => exact stepOf_tie e3
      | some tie =>
        refine stepOf_out e3 fun k => ?_
        have g := (hG.tie tie (tieAt_mem e3)).cells i k
        rw [numB_in g.1 g.2] at e
        cases e
    rw [e2] at this
    exact iteF this
  | true =>
    obtain ⟨i, rfl, hi0, hi1⟩ := numB_int e
    have ev := dp_int hb
    subst ev
    refine iteT ⟨_, rfl, _, rfl, _, rfl, pz, x, a, bk, ties, n, rfl, hP', ha, fun tie ht cc hcc => ?_, fun ht T0 hT0 => ?_⟩
    · refine ⟨cc, _, rfl, .inr hcc.sq, rfl, flat_ints _, _, rfl, ?_⟩
      have e4 : (if false = true then !inV (.int i) (tie.2.map V.int) else inV (.int i) (tie.2.map V.int)) = decide (i ∈ tie.2) := inV_int
      rw [e4]
      by_cases hm : i ∈ tie.2
      · rw [decide_eq_true hm]
        refine iteT ⟨_, rfl, z, c, 2, rfl, hc, ?_⟩
        have := q H (.refl H)
        cases e5 : numB c 2 with
        | false =>
          rw [stepOf_c e5] at this
          exact this
        | true =>
          obtain ⟨v, rfl, h0, h1⟩ := numB_int e5
          rw [stepOf_in ht hm h0 h1] at this
          exact this
      · rw [decide_eq_false hm]
        have := q H (.refl H)
        rw [stepOf_out ht hm] at this
        exact iteF this
    · refine ⟨T0, [], rfl, .inr (.inl (.inl upd_same)), rfl, rfl, _, rfl, iteF ?_⟩
      have := q _ (same_new (.tup []) hT0)
      rw [stepOf_tie ht] at this
      exact this
/-! ### seen_rows -/
theorem same_free {H H' : Hp} {p : Addr} (e : Same H H') (h : H' p = none) : H p = none := by
  cases q : H p with
  | none => rfl
  | some u =>
    rw [e p u q] at h
    cases h
def spSeen (K : PySem.W.Frag) : Sp := fun vs H Q _ => ∃ (pz fx : Addr) (t : Int) (bk : List Rel) (ties : List Tie) (n m : Nat) (tie : Tie) (f : Fx), vs = [.ref pz, .int t, .ref fx] ∧ PuzAt K H pz bk ties n ∧ Good bk ties n ∧ 0 ≤ t ∧ ties[t.toNat]? = some tie ∧ FxD H fx f m ∧
  ∀ H' L xs, Same H H' → H L = none → H' L = some (.lst xs) → RowsL K H' xs (views bk tie f) → Q (.ref L) H'
theorem ok_seen_rows (T : Txt K mg) : Ok P w K mg base 1 d_seen_rows ["puzzle", "t", "fixed"] (spSeen K) := by
  refine T.F_seen_rows.ok sc_seen_rows (fun vs H Q E h => ?_) (fun cdv A outer s H vs Q E hr h => ?_)
  · obtain ⟨pz, fx, t, bk, ties, n, m, tie, f, rfl, _⟩ := h
    rfl
  obtain ⟨pz, fx, t, bk, ties, n, m, tie, f, rfl, hP, hG, ht0, hti, hF, q⟩ := h
  refine ⟨_, PSs.nox (
  (pss_cons (ps_asg (pe_ix ix_tup (pe_fldK (K := K) rfl (pv 0) (by rfl)) (pv 1) (fun _ _ => rfl)) (pg_tup rfl (pgs_cons (pg_name (i := 3) sc_seen_rows.nd rfl (Or.inl rfl)) (pgs_cons (pg_name (i := 4) sc_seen_rows.nd rfl (Or.inl rfl)) pgs_nil))))
    (pss_cons (ps_set (i := 5) sc_seen_rows.nd rfl (Or.inl rfl) (pe_lst pa_nil))
    (pss_cons (ps_for PassesOwn.never rfl (pi_tup (pe_fldK (K := K) rfl (pe_ix ix_tup (pe_fldK (K := K) rfl (pe_fldK (K := K) rfl (pv 0) (by rfl)) (by rfl)) (pv 3) (fun _ _ => rfl)) (by rfl))) (pg_name (i := 6) sc_seen_rows.nd rfl (Or.inl rfl))
      (pss_cons (ps_set (i := 7) sc_seen_rows.nd rfl (Or.inr rfl) (pe_dc (own := [("cell", 8)]) rfl sc_seen_rows.nd (pi_tup (pv 4)) (blkOk_by (own := [("cell", 8)]) (N := ["puzzle", "t", "fixed", "relation", "cells", "found", "row", "values", "cell", "value"]) (sc := defScope s_seen_rows) (by decide +kernel)) (fun _ _ _ _ _ => (pg_name (i := 8) sc_seen_rows.nd rfl (Or.inl rfl))) (fun _ _ _ _ _ => pts_one (pt_cmp (pc_din (hu_of hr) (pv 8) (pv 2)))) (fun _ _ _ _ _ => (pv 8)) (fun _ _ _ _ _ => (pe_dget (hu_of hr) (pv 2) (pv 8) (fun _ _ => rfl)))))
      (pss_one (ps_if (pt_val (pe_callB (cr_all rfl) (by rfl) T.z_all (by decide +kernel) (pa_cons (pe_lc (own := [("cell", 8), ("value", 9)]) rfl sc_seen_rows.nd (RZ.pi_zipA (by rfl) T.z_zip (pa_cons (pv 4) (pa_cons (pv 6) pa_nil))) (blkOk_by (own := [("cell", 8), ("value", 9)]) (N := ["puzzle", "t", "fixed", "relation", "cells", "found", "row", "values", "cell", "value"]) (sc := defScope s_seen_rows) (by decide +kernel)) (fun _ _ _ _ _ => (pg_tupK (n := 2) (K := K) rfl rfl (pgs_cons (pg_name (i := 8) sc_seen_rows.nd rfl (Or.inl rfl)) (pgs_cons (pg_name (i := 9) sc_seen_rows.nd rfl (Or.inl rfl)) pgs_nil)))) (fun _ _ _ _ _ => pts_nil) (fun _ _ _ _ _ => (pe_cmpR op_eq (pe_dsetd (pv 7) (pv 8) (pv 9) ⟨rfl, rfl, rfl, rfl⟩) (pv 9) (nomark _)))) pa_nil)))
        (pss_one (ps_expr (pe_bm PySem.F.plainAttrs_list PySem.F.slot_list_append PySem.F.type_list_append mt_append (pv 5) (pa_cons (pv 6) pa_nil))))
        pss_nil))))
    (pss_one (ps_ret (pv 5))))))
  ), ?_⟩
  obtain ⟨dx, b, tv, hpz, hB, hT⟩ := hP
  obtain ⟨dxb, br, bp, rs, hb1, hb2, hb3⟩ := hB
  obtain ⟨a, ts, rfl, ht1, ht2, ht3⟩ := hT
  obtain ⟨x, hx, ta, c, rfl, hta, hc⟩ := ht3 _ tie hti
  have tg := hG.tie tie (List.mem_of_getElem? hti)
  have tlo := tg.lo
  obtain ⟨rel, hrel, hlen⟩ := tg.rel
  have rg := hG.rel rel (List.mem_of_getElem? hrel)
  obtain ⟨p, hp, dxr, rb, hr1, hr2⟩ := hb3.2 _ rel hrel
  obtain ⟨ra, rws, rfl, hra, hrl, hrx⟩ := eR_inv hr2
  have hro : rowsAt bk tie.1 = rel.2 := by
    unfold rowsAt
    rw [hrel]
  have hcl : tie.2.length ≤ 4 := by
    have := rg.hi
    have := rg.lo
    omega
  have h16 := rg.len
  refine ⟨_, rfl, pz, _, dx, _, _, rfl, hpz, T.c_Puzzle, T.n_Puzzle_ties, rfl, _, rfl, a, ts, t, _, rfl, rfl, ht1, at_nn ht0 hx, ?_⟩
  refine ⟨ta, _, rfl, hta, rfl, _, _, rfl, _, _, rfl, rfl, ?_⟩
  refine ⟨(by show 0 ≤ sizeLine; exact Nat.zero_le _), fun L hL => ?_⟩
  have s1 : Same H (upd H L (.lst [])) := same_new _ hL
  refine ⟨_, rfl, pz, _, dx, _, _, rfl, s1 _ _ hpz, T.c_Puzzle, T.n_Puzzle_book, rfl, b, _, dxb, _, _, rfl, s1 _ _ hb1, T.c_Book, T.n_Book_relations, rfl, _, rfl, br, rs, tie.1, _, rfl, rfl, sqT_same s1 hb2, at_nn tlo hp, p, _, dxr, _, _, rfl, s1 _ _ hr1, T.c_Relation, T.n_Relation_rows, rfl, ?_⟩
  refine ⟨ra, rfl, ⟨rws, sqT_same s1 hra⟩, for_tup (xs := rws) (fun i σ H' => ∃ (o6 o7 : Option V) (acc : List V), σ = [some (.ref pz), some (.int t), some (.ref fx), some (.int tie.1), some (.ref c), some (.ref L), o6, o7, none, none] ∧ Same H H' ∧ H' L = some (.lst acc) ∧ acc.length ≤ i ∧ RowsL K H' acc ((rel.2.take i).filter fun r => fits f tie.2 r))
    ⟨_, _, [], rfl, s1, upd_same, Nat.le_refl _, RowsL.nil⟩ (fun i σ H' _ h => by obtain ⟨_, _, _, _, e, _⟩ := h; exact sqT_same e hra) ?_ ?_⟩
  · rintro i x σ H1 hi ⟨o6, o7, acc, rfl, sm1, hacc, haccl, hrows⟩
    have hlt := (List.getElem?_eq_some_iff.mp hi).1
    have hlt2 : i < rel.2.length := by omega
    have hrow := List.getElem?_eq_getElem hlt2
    obtain ⟨rr, hx1, hx2⟩ := hrx i rel.2[i] hrow
    rw [hi] at hx1
    cases hx1
    generalize rel.2[i] = row at hrow hx2
    -- values = {..}
    refine ⟨_, rfl, c, rfl, ⟨_, sqT_same sm1 hc.sq⟩, fun D hD => dc_tup (xs := tie.2.map V.int) (fun j H' => Same H1 H' ∧ ∃ kvs : List (Key × V), H' D = some (.dK kvs) ∧ kvs.length ≤ j ∧ ∀ z : Int, valV kvs (Sum.inl z) = (if z ∈ tie.2.take j then f z else none).map V.int)
      ⟨same_new _ hD, [], upd_same, Nat.le_refl _, fun z => by simp [valV]⟩ (fun j H' _ h => sqT_same (sm1.trans h.1) hc.sq) ?_ ?_⟩
    · rintro j x H2 hj ⟨sm2, kvs, hk, hkl, hkv⟩
      rw [List.getElem?_map] at hj
      obtain ⟨z, hz, rfl⟩ := Option.map_eq_some_iff.mp hj
      have hjl := (List.getElem?_eq_some_iff.mp hz).1
      have hF2 : FxD H2 fx f m := hF.same (sm1.trans sm2)
      have tk : tie.2.take (j + 1) = tie.2.take j ++ [z] := by
        rw [List.take_succ, hz]
        rfl
      have hg := hF2.get z
      refine ⟨rfl, _, rfl, _, rfl, fx, _, rfl, hg, _, rfl, ?_⟩
      cases e : f z with
      | none =>
        refine iteF ⟨sm2, kvs, hk, by omega, fun u => ?_⟩
        rw [hkv u, tk]
        by_cases hu : u = z
        · subst hu
          rw [e]
          simp
        · simp [hu]
      | some w =>
        rw [e] at hg
        refine iteT ⟨_, rfl, _, rfl, _, rfl, fx, .int w, rfl, hg, kvs, Sum.inl z, rfl, hk, small1000 (by omega), same_mut _ sm2 hD, _, upd_same, ?_, fun u => ?_⟩
        · have := length_putK kvs (Sum.inl z) (.int w)
          omega
        · rw [valV_put, tk]
          by_cases hu : u = z
          · subst hu
            rw [if_pos rfl, e]
            simp
          · rw [if_neg fun k => hu (Sum.inl.inj k), hkv u]
            simp [hu]
    · rintro H2 ⟨sm2, kvs, hk, hkl, hkv⟩
      rw [List.length_map] at hkl
      have hkv2 : ∀ z : Int, valV kvs (Sum.inl z) = ((fun z => if z ∈ tie.2 then f z else none : Fx) z).map V.int := fun z => by
        rw [hkv z, List.length_map, List.take_length]
      have hfit : fits (fun z => if z ∈ tie.2 then f z else none) tie.2 row = fits f tie.2 row := fits_congr _ _ _ _ fun c' hc' => if_pos hc'
      generalize (fun z => if z ∈ tie.2 then f z else none : Fx) = g at hkv2 hfit
      have sm12 := sm1.trans sm2
      have hzl : (tie.2.zip row).length = min (tie.2.map V.int).length (row.map V.int).length := by
        rw [List.length_zip, List.length_map, List.length_map]
      have hzl4 : (tie.2.zip row).length ≤ 4 := by
        rw [List.length_zip]
        omega
      have hH1L : H1 D = none := hD
      refine ⟨_, rfl, _, rfl, c, rr, _, _, rfl, .inr ⟨sqT_same sm12 hc.sq, sqT_same sm12 hx2, fun D2 hD2 => lc_it (walk_zipT hzl)
        (fun j H' => Same H1 H' ∧ (∃ kvs' : List (Key × V), H' D = some (.dK kvs') ∧ kvs'.length ≤ 4 + j ∧ ∀ z : Int, valV kvs' (Sum.inl z) = (nxts g ((tie.2.zip row).take j) z).map V.int) ∧ H' D2 = some (.lst ((bls g ((tie.2.zip row).take j)).map V.bl)) ∧ D2 ≠ D ∧ (bls g ((tie.2.zip row).take j)).length ≤ j)
        ⟨same_nw _ sm2 hD2, ⟨kvs, ?_, by omega, fun z => hkv2 z⟩, upd_same, ?_, Nat.le_refl _⟩ (fun j H' _ h => ⟨sqT_same (sm1.trans h.1) hc.sq, sqT_same (sm1.trans h.1) hx2⟩) ?_ ?_⟩⟩
      · rw [upd_ne]
        · exact hk
        · rintro rfl
          rw [hk] at hD2
          cases hD2
      · rintro rfl
        rw [hk] at hD2
        cases hD2
      · rintro j x H3 H4 hj ⟨sm3, ⟨kvs', hk', hkl', hkv'⟩, hd2, hne, hbl⟩ ⟨T1, x1, x2, rfl, hT1, rfl, e1, e2⟩
        change (tie.2.map V.int)[j]? = some x1 at e1
        change (row.map V.int)[j]? = some x2 at e2
        rw [List.getElem?_map] at e1 e2
        obtain ⟨z, hz, rfl⟩ := Option.map_eq_some_iff.mp e1
        obtain ⟨v, hv, rfl⟩ := Option.map_eq_some_iff.mp e2
        have hzv : (tie.2.zip row)[j]? = some (z, v) := List.getElem?_zip_eq_some.mpr ⟨hz, hv⟩
        have tk : (tie.2.zip row).take (j + 1) = (tie.2.zip row).take j ++ [(z, v)] := by
          rw [List.take_succ, hzv]
          rfl
        have sm4 : Same H1 (upd H3 T1 (.tup [.int z, .int v])) := same_nw _ sm3 hT1
        have nT : Same H3 (upd H3 T1 (.tup [.int z, .int v])) := same_new _ hT1
        have hkT := nT _ _ hk'
        have hdT := nT _ _ hd2
        have hDn : H1 D = none := hD
        refine ⟨T1, _, rfl, .inl (.inl upd_same), rfl, _, _, rfl, _, _, rfl, rfl, rfl, ?_⟩
        refine ⟨_, rfl, D, rfl, .inl ⟨_, .inl hkT⟩, _, rfl, _, rfl, kvs', Sum.inl z, hkT, rfl, small1000 (by omega), fun y hy => ?_, fun hn => ?_⟩
        · rw [hkv' z] at hy
          obtain ⟨w, hw, rfl⟩ := Option.map_eq_some_iff.mp hy
          refine ⟨_, rfl, rfl, _, hdT, small1000 (by rw [List.length_map]; omega), ?_⟩
          have e3 : bls g ((tie.2.zip row).take (j + 1)) = bls g ((tie.2.zip row).take j) ++ [decide (V.int w = V.int v)] := by
            rw [tk, bls_snoc, hw, dec_int]
            rfl
          refine ⟨same_mut _ sm4 (same_free sm2 hD2), ⟨kvs', ?_, by omega, fun u => ?_⟩, ?_, hne, ?_⟩
          · rw [upd_ne (Ne.symm hne)]
            exact hkT
          · rw [hkv' u, tk, nxts_snoc]
            unfold nxt
            rw [hw]
          · rw [upd_same, e3, List.map_append]
            rfl
          · rw [e3, List.length_append]
            exact Nat.succ_le_succ hbl
        · rw [hkv' z] at hn
          have hw : nxts g ((tie.2.zip row).take j) z = none := by
            cases q : nxts g ((tie.2.zip row).take j) z with
            | none => rfl
            | some w =>
              rw [q] at hn
              cases hn
          refine ⟨_, rfl, rfl, _, by rw [upd_ne hne]; exact hdT, small1000 (by rw [List.length_map]; omega), ?_⟩
          have e3 : bls g ((tie.2.zip row).take (j + 1)) = bls g ((tie.2.zip row).take j) ++ [decide (V.int v = V.int v)] := by
            rw [tk, bls_snoc, hw, dec_int]
            simp
          refine ⟨same_mut _ (same_mut _ sm4 hDn) (same_free sm2 hD2), ⟨_, by rw [upd_ne (Ne.symm hne), upd_same], ?_, fun u => ?_⟩, ?_, hne, ?_⟩
          · have := length_putK kvs' (Sum.inl z) (.int v)
            omega
          · rw [valV_put, tk, nxts_snoc]
            unfold nxt
            rw [hw]
            by_cases hu : u = z
            · subst hu
              rw [if_pos rfl]
              show _ = (put _ u v u).map V.int
              rw [put_same]
              rfl
            · rw [if_neg fun k => hu (Sum.inl.inj k), hkv' u]
              show _ = (put _ z v u).map V.int
              rw [put_ne _ _ hu]
          · rw [upd_same, e3, List.map_append]
            rfl
          · rw [e3, List.length_append]
            exact Nat.succ_le_succ hbl
      · rintro H3 ⟨sm3, _, hd2, _, _⟩
        have sm13 := sm1.trans sm3
        rw [List.take_length] at hd2
        refine ⟨D2, _, rfl, .inl (.inl hd2), _, rfl, ?_⟩
        rw [bls_fits, hfit]
        have hnext : (rel.2.take (i + 1)).filter (fun r => fits f tie.2 r) = (rel.2.take i).filter (fun r => fits f tie.2 r) ++ (if fits f tie.2 row then [row] else []) := take_filter _ _ hrow
        have hacc3 := sm3 _ _ hacc
        cases e : fits f tie.2 row with
        | false =>
          rw [e] at hnext
          refine iteF ⟨_, _, acc, rfl, sm13, hacc3, by omega, ?_⟩
          rw [hnext, if_neg Bool.false_ne_true, List.append_nil]
          exact hrows.im (im_same sm3)
        | true =>
          rw [e] at hnext
          refine iteT ⟨_, rfl, .inl ⟨rfl, _, .inl (.inl hacc3)⟩, _, rfl, L, acc, _, rfl, rfl, hacc3, small1000 (by omega), ?_⟩
          refine ⟨_, _, _, rfl, same_mut _ sm13 hL, upd_same, by rw [List.length_append]; exact Nat.succ_le_succ haccl, ?_⟩
          rw [hnext, if_pos rfl]
          have im : Im H3 (upd H3 L (.lst (acc ++ [.ref rr]))) := im_mut _ hacc3 rfl
          exact (hrows.im ((im_same sm3).trans im)).snoc (sqT_im im (sqT_same sm13 hx2))
  · rintro σ H1 ⟨o6, o7, acc, rfl, sm1, hacc, haccl, hrows⟩
    refine ⟨_, rfl, q H1 L acc sm1 hL hacc ?_⟩
    unfold views
    rw [hro]
    rw [List.take_of_length_le (by omega)] at hrows
    exact hrows
end
end EC


set_option Elab.async false
set_option linter.all false
set_option maxRecDepth 100000
set_option maxHeartbeats 4000000
namespace EC
open PySem PySem.Spec PyProof.Rows L2
/-! ### plain words for chains and ways -/
theorem chainRun_append {va : Va} {ties : List Tie} : ∀ (ss ts : List PyData) (f : Fx), chainRun va ties f (ss ++ ts) = (chainRun va ties f ss).bind fun f' => chainRun va ties f' ts
  | [], ts, f => rfl
  | a :: ss, ts, f => by
    show (match stepRun va ties f a with | some f' => chainRun va ties f' (ss ++ ts) | none => none) = (match stepRun va ties f a with | some f' => chainRun va ties f' ss | none => none).bind _
    cases stepRun va ties f a with
    | none => rfl
    | some f' => exact chainRun_append ss ts f'
theorem chainRun_stop {va : Va} {ties : List Tie} {f : Fx} {ss : List PyData} {i : Nat} (h : chainRun va ties f (ss.take i) = none) : chainRun va ties f ss = none := by
  rw [← List.take_append_drop i ss, chainRun_append, h]
  rfl
theorem chainRun_next {va : Va} {ties : List Tie} {f g : Fx} {ss : List PyData} {i : Nat} {s : PyData} (hi : ss[i]? = some s) (h : chainRun va ties f (ss.take i) = some g) : chainRun va ties f (ss.take (i + 1)) = stepRun va ties g s := by
  rw [List.take_succ, hi]
  show chainRun va ties f (ss.take i ++ [s]) = _
  rw [chainRun_snoc, h]
  rfl
theorem chainOk_stop {va : Va} {ties : List Tie} {f : Fx} {ss : List PyData} {e : PyData} (h : chainRun va ties f ss = none) : chainOk va ties f ss e = false := by
  unfold chainOk
  rw [h]
theorem areB3 {e : PyData} (h : areB e 3 = true) : ∃ a b c, e = .tuple [a, b, c] := by
  cases e with
  | tuple ds =>
    have h' : (decide ((3 : Int) < 0) || decide ((ds.length : Int) = 3)) = true := h
    have h1 : (ds.length : Int) = 3 := by simpa using h'
    have h2 : ds.length = 3 := by omega
    match ds, h2 with
    | [a, b, c], _ => exact ⟨a, b, c, rfl⟩
  | _ => cases h
theorem stepOf_len {ties : List Tie} {s : PyData} (h : areB s 3 = false) : stepOf ties s = none := by
  cases e : stepOf ties s with
  | none => rfl
  | some u =>
    unfold stepOf at e
    split at e
    · exact absurd h (by show ¬ (decide ((3 : Int) < 0) || decide (((3 : Nat) : Int) = 3)) = false; decide)
    · cases e
theorem stepOf_inv {ties : List Tie} {a b c : PyData} {tie : Tie} {i v : Int} (h : stepOf ties (.tuple [a, b, c]) = some (tie, i, v)) : ∃ t : Int, a = .int t ∧ 0 ≤ t ∧ ties[t.toNat]? = some tie ∧ b = .int i ∧ c = .int v ∧ i ∈ tie.2 ∧ 0 ≤ v ∧ v < 2 := by
  cases b <;> try (cases h; done)
  cases c <;> try (cases h; done)
  rename_i i' v'
  have h' : (match tieAt ties a with | some tie => if i' ∈ tie.2 ∧ 0 ≤ v' ∧ v' < 2 then some (tie, i', v') else none | none => none) = some (tie, i, v) := h
  cases e : tieAt ties a with
  | none =>
    rw [e] at h'
    cases h'
  | some tie' =>
    rw [e] at h'
    obtain ⟨t, rfl, h0, ht⟩ := tieAt_int e
    have h2 : (if i' ∈ tie'.2 ∧ 0 ≤ v' ∧ v' < 2 then some (tie', i', v') else none) = some (tie, i, v) := h'
    split at h2
    · rename_i k
      cases h2
      exact ⟨t, rfl, h0, ht, rfl, rfl, k⟩
    · cases h2
theorem va_empty {bk : List Rel} {tie : Tie} {f : Fx} : vaOf bk tie f (fun _ => false) = decide ((views bk tie f).length = 0) := by
  show (views bk tie f).all (fun _ => false) = _
  cases views bk tie f <;> rfl
theorem view_len {bk : List Rel} {ties : List Tie} {n : Nat} {tie : Tie} {f : Fx} {r : List Int} (hG : Good bk ties n) (ht : tie ∈ ties) (hr : r ∈ views bk tie f) : r.length = tie.2.length := by
  obtain ⟨rel, hrel, hlen⟩ := (hG.tie tie ht).rel
  have h1 := (List.mem_filter.mp hr).1
  unfold rowsAt at h1
  rw [hrel] at h1
  rw [((hG.rel rel (List.mem_of_getElem? hrel)).rows r h1).1, hlen]
theorem tie_len {bk : List Rel} {ties : List Tie} {n : Nat} {tie : Tie} (hG : Good bk ties n) (ht : tie ∈ ties) : tie.2.length ≤ 4 := by
  obtain ⟨rel, hrel, hlen⟩ := (hG.tie tie ht).rel
  have := (hG.rel rel (List.mem_of_getElem? hrel)).hi
  have := (hG.rel rel (List.mem_of_getElem? hrel)).lo
  omega
theorem views_len {bk : List Rel} {ties : List Tie} {n : Nat} {tie : Tie} {f : Fx} (hG : Good bk ties n) (ht : tie ∈ ties) : (views bk tie f).length ≤ 16 := by
  obtain ⟨rel, hrel, hlen⟩ := (hG.tie tie ht).rel
  have h1 : rowsAt bk tie.1 = rel.2 := by
    unfold rowsAt
    rw [hrel]
  have h2 := List.length_filter_le (fun r => fits f tie.2 r) (rowsAt bk tie.1)
  have h3 := (hG.rel rel (List.mem_of_getElem? hrel)).len
  rw [h1] at h2
  unfold views
  rw [h1]
  omega
theorem at_val {cs r : List Int} {c : Int} (hc : c ∈ cs) (hr : r.length = cs.length) : atI (r.map V.int) ((cs.idxOf c : Nat) : Int) = some (V.int (valAt cs r c)) := by
  have h1 : cs.idxOf c < r.length := by
    rw [hr]
    exact List.idxOf_lt_length_iff.mpr hc
  refine atI_nat ?_
  rw [List.getElem?_map, List.getElem?_eq_getElem h1]
  unfold valAt
  rw [List.getD_eq_getElem?_getD, List.getElem?_eq_getElem h1]
  rfl
theorem tix_at {cs : List Int} {c : Int} (hc : c ∈ cs) : (cs.map V.int)[cs.idxOf c]? = some (V.int c) := by
  have h1 := List.idxOf_lt_length_iff.mpr hc
  rw [List.getElem?_map, List.getElem?_eq_getElem h1, List.getElem_idxOf]
  rfl
theorem eqV_int {a b : Int} : eqV (.int a) (.int b) = decide (a = b) := by
  unfold eqV
  exact Bool.beq_eq_decide_eq a b
theorem dec_len {xs : List V} {rows : List (List Int)} (h : xs.length = rows.length) : decide (V.int (xs.length : Nat) = V.int 0) = decide (rows.length = 0) := by
  rw [decide_eq_decide]
  constructor
  · intro e
    have := V.int.inj e
    omega
  · intro e
    rw [h, e]
    rfl
theorem tix_no {cs : List Int} {c : Int} (m : Nat) (z : V) (hm : m < cs.idxOf c) (hz : (cs.map V.int)[m]? = some z) : eqV z (.int c) = false := by
  rw [List.getElem?_map] at hz
  obtain ⟨u, hu, rfl⟩ := Option.map_eq_some_iff.mp hz
  rw [eqV_int]
  refine decide_eq_false fun e => ?_
  subst e
  obtain ⟨hl, e2⟩ := List.getElem?_eq_some_iff.mp hu
  have := List.idxOf_le_length (a := u) (l := cs)
  have h3 := List.not_of_lt_findIdx (p := (· == u)) (xs := cs) (i := m) hm
  simp [e2] at h3
def chainD (bk : List Rel) (ties : List Tie) (f : Fx) : PyData → PyData → Bool
  | .tuple ss, e => chainOk (vaOf bk) ties f ss e
  | _, _ => false
theorem chainD_tri {bk : List Rel} {ties : List Tie} {f : Fx} {d e : PyData} (h : triB d = false) : chainD bk ties f d e = false := by
  cases d with
  | tuple ss =>
    refine chainOk_stop ?_
    obtain ⟨s, hs, h3⟩ := List.all_eq_false.mp (show (ss.all fun e => areB e 3) = false from h)
    obtain ⟨i, hi, rfl⟩ := List.getElem_of_mem hs
    refine chainRun_stop (i := i + 1) ?_
    cases q : chainRun (vaOf bk) ties f (ss.take i) with
    | none =>
      have := chainRun_stop (i := i) (ss := ss.take (i + 1)) (f := f) (va := vaOf bk) (ties := ties) (by rw [List.take_take, Nat.min_eq_left (Nat.le_succ i)]; exact q)
      exact this
    | some g =>
      rw [chainRun_next (List.getElem?_eq_getElem hi) q]
      unfold stepRun
      rw [stepOf_len (by simpa using h3)]
  | _ => rfl
section
variable {P : Program} {w : World} {K : PySem.W.Frag} {mg : Str → Option Value} {base : Heap}
/-! ### chain_holds -/
def spChain (K : PySem.W.Frag) : Sp := fun vs H Q _ => ∃ (pz fx : Addr) (v y : V) (d e : PyData) (k m n : Nat) (bk : List Rel) (ties : List Tie) (f : Fx), vs = [.ref pz, .ref fx, v, y] ∧ PuzAt K H pz bk ties n ∧ Good bk ties n ∧ FxD H fx f m ∧ m ≤ 100 ∧ Dp K H v d ∧ fine k d ∧ Dp K H y e ∧
  ∀ H', Same H H' → Q (.bl (chainD bk ties f d e)) H'
theorem ok_chain_holds (T : Txt K mg) : Ok P w K mg base 4 d_chain_holds ["puzzle", "fixed", "steps", "t"] (spChain K) := by
  have G_is_number_below : Ok P w K mg base 1 d_is_number_below ["value", "bound"] (spNum K) := ok_is_number_below T
  have G_are_triples : Ok P w K mg base 1 d_are_triples ["value"] (spTri K) := ok_are_triples T
  have G_cells_of : Ok P w K mg base 2 d_cells_of ["puzzle", "t"] (spCellsOf K) := ok_cells_of T
  have G_is_step : Ok P w K mg base 3 d_is_step ["puzzle", "step"] (spStep K) := ok_is_step T
  have G_seen_rows : Ok P w K mg base 1 d_seen_rows ["puzzle", "t", "fixed"] (spSeen K) := ok_seen_rows T
  refine T.F_chain_holds.ok sc_chain_holds (fun vs H Q E h => ?_) (fun cdv A outer s H vs Q E hr h => ?_)
  · obtain ⟨pz, fx, v, y, d, e, k, m, n, bk, ties, f, rfl, _⟩ := h
    rfl
  obtain ⟨pz, fx, v, y, d, e, k, m, n, bk, ties, f, rfl, hP, hG, hF, hm, hd, hf, he, q⟩ := h
  refine ⟨_, PSs.nox (
  (pss_cons (ps_if (pt_not (pt_val (pe_call G_are_triples (hr.mono (by omega)) (by rfl) T.g_are_triples T.F_are_triples.kp T.b_are_triples .nil pass0 (pa_cons (pv 2) pa_nil))))
      (pss_one (ps_ret pe_bl))
      pss_nil)
    (pss_cons (ps_set (i := 1) sc_chain_holds.nd rfl (Or.inl rfl) (pe_callTy call_dictD (by rfl) T.z_dict (by decide +kernel) (pa_cons (pv 1) pa_nil)))
    (pss_cons (ps_for PassesOwn.never rfl (pi_tup (pv 2)) (pg_name (i := 4) sc_chain_holds.nd rfl (Or.inr rfl))
      (pss_cons (ps_if (PW.pt (pw_or (pt_not (pt_val (pe_call G_is_step (hr.mono (by omega)) (by rfl) T.g_is_step T.F_is_step.kp T.b_is_step .nil pass0 (pa_cons (pv 0) (pa_cons (pv 4) pa_nil))))) (pw_or1 (pt_cmp (pc_din (hu_of hr) (pe_ix ix_tup (pv 4) pe_int (fun _ _ => rfl)) (pv 1))))))
        (pss_one (ps_ret pe_bl))
        pss_nil)
      (pss_cons (ps_set (i := 5) sc_chain_holds.nd rfl (Or.inr rfl) (pe_tix (pe_call G_cells_of (hr.mono (by omega)) (by rfl) T.g_cells_of T.F_cells_of.kp T.b_cells_of .nil pass0 (pa_cons (pv 0) (pa_cons (pe_ix ix_tup (pv 4) pe_int (fun _ _ => rfl)) pa_nil))) (pa_cons (pe_ix ix_tup (pv 4) pe_int (fun _ _ => rfl)) pa_nil)))
      (pss_cons (ps_set (i := 6) sc_chain_holds.nd rfl (Or.inl rfl) (pe_call G_seen_rows (hr.mono (by omega)) (by rfl) T.g_seen_rows T.F_seen_rows.kp T.b_seen_rows .nil pass0 (pa_cons (pv 0) (pa_cons (pe_ix ix_tup (pv 4) pe_int (fun _ _ => rfl)) (pa_cons (pv 1) pa_nil)))))
      (pss_cons (ps_if (PW.pt (pw_or (pt_cmpR op_eq (pe_callB call_len_seq (by rfl) T.z_len PySem.boot_len (pa_cons (pv 6) pa_nil)) pe_int (nomark _)) (pw_or1 (pt_not (pt_val (pe_callB (cr_all rfl) (by rfl) T.z_all (by decide +kernel) (pa_cons (pe_lc (own := [("row", 7)]) rfl sc_chain_holds.nd (pi_list (pv 6)) (blkOk_by (own := [("row", 7)]) (N := ["puzzle", "fixed", "steps", "t", "step", "place", "rows", "row"]) (sc := defScope s_chain_holds) (by decide +kernel)) (fun _ _ _ _ _ => (pg_name (i := 7) sc_chain_holds.nd rfl (Or.inl rfl))) (fun _ _ _ _ _ => pts_nil) (fun _ _ _ _ _ => (pe_cmpR op_eq (pe_ix (ix_tupK (K := K) rfl) (pv 7) (pv 5) (fun _ _ => rfl)) (pe_ix (ix_tupK (K := K) rfl) (pv 4) pe_int (fun _ _ => rfl)) (nomark _)))) pa_nil)))))))
        (pss_one (ps_ret pe_bl))
        pss_nil)
      (pss_one (ps_dput (hu_of hr) (pv 1) (pe_ix ix_tup (pv 4) pe_int (fun _ _ => rfl)) (pe_ix ix_tup (pv 4) pe_int (fun _ _ => rfl)) rfl)))))))
    (pss_one (ps_ret (pe_and (pe_call G_is_number_below (hr.mono (by omega)) (by rfl) T.g_is_number_below T.F_is_number_below.kp T.b_is_number_below .nil pass0 (pa_cons (pv 3) (pa_cons (pe_callB call_len_seq (by rfl) T.z_len PySem.boot_len (pa_cons (pe_fldK (K := K) rfl (pv 0) (by rfl)) pa_nil)) pa_nil))) (pe_one (pe_cmpR op_eq (pe_callB call_len_seq (by rfl) T.z_len PySem.boot_len (pa_cons (pe_call G_seen_rows (hr.mono (by omega)) (by rfl) T.g_seen_rows T.F_seen_rows.kp T.b_seen_rows .nil pass0 (pa_cons (pv 0) (pa_cons (pv 3) (pa_cons (pv 1) pa_nil)))) pa_nil)) pe_int (nomark _)))))))))
  ), ?_⟩
  refine ⟨_, rfl, v, d, k, rfl, hd, hf, fun H1 s1 => ⟨_, rfl, ?_⟩⟩
  cases e3 : triB d with
  | false =>
    have := q _ s1
    rw [chainD_tri e3] at this
    exact iteT this
  | true =>
    refine iteF ?_
    have e4 : isTupD d = true := by
      cases d <;> first | rfl | cases e3
    obtain ⟨ss, rfl⟩ := tupD_yes e4
    have htri : ∀ s ∈ ss, areB s 3 = true := List.all_eq_true.mp (show (ss.all fun e => areB e 3) = true from e3)
    obtain ⟨_, rfl, hlen, hff⟩ := fine_tup hf
    obtain ⟨a, xs, rfl, hs, hds⟩ := dp_tup hd
    have hxl := dpAll_len hds
    have hF' := hF
    obtain ⟨kvs, hk, hkl, hkv⟩ := hF
    refine ⟨_, rfl, fx, kvs, rfl, .inl (s1 _ _ hk), fun F hFn => ?_⟩
    have s2 : Same H (upd H1 F (.dK kvs)) := same_nw _ s1 hFn
    have hFx : FxD (upd H1 F (.dK kvs)) F f m := ⟨kvs, upd_same, hkl, hkv⟩
    have hF0 : H F = none := same_free s1 hFn
    generalize upd H1 F (.dK kvs) = H2 at s2 hFx ⊢
    refine ⟨_, rfl, a, rfl, ⟨_, sqT_same s2 hs⟩, for_tup (xs := xs) (fun i σ H' => ∃ (o4 o5 o6 : Option V) (g : Fx), σ = [some (.ref pz), some (.ref F), some (.ref a), some y, o4, o5, o6, none] ∧ Same H H' ∧ FxD H' F g (m + i) ∧ chainRun (vaOf bk) ties f (ss.take i) = some g)
      ⟨_, _, _, f, rfl, s2, hFx, rfl⟩ (fun i σ H' _ h => by obtain ⟨_, _, _, _, _, e, _⟩ := h; exact sqT_same e hs) ?_ ?_⟩
    · rintro i x σ H3 hi ⟨o4, o5, o6, g, rfl, s3, hg, hrun⟩
      have hlt := (List.getElem?_eq_some_iff.mp hi).1
      obtain ⟨st, hst, hdx⟩ := dpAll_at hds hi
      obtain ⟨da, db, dc, rfl⟩ := areB3 (htri st (List.mem_of_getElem? hst))
      have hnx := chainRun_next hst hrun
      have hdx3 := dp_same s3 hdx
      have hdx3' := hdx3
      obtain ⟨sa, ys, rfl, hys, hds3⟩ := dp_tup hdx3
      have stop : chainRun (vaOf bk) ties f (ss.take (i + 1)) = none → ∀ H', Same H H' → Q (.bl false) H' := fun z H' s' => by
        have := q H' s'
        rw [show chainD bk ties f (.tuple ss) e = false from chainOk_stop (chainRun_stop z)] at this
        exact this
      refine ⟨_, rfl, _, rfl, pz, _, da, db, dc, bk, ties, n, rfl, hP.im (im_same s3), hG, hdx3', fun H4 s4 => ?_⟩
      refine ⟨_, rfl, ?_⟩
      cases e5 : stepOf ties (.tuple [da, db, dc]) with
      | none =>
        refine iteT (stop ?_ _ (s3.trans s4))
        rw [hnx]
        unfold stepRun
        rw [e5]
      | some u =>
        obtain ⟨tie, c, vv⟩ := u
        obtain ⟨t, rfl, ht0, hti, rfl, rfl, hct, hv0, hv1⟩ := stepOf_inv e5
        have htm : tie ∈ ties := List.mem_of_getElem? hti
        have htie : tieAt ties (.int t) = some tie := by
          show (if 0 ≤ t then ties[t.toNat]? else none) = _
          rw [if_pos ht0, hti]
        cases hds3 with
        | cons hxa r1 =>
        cases r1 with
        | cons hxb r2 =>
        cases r2 with
        | cons hxc r3 =>
        cases r3
        have ev1 := dp_int hxa
        have ev2 := dp_int hxb
        have ev3 := dp_int hxc
        subst ev1 ev2 ev3
        refine iteF ?_
        have hys4 := sqT_same s4 hys
        have hg4 := hg.same s4
        have sm4 := s3.trans s4
        refine ⟨_, rfl, sa, _, 1, _, rfl, rfl, hys4, rfl, _, rfl, F, _, rfl, hg4.get c, _, rfl, ?_⟩
        cases e6 : g c with
        | some w =>
          refine iteT (stop ?_ _ sm4)
          rw [hnx]
          unfold stepRun
          rw [e5]
          exact if_neg fun k => by rw [e6] at k; cases k.1
        | none =>
          refine iteF ?_
          refine ⟨_, rfl, _, rfl, sa, _, 0, _, rfl, rfl, hys4, rfl, pz, _, _, bk, ties, n, rfl, hP.im (im_same sm4), .int t, fun tie' ht' cc hcc => ?_, fun hn => ?_⟩
          · rw [htie] at ht'
            cases ht'
            refine ⟨cc, _, rfl, hcc, _, rfl, sa, _, 1, _, rfl, rfl, hys4, rfl, .int c, tie.2.idxOf c, .int c, rfl, hcc, rfl, flat_ints _, tix_at hct, by rw [eqV_int]; exact decide_eq_true rfl, tix_no, ?_⟩
            refine ⟨_, rfl, _, rfl, sa, _, 0, _, rfl, rfl, hys4, rfl, _, rfl, pz, F, t, bk, ties, n, _, tie, g, rfl, hP.im (im_same sm4), hG, ht0, hti, hg4, fun H5 L rs s5 hL hLx hrows => ?_⟩
            have sm5 := sm4.trans s5
            have hys5 := sqT_same s5 hys4
            refine ⟨_, rfl, L, rs, rfl, .inl (.inl (.inl hLx)), rfl, _, rfl, ?_⟩
            rw [dec_len hrows.1]
            cases e7 : decide ((views bk tie g).length = 0) with
            | true =>
              refine iteT (stop ?_ _ sm5)
              rw [hnx]
              unfold stepRun
              rw [e5]
              exact if_neg fun k => by
                have := k.2.1
                rw [va_empty, e7] at this
                cases this
            | false =>
              have h16 := views_len (f := g) hG htm
              have hrl := hrows.1
              refine iteF ⟨_, rfl, L, rfl, ⟨_, .inl (.inl hLx)⟩, fun D hD => lc_list (xs := rs) (fun j H' => Same H5 H' ∧ H' D = some (.lst ((((views bk tie g).take j).map fun r => decide (valAt tie.2 r c = vv)).map V.bl)))
                ⟨same_new _ hD, upd_same⟩ (fun j H' _ h => .inl (.inl (h.1 _ _ hLx))) ?_ ?_⟩
              · rintro j x H6 hj ⟨s6, hD6⟩
                have hjl := (List.getElem?_eq_some_iff.mp hj).1
                have hjv : j < (views bk tie g).length := by omega
                have hvj := List.getElem?_eq_getElem hjv
                have hmem := List.getElem_mem hjv
                obtain ⟨rb, hb1, hb2⟩ := hrows.2 j _ hvj
                rw [hj] at hb1
                cases hb1
                generalize (views bk tie g)[j] = r at hvj hmem hb2
                have hrlen := view_len hG htm hmem
                refine ⟨rfl, _, rfl, _, rfl, rb, _, _, _, rfl, rfl, sqT_same s6 hb2, at_val hct hrlen, ?_⟩
                refine ⟨_, rfl, sa, _, 2, _, rfl, rfl, sqT_same s6 hys5, rfl, rfl, _, hD6, small1000 (by rw [List.length_map, List.length_map, List.length_take]; omega), same_mut _ s6 hD, ?_⟩
                rw [upd_same, List.take_succ, hvj]
                have : decide (V.int (valAt tie.2 r c) = V.int vv) = decide (valAt tie.2 r c = vv) := by
                  rw [dec_int]
                  exact Bool.beq_eq_decide_eq _ _
                rw [this]
                simp
              · rintro H6 ⟨s6, hD6⟩
                rw [List.take_of_length_le (by omega)] at hD6
                refine ⟨D, _, rfl, .inl (.inl hD6), _, rfl, ?_⟩
                have e8 : ((views bk tie g).map fun r => decide (valAt tie.2 r c = vv)).all id = vaOf bk tie g (fun r => decide (valAt tie.2 r c = vv)) := by
                  rw [List.all_map]
                  rfl
                rw [e8]
                have sm6 := sm5.trans s6
                have hys6 := sqT_same s6 hys5
                cases e9 : vaOf bk tie g (fun r => decide (valAt tie.2 r c = vv)) with
                | false =>
                  refine iteT (stop ?_ _ sm6)
                  rw [hnx]
                  unfold stepRun
                  rw [e5]
                  exact if_neg fun k => by
                    have := k.2.2
                    rw [e9] at this
                    cases this
                | true =>
                  obtain ⟨H7, hput, hg7, o, rfl⟩ := ((hg4.same s5).same s6).put (by omega) c vv
                  refine iteF ⟨_, rfl, sa, _, 2, _, rfl, rfl, hys6, rfl, _, rfl, _, rfl, sa, _, 1, _, rfl, rfl, hys6, rfl, F, _, rfl, hput, _, _, _, put g c vv, rfl, same_mut _ sm6 hF0, hg7, ?_⟩
                  rw [hnx]
                  unfold stepRun
                  rw [e5]
                  refine if_pos ⟨e6, ?_, e9⟩
                  rw [va_empty, e7]
          · rw [htie] at hn
            cases hn
    · rintro σ H3 ⟨o4, o5, o6, g, rfl, s3, hg, hrun⟩
      rw [List.take_of_length_le (by omega)] at hrun
      have e5 : chainD bk ties f (.tuple ss) e = endOk (vaOf bk) ties g e := by
        show chainOk _ _ _ _ _ = _
        unfold chainOk
        rw [hrun]
      rw [e5] at q
      have hP3 := hP.im (im_same s3)
      have hP3' := hP3
      obtain ⟨dx, b, tv, hpz, hB, hT⟩ := hP3
      obtain ⟨ta, ts, rfl, ht1, ht2, ht3⟩ := hT
      have he3 := dp_same s3 he
      refine ⟨_, rfl, _, rfl, pz, _, dx, _, _, rfl, hpz, T.c_Puzzle, T.n_Puzzle_ties, rfl, ta, ts, rfl, .inr ht1, y, e, _, rfl, he3, _, rfl, ?_⟩
      rw [ht2, ← tieAt_numB]
      unfold endOk at q
      cases e6 : tieAt ties e with
      | none =>
        rw [e6] at q
        exact iteF (q _ s3)
      | some tie =>
        rw [e6] at q
        obtain ⟨t, rfl, ht0, hti⟩ := tieAt_int e6
        have ev := dp_int he3
        subst ev
        refine iteT ⟨_, rfl, _, rfl, _, rfl, pz, F, t, bk, ties, n, _, tie, g, rfl, hP3', hG, ht0, hti, hg, fun H5 L rs s5 hL hLx hrows => ?_⟩
        refine ⟨L, rs, rfl, .inl (.inl (.inl hLx)), rfl, ?_⟩
        have := q _ (s3.trans s5)
        rw [dec_len hrows.1, ← va_empty]
        exact this
end
end EC


set_option Elab.async false
set_option linter.all false
set_option maxRecDepth 100000
set_option maxHeartbeats 4000000
namespace EC
open PySem PySem.Spec PyProof.Rows L2
def wayD (bk : List Rel) (ties : List Tie) (f : Fx) (c0 v0 : Int) : PyData → Bool
  | .tuple ss => !ss.isEmpty && wayOk (vaOf bk) ties f c0 (1 - v0) c0 v0 ss
  | _ => false
theorem all_filt {α : Type} (p q : α → Bool) : ∀ l : List α, (l.filter p).all q = l.all fun r => !p r || q r
  | [] => rfl
  | a :: l => by
    rw [List.all_cons, ← all_filt p q l]
    cases e : p a with
    | true =>
      rw [List.filter_cons_of_pos e, List.all_cons]
      rfl
    | false =>
      rw [List.filter_cons_of_neg (by rw [e]; exact Bool.false_ne_true)]
      rfl
theorem wayOk_tri {va : Va} {ties : List Tie} {f : Fx} {e1 e2 : Int} : ∀ {ss : List PyData} {c v : Int}, (ss.all fun e => areB e 3) = false → wayOk va ties f e1 e2 c v ss = false
  | [], _, _, h => by cases h
  | s :: ss, c, v, h => by
    unfold wayOk
    cases e : stepOf ties s with
    | none => rfl
    | some u =>
      obtain ⟨tie, c', v'⟩ := u
      have h1 : areB s 3 = true := by
        cases q : areB s 3 with
        | true => rfl
        | false =>
          rw [stepOf_len q] at e
          cases e
      rw [List.all_cons, h1, Bool.true_and] at h
      show (decide (c ∈ tie.2) && va tie f _ && wayOk va ties f e1 e2 c' v' ss) = false
      rw [wayOk_tri h, Bool.and_false]
theorem wayD_tri {bk : List Rel} {ties : List Tie} {f : Fx} {c0 v0 : Int} {d : PyData} (h : triB d = false) : wayD bk ties f c0 v0 d = false := by
  cases d with
  | tuple ss =>
    show (!ss.isEmpty && wayOk (vaOf bk) ties f c0 (1 - v0) c0 v0 ss) = false
    rw [wayOk_tri (show (ss.all fun e => areB e 3) = false from h), Bool.and_false]
  | _ => rfl
section
variable {P : Program} {w : World} {K : PySem.W.Frag} {mg : Str → Option Value} {base : Heap}
/-! ### way_holds -/
def spWay (K : PySem.W.Frag) : Sp := fun vs H Q _ => ∃ (pz fx : Addr) (c0 v0 : Int) (v : V) (d : PyData) (k m n : Nat) (bk : List Rel) (ties : List Tie) (f : Fx), vs = [.ref pz, .ref fx, .int c0, .int v0, v] ∧ PuzAt K H pz bk ties n ∧ Good bk ties n ∧ FxD H fx f m ∧ m ≤ 100 ∧ Dp K H v d ∧ fine k d ∧
  ∀ H', Same H H' → Q (.bl (wayD bk ties f c0 v0 d)) H'
theorem ok_way_holds (T : Txt K mg) : Ok P w K mg base 4 d_way_holds ["puzzle", "fixed", "cell", "value", "steps"] (spWay K) := by
  have G_are_triples : Ok P w K mg base 1 d_are_triples ["value"] (spTri K) := ok_are_triples T
  have G_cells_of : Ok P w K mg base 2 d_cells_of ["puzzle", "t"] (spCellsOf K) := ok_cells_of T
  have G_is_step : Ok P w K mg base 3 d_is_step ["puzzle", "step"] (spStep K) := ok_is_step T
  have G_seen_rows : Ok P w K mg base 1 d_seen_rows ["puzzle", "t", "fixed"] (spSeen K) := ok_seen_rows T
  refine T.F_way_holds.ok sc_way_holds (fun vs H Q E h => ?_) (fun cdv A outer s H vs Q E hr h => ?_)
  · obtain ⟨pz, fx, c0, v0, v, d, k, m, n, bk, ties, f, rfl, _⟩ := h
    rfl
  obtain ⟨pz, fx, c0, v0, v, d, k, m, n, bk, ties, f, rfl, hP, hG, hF, hm, hd, hf, q⟩ := h
  refine ⟨_, PSs.nox (
  (pss_cons (ps_if (PW.pt (pw_or (pt_not (pt_val (pe_call G_are_triples (hr.mono (by omega)) (by rfl) T.g_are_triples T.F_are_triples.kp T.b_are_triples .nil pass0 (pa_cons (pv 4) pa_nil)))) (pw_or1 (pt_cmpR op_eq (pe_callB call_len_seq (by rfl) T.z_len PySem.boot_len (pa_cons (pv 4) pa_nil)) pe_int (nomark _)))))
      (pss_one (ps_ret pe_bl))
      pss_nil)
    (pss_cons (ps_asg (pe_tup (pa_cons (pv 2) (pa_cons (pv 3) pa_nil))) (pg_tup rfl (pgs_cons (pg_name (i := 5) sc_way_holds.nd rfl (Or.inl rfl)) (pgs_cons (pg_name (i := 6) sc_way_holds.nd rfl (Or.inr rfl)) pgs_nil))))
    (pss_cons (ps_for PassesOwn.never rfl (pi_tup (pv 4)) (pg_name (i := 7) sc_way_holds.nd rfl (Or.inr rfl))
      (pss_cons (ps_set (i := 8) sc_way_holds.nd rfl (Or.inl rfl) (pe_call G_cells_of (hr.mono (by omega)) (by rfl) T.g_cells_of T.F_cells_of.kp T.b_cells_of .nil pass0 (pa_cons (pv 0) (pa_cons (pe_ix ix_tup (pv 7) pe_int (fun _ _ => rfl)) pa_nil))))
      (pss_cons (ps_if (PW.pt (pw_or (pt_not (pt_val (pe_call G_is_step (hr.mono (by omega)) (by rfl) T.g_is_step T.F_is_step.kp T.b_is_step .nil pass0 (pa_cons (pv 0) (pa_cons (pv 7) pa_nil))))) (pw_or1 (pt_cmpR op_notIn_seq (pv 5) (pv 8) (by rfl)))))
        (pss_one (ps_ret pe_bl))
        pss_nil)
      (pss_cons (ps_asg (pe_tup (pa_cons (pe_tix (pv 8) (pa_cons (pv 5) pa_nil)) (pa_cons (pe_tix (pv 8) (pa_cons (pe_ix ix_tup (pv 7) pe_int (fun _ _ => rfl)) pa_nil)) pa_nil))) (pg_tup rfl (pgs_cons (pg_name (i := 9) sc_way_holds.nd rfl (Or.inr rfl)) (pgs_cons (pg_name (i := 10) sc_way_holds.nd rfl (Or.inr rfl)) pgs_nil))))
      (pss_cons (ps_setLc (i := 11) (own := [("row", 12)]) (by rfl) sc_way_holds.nd rfl rfl (sw_true rfl rfl rfl (by decide +kernel)) (pi_list (pe_call G_seen_rows (hr.mono (by omega)) (by rfl) T.g_seen_rows T.F_seen_rows.kp T.b_seen_rows .nil pass0 (pa_cons (pv 0) (pa_cons (pe_ix ix_tup (pv 7) pe_int (fun _ _ => rfl)) (pa_cons (pv 1) pa_nil))))) (blkOk_by (own := [("row", 12)]) (N := ["puzzle", "fixed", "cell", "value", "steps", "at", "worth", "step", "cells", "first", "other", "rows", "row"]) (sc := defScope s_way_holds) (by decide +kernel)) (fun _ _ _ _ _ => (pg_name (i := 12) sc_way_holds.nd rfl (Or.inl rfl))) (fun _ _ _ _ _ => pts_one (pt_cmpR op_eq (pe_ix (ix_tupK (K := K) rfl) (pv 12) (pv 9) (fun _ _ => rfl)) (pv 6) (nomark _))) (fun _ _ _ _ _ => (pv 12)))
      (pss_cons (ps_if (pt_not (pt_val (pe_callB (cr_all rfl) (by rfl) T.z_all (by decide +kernel) (pa_cons (pe_lc (own := [("row", 12)]) rfl sc_way_holds.nd (pi_list (pv 11)) (blkOk_by (own := [("row", 12)]) (N := ["puzzle", "fixed", "cell", "value", "steps", "at", "worth", "step", "cells", "first", "other", "rows", "row"]) (sc := defScope s_way_holds) (by decide +kernel)) (fun _ _ _ _ _ => (pg_name (i := 12) sc_way_holds.nd rfl (Or.inl rfl))) (fun _ _ _ _ _ => pts_nil) (fun _ _ _ _ _ => (pe_cmpR op_eq (pe_ix (ix_tupK (K := K) rfl) (pv 12) (pv 10) (fun _ _ => rfl)) (pe_ix (ix_tupK (K := K) rfl) (pv 7) pe_int (fun _ _ => rfl)) (nomark _)))) pa_nil))))
        (pss_one (ps_ret pe_bl))
        pss_nil)
      (pss_one (ps_asg (pe_tup (pa_cons (pe_ix ix_tup (pv 7) pe_int (fun _ _ => rfl)) (pa_cons (pe_ix ix_tup (pv 7) pe_int (fun _ _ => rfl)) pa_nil))) (pg_tup rfl (pgs_cons (pg_name (i := 5) sc_way_holds.nd rfl (Or.inl rfl)) (pgs_cons (pg_name (i := 6) sc_way_holds.nd rfl (Or.inr rfl)) pgs_nil)))))))))))
    (pss_one (ps_ret (pe_and (pe_cmpR op_eq (pv 5) (pv 2) (nomark _)) (pe_one (pe_cmpR op_eq (pv 6) (pe_op op_sub pe_int (pv 3)) (nomark _)))))))))
  ), ?_⟩
  refine ⟨_, rfl, v, d, k, rfl, hd, hf, fun H1 s1 => ⟨_, rfl, ?_⟩⟩
  cases e3 : triB d with
  | false =>
    have := q _ s1
    rw [wayD_tri e3] at this
    exact iteT this
  | true =>
    refine iteF ?_
    have e4 : isTupD d = true := by
      cases d <;> first | rfl | cases e3
    obtain ⟨ss, rfl⟩ := tupD_yes e4
    have htri : ∀ s ∈ ss, areB s 3 = true := List.all_eq_true.mp (show (ss.all fun e => areB e 3) = true from e3)
    obtain ⟨_, rfl, hlen, hff⟩ := fine_tup hf
    obtain ⟨a, xs, rfl, hs, hds⟩ := dp_tup hd
    have hxl := dpAll_len hds
    refine ⟨_, rfl, a, xs, rfl, .inr (sqT_same s1 hs), rfl, _, rfl, ?_⟩
    cases ess : ss with
    | nil =>
      subst ess
      have e5 : xs.length = 0 := hxl
      rw [e5]
      exact iteT (q _ s1)
    | cons s0 st0 =>
    have hwd : wayD bk ties f c0 v0 (.tuple ss) = wayOk (vaOf bk) ties f c0 (1 - v0) c0 v0 ss := by
      rw [ess]
      rfl
    rw [hwd] at q
    have hx0 : xs.length ≠ 0 := by
      rw [hxl, ess]
      exact Nat.succ_ne_zero _
    refine ifF (decide_eq_false fun z => hx0 (by have := V.int.inj z; omega)) ?_
    refine ⟨_, rfl, _, rfl, (by show 2 ≤ sizeLine; decide), fun T0 hT0 => ⟨T0, _, rfl, .inl (.inl upd_same), rfl, _, _, rfl, _, _, rfl, rfl, ?_⟩⟩
    have s2 : Same H (upd H1 T0 (.tup [.int c0, .int v0])) := same_nw _ s1 hT0
    generalize upd H1 T0 (.tup [.int c0, .int v0]) = H2 at s2 ⊢
    refine ⟨_, rfl, a, rfl, ⟨_, sqT_same s2 hs⟩, for_tup (xs := xs) (fun i σ H' => ∃ (o7 o8 o9 o10 o11 : Option V) (c v : Int), σ = [some (.ref pz), some (.ref fx), some (.int c0), some (.int v0), some (.ref a), some (.int c), some (.int v), o7, o8, o9, o10, o11, none] ∧ Same H H' ∧ wayOk (vaOf bk) ties f c0 (1 - v0) c0 v0 ss = wayOk (vaOf bk) ties f c0 (1 - v0) c v (ss.drop i))
      ⟨_, _, _, _, _, c0, v0, rfl, s2, rfl⟩ (fun i σ H' _ h => by obtain ⟨_, _, _, _, _, _, _, _, e, _⟩ := h; exact sqT_same e hs) ?_ ?_⟩
    · rintro i x σ H3 hi ⟨o7, o8, o9, o10, o11, c, v, rfl, s3, hway⟩
      have hlt := (List.getElem?_eq_some_iff.mp hi).1
      obtain ⟨st, hst, hdx⟩ := dpAll_at hds hi
      obtain ⟨da, db, dc, rfl⟩ := areB3 (htri st (List.mem_of_getElem? hst))
      have hdrop : ss.drop i = .tuple [da, db, dc] :: ss.drop (i + 1) := by
        have hl := (List.getElem?_eq_some_iff.mp hst)
        rw [List.drop_eq_getElem_cons hl.1, hl.2]
      rw [hdrop] at hway
      have hdx3 := dp_same s3 hdx
      have hdx3' := hdx3
      obtain ⟨sa, ys, rfl, hys, hds3⟩ := dp_tup hdx3
      cases hds3 with
      | cons hxa r1 =>
      cases r1 with
      | cons hxb r2 =>
      cases r2 with
      | cons hxc r3 =>
      cases r3
      have stop0 : stepOf ties (.tuple [da, db, dc]) = none → ∀ H', Same H H' → Q (.bl false) H' := fun z H' s' => by
        have := q H' s'
        rw [hway] at this
        unfold wayOk at this
        rw [z] at this
        exact this
      have hP3 := hP.im (im_same s3)
      refine ⟨_, rfl, _, rfl, sa, _, 0, _, rfl, rfl, hys, rfl, pz, _, da, bk, ties, n, rfl, hP3, hxa, fun tie ht cc hcc => ?_, fun ht T1 hT1 => ?_⟩
      · refine ⟨_, rfl, _, rfl, pz, _, da, db, dc, bk, ties, n, rfl, hP3, hG, hdx3', fun H4 s4 => ⟨_, rfl, ?_⟩⟩
        have sm4 := s3.trans s4
        cases e5 : stepOf ties (.tuple [da, db, dc]) with
        | none => exact iteT (stop0 e5 _ sm4)
        | some u =>
        obtain ⟨tie', c', v'⟩ := u
        have e5' := e5
        obtain ⟨t, rfl, ht0, hti, rfl, rfl, hct, hv0, hv1⟩ := stepOf_inv e5
        have htm : tie' ∈ ties := List.mem_of_getElem? hti
        have htie : tieAt ties (.int t) = some tie' := by
          show (if 0 ≤ t then ties[t.toNat]? else none) = _
          rw [if_pos ht0, hti]
        rw [htie] at ht
        have ett : tie' = tie := Option.some.inj ht
        subst ett
        have ev1 := dp_int hxa
        have ev2 := dp_int hxb
        have ev3 := dp_int hxc
        subst ev1 ev2 ev3
        have hway2 : wayOk (vaOf bk) ties f c0 (1 - v0) c0 v0 ss = (decide (c ∈ tie'.2) && vaOf bk tie' f (fun r => !decide (valAt tie'.2 r c = v) || decide (valAt tie'.2 r c' = v')) && wayOk (vaOf bk) ties f c0 (1 - v0) c' v' (ss.drop (i + 1))) := by
          rw [hway]
          conv => lhs; unfold wayOk
          rw [e5']
        have hcc4 := hcc.same s4
        refine iteF ⟨_, rfl, _, rfl, cc, _, rfl, .inr hcc4.sq, rfl, flat_ints _, _, rfl, ?_⟩
        have e6 : (if true = true then !inV (.int c) (tie'.2.map V.int) else inV (.int c) (tie'.2.map V.int)) = !decide (c ∈ tie'.2) := by
          rw [if_pos rfl, inV_int]
        rw [e6]
        by_cases hm1 : c ∈ tie'.2
        · rw [decide_eq_true hm1] at hway2 ⊢
          rw [Bool.true_and] at hway2
          have hys4 := sqT_same s4 hys
          refine iteF ⟨_, rfl, cc, _, rfl, hcc4, _, rfl, .int c, tie'.2.idxOf c, .int c, rfl, hcc4, rfl, flat_ints _, tix_at hm1, by rw [eqV_int]; exact decide_eq_true rfl, tix_no, ?_⟩
          refine ⟨_, rfl, cc, _, rfl, hcc4, _, rfl, sa, _, 1, _, rfl, rfl, hys4, rfl, .int c', tie'.2.idxOf c', .int c', rfl, hcc4, rfl, flat_ints _, tix_at hct, by rw [eqV_int]; exact decide_eq_true rfl, tix_no, ?_⟩
          refine ⟨(by show 2 ≤ sizeLine; decide), fun T2 hT2 => ⟨T2, _, rfl, .inl (.inl upd_same), rfl, _, _, rfl, _, _, rfl, rfl, ?_⟩⟩
          have s5 : Same H4 (upd H4 T2 (.tup [.int (tie'.2.idxOf c : Nat), .int (tie'.2.idxOf c' : Nat)])) := same_new _ hT2
          generalize upd H4 T2 (.tup [.int (tie'.2.idxOf c : Nat), .int (tie'.2.idxOf c' : Nat)]) = H5 at s5 ⊢
          have sm5 := sm4.trans s5
          have hys5 := sqT_same s5 hys4
          refine ⟨_, rfl, _, rfl, sa, _, 0, _, rfl, rfl, hys5, rfl, _, rfl, pz, fx, t, bk, ties, n, _, tie', f, rfl, hP.im (im_same sm5), hG, ht0, hti, hF.same sm5, fun H6 L rs s6 hL hLx hrows => ?_⟩
          have sm6 := sm5.trans s6
          have hys6 := sqT_same s6 hys5
          have h16 := views_len (f := f) hG htm
          have hrl := hrows.1
          refine ⟨L, rfl, ⟨_, .inl (.inl hLx)⟩, fun D hD => lc_list (xs := rs) (fun j H' => Same H6 H' ∧ ∃ acc : List V, H' D = some (.lst acc) ∧ acc.length ≤ j ∧ RowsL K H' acc (((views bk tie' f).take j).filter fun r => decide (valAt tie'.2 r c = v)))
            ⟨same_new _ hD, [], upd_same, Nat.le_refl _, RowsL.nil⟩ (fun j H' _ h => .inl (.inl (h.1 _ _ hLx))) ?_ ?_⟩
          · rintro j x H7 hj ⟨s7, acc, hacc, haccl, hrws⟩
            have hjl := (List.getElem?_eq_some_iff.mp hj).1
            have hjv : j < (views bk tie' f).length := by omega
            have hvj := List.getElem?_eq_getElem hjv
            have hmem := List.getElem_mem hjv
            obtain ⟨rb, hb1, hb2⟩ := hrows.2 j _ hvj
            rw [hj] at hb1
            cases hb1
            generalize (views bk tie' f)[j] = r at hvj hmem hb2
            have hrlen := view_len hG htm hmem
            have hnext := take_filter (fun r => decide (valAt tie'.2 r c = v)) _ hvj
            refine ⟨rfl, _, rfl, _, rfl, rb, _, _, _, rfl, rfl, sqT_same s7 hb2, at_val hm1 hrlen, _, rfl, rfl, _, rfl, ?_⟩
            have e7 : decide (V.int (valAt tie'.2 r c) = V.int v) = decide (valAt tie'.2 r c = v) := by
              rw [dec_int]
              exact Bool.beq_eq_decide_eq _ _
            rw [e7]
            cases e8 : decide (valAt tie'.2 r c = v) with
            | false =>
              rw [if_neg (by rw [e8]; exact Bool.false_ne_true), List.append_nil] at hnext
              exact iteF ⟨s7, acc, hacc, by omega, by rw [hnext]; exact hrws⟩
            | true =>
              rw [if_pos e8] at hnext
              have im : Im H7 (upd H7 D (.lst (acc ++ [.ref rb]))) := im_mut _ hacc rfl
              refine iteT ⟨_, rfl, acc, hacc, small1000 (by omega), same_mut _ s7 hD, _, upd_same, by rw [List.length_append]; exact Nat.succ_le_succ haccl, ?_⟩
              rw [hnext]
              exact (hrws.im im).snoc (sqT_im im (sqT_same s7 hb2))
          rintro H7 ⟨s7, acc, hacc, haccl, hrws⟩
          rw [List.take_of_length_le (by omega)] at hrws
          have sm7 := sm6.trans s7
          have hys7 := sqT_same s7 hys6
          generalize hvs : (views bk tie' f).filter (fun r => decide (valAt tie'.2 r c = v)) = vs at hrws
          have hvl := hrws.1
          have hmv : ∀ r ∈ vs, r ∈ views bk tie' f := fun r hr => by
            rw [← hvs] at hr
            exact (List.mem_filter.mp hr).1
          refine ⟨_, rfl, D, rfl, ⟨_, .inl (.inl hacc)⟩, fun D2 hD2 => lc_list (xs := acc) (fun j H' => Same H7 H' ∧ H' D2 = some (.lst (((vs.take j).map fun r => decide (valAt tie'.2 r c' = v')).map V.bl)))
            ⟨same_new _ hD2, upd_same⟩ (fun j H' _ h => .inl (.inl (h.1 _ _ hacc))) ?_ ?_⟩
          · rintro j x H8 hj ⟨s8, hD8⟩
            have hjl := (List.getElem?_eq_some_iff.mp hj).1
            have hjv : j < vs.length := by omega
            have hvj := List.getElem?_eq_getElem hjv
            have hmem := List.getElem_mem hjv
            obtain ⟨rb, hb1, hb2⟩ := hrws.2 j _ hvj
            rw [hj] at hb1
            cases hb1
            generalize vs[j] = r at hvj hmem hb2
            have hrlen := view_len hG htm (hmv r hmem)
            refine ⟨rfl, _, rfl, _, rfl, rb, _, _, _, rfl, rfl, sqT_same s8 hb2, at_val hct hrlen, ?_⟩
            refine ⟨_, rfl, sa, _, 2, _, rfl, rfl, sqT_same s8 hys7, rfl, rfl, _, hD8, small1000 (by rw [List.length_map, List.length_map, List.length_take]; omega), same_mut _ s8 hD2, ?_⟩
            rw [upd_same, List.take_succ, hvj]
            have : decide (V.int (valAt tie'.2 r c') = V.int v') = decide (valAt tie'.2 r c' = v') := by
              rw [dec_int]
              exact Bool.beq_eq_decide_eq _ _
            rw [this]
            simp
          rintro H8 ⟨s8, hD8⟩
          rw [List.take_of_length_le (by omega)] at hD8
          refine ⟨D2, _, rfl, .inl (.inl hD8), _, rfl, ?_⟩
          have e8 : (vs.map fun r => decide (valAt tie'.2 r c' = v')).all id = vaOf bk tie' f (fun r => !decide (valAt tie'.2 r c = v) || decide (valAt tie'.2 r c' = v')) := by
            rw [List.all_map, ← hvs]
            exact all_filt (fun r => decide (valAt tie'.2 r c = v)) (fun r => decide (valAt tie'.2 r c' = v')) _
          rw [e8]
          have sm8 := sm7.trans s8
          have hys8 := sqT_same s8 hys7
          cases e9 : vaOf bk tie' f (fun r => !decide (valAt tie'.2 r c = v) || decide (valAt tie'.2 r c' = v')) with
          | false =>
            have := q _ sm8
            rw [hway2, e9] at this
            exact iteT this
          | true =>
            rw [e9, Bool.true_and] at hway2
            refine iteF ⟨_, rfl, sa, _, 1, _, rfl, rfl, hys8, rfl, _, rfl, sa, _, 2, _, rfl, rfl, hys8, rfl, (by show 2 ≤ sizeLine; decide), fun T3 hT3 => ⟨T3, _, rfl, .inl (.inl upd_same), rfl, _, _, rfl, _, _, rfl, rfl, ?_⟩⟩
            exact ⟨_, _, _, _, _, c', v', rfl, same_nw _ sm8 hT3, hway2⟩
        · rw [decide_eq_false hm1] at hway2 ⊢
          have := q _ sm4
          rw [hway2] at this
          exact iteT this
      · have s4 : Same H3 (upd H3 T1 (.tup [])) := same_new _ hT1
        refine ⟨_, rfl, _, rfl, pz, _, da, db, dc, bk, ties, n, rfl, hP3.im (im_same s4), hG, dp_same s4 hdx3', fun H4 s5 => ⟨_, rfl, ?_⟩⟩
        rw [stepOf_tie ht]
        exact iteT (stop0 (stepOf_tie ht) _ ((s3.trans s4).trans s5))
    · rintro σ H3 ⟨o7, o8, o9, o10, o11, c, v, rfl, s3, hway⟩
      rw [List.drop_eq_nil_of_le (by omega)] at hway
      have hw : wayOk (vaOf bk) ties f c0 (1 - v0) c0 v0 ss = (decide (c = c0) && decide (v = 1 - v0)) := by
        rw [hway]
        rfl
      have := q _ s3
      rw [hw] at this
      refine ⟨_, rfl, _, rfl, rfl, _, rfl, ?_⟩
      have e7 : decide (V.int c = V.int c0) = decide (c = c0) := by
        rw [dec_int]
        exact Bool.beq_eq_decide_eq _ _
      rw [e7]
      cases e8 : decide (c = c0) with
      | false =>
        rw [e8] at this
        exact iteF this
      | true =>
        rw [e8] at this
        refine iteT ⟨_, rfl, _, rfl, _, _, rfl, rfl, rfl, ?_⟩
        have e9 : decide (V.int v = V.int (1 - v0)) = decide (v = 1 - v0) := by
          rw [dec_int]
          exact Bool.beq_eq_decide_eq _ _
        rw [e9]
        exact this
end
end EC


set_option Elab.async false
set_option linter.all false
set_option maxRecDepth 100000
set_option maxHeartbeats 4000000
namespace EC
open PySem PySem.Spec PyProof.Rows L2
theorem pi_listK {X : Cx} {K : PySem.W.Frag} {tg l : Expr} {tl : TE} (hK : X.K = K) (hl : PE X l tl) : PI X tg l (iList K tl) := by
  subst hK
  exact pi_list hl
/-! ### plain words for parts -/
theorem intsOf_inv : ∀ {ds : List PyData} {ns : List Int}, intsOf ds = some ns → ds = ns.map .int
  | [], ns, h => by
    cases h
    rfl
  | d :: ds, ns, h => by
    cases d <;> try (cases h; done)
    rename_i i
    have h' : (intsOf ds).map (i :: ·) = some ns := h
    obtain ⟨ms, e1, rfl⟩ := Option.map_eq_some_iff.mp h'
    rw [intsOf_inv e1]
    rfl
theorem intsOf_mk : ∀ ns : List Int, intsOf (ns.map .int) = some ns
  | [] => rfl
  | n :: ns => by
    show (intsOf (ns.map .int)).map (n :: ·) = _
    rw [intsOf_mk ns]
    rfl
theorem rises_iff : ∀ ns : List Int, rises ns = true ↔ ∀ (i : Nat) (y z : Int), ns[i]? = some y → ns[i + 1]? = some z → y < z
  | [] => ⟨fun _ i y z h => by simp at h, fun _ => rfl⟩
  | [a] => ⟨fun _ i y z h k => by simp at k, fun _ => rfl⟩
  | a :: b :: r => by
    show (decide (a < b) && rises (b :: r)) = true ↔ _
    rw [Bool.and_eq_true, decide_eq_true_eq, rises_iff (b :: r)]
    constructor
    · rintro ⟨h1, h2⟩ i y z hy hz
      cases i with
      | zero =>
        have e1 : a = y := by simpa using hy
        have e2 : b = z := by simpa using hz
        rw [← e1, ← e2]
        exact h1
      | succ i => exact h2 i y z (by simpa using hy) (by simpa using hz)
    · intro h
      exact ⟨h 0 a b rfl rfl, fun i y z hy hz => h (i + 1) y z (by simpa using hy) (by simpa using hz)⟩
theorem partOf_inv {va : Va} {ties : List Tie} {f : Fx} {a b c : PyData} {ns : List Int} {bit : Int} (h : partOf va ties f (.tuple [a, b, c]) = some (ns, bit)) : ∃ tie, tieAt ties a = some tie ∧ b = .tuple (ns.map .int) ∧ c = .int bit ∧ 0 ≤ bit ∧ bit < 2 ∧ rises ns = true ∧ (∀ x ∈ ns, x ∈ tie.2) ∧ va tie f (fun r => decide (((ns.map (valAt tie.2 r)).sum + bit) % 2 = 0)) = true := by
  cases b <;> try (cases h; done)
  cases c <;> try (cases h; done)
  rename_i cs v
  have h' : (match tieAt ties a, intsOf cs with
    | some tie, some cs => if 0 ≤ v ∧ v < 2 ∧ rises cs = true ∧ (∀ c ∈ cs, c ∈ tie.2) ∧ va tie f (fun r => decide (((cs.map (valAt tie.2 r)).sum + v) % 2 = 0)) = true then some (cs, v) else none
    | _, _ => none) = some (ns, bit) := h
  cases e1 : tieAt ties a with
  | none =>
    rw [e1] at h'
    cases h'
  | some tie =>
    cases e2 : intsOf cs with
    | none =>
      rw [e1, e2] at h'
      cases h'
    | some ms =>
      rw [e1, e2] at h'
      have h2 : (if 0 ≤ v ∧ v < 2 ∧ rises ms = true ∧ (∀ c ∈ ms, c ∈ tie.2) ∧ va tie f (fun r => decide (((ms.map (valAt tie.2 r)).sum + v) % 2 = 0)) = true then some (ms, v) else none) = some (ns, bit) := h'
      split at h2
      · rename_i k
        cases h2
        exact ⟨tie, rfl, by rw [intsOf_inv e2], rfl, k⟩
      · cases h2
theorem partOf_if {va : Va} {ties : List Tie} {f : Fx} {a : PyData} {ns : List Int} {bit : Int} {tie : Tie} (h : tieAt ties a = some tie) (h0 : 0 ≤ bit) (h1 : bit < 2) (hr : rises ns = true) (hm : ∀ x ∈ ns, x ∈ tie.2) :
    partOf va ties f (.tuple [a, .tuple (ns.map .int), .int bit]) = if va tie f (fun r => decide (((ns.map (valAt tie.2 r)).sum + bit) % 2 = 0)) = true then some (ns, bit) else none := by
  show (match tieAt ties a, intsOf (ns.map .int) with
    | some tie, some cs => if 0 ≤ bit ∧ bit < 2 ∧ rises cs = true ∧ (∀ c ∈ cs, c ∈ tie.2) ∧ va tie f (fun r => decide (((cs.map (valAt tie.2 r)).sum + bit) % 2 = 0)) = true then some (cs, bit) else none
    | _, _ => none) = _
  rw [h, intsOf_mk]
  show (if 0 ≤ bit ∧ bit < 2 ∧ rises ns = true ∧ (∀ c ∈ ns, c ∈ tie.2) ∧ va tie f (fun r => decide (((ns.map (valAt tie.2 r)).sum + bit) % 2 = 0)) = true then some (ns, bit) else none) = _
  by_cases e : va tie f (fun r => decide (((ns.map (valAt tie.2 r)).sum + bit) % 2 = 0)) = true
  · rw [if_pos ⟨h0, h1, hr, hm, e⟩, if_pos e]
  · rw [if_neg (fun k => e k.2.2.2.2), if_neg e]
theorem partOf_tri {va : Va} {ties : List Tie} {f : Fx} {p : PyData} (h : areB p 3 = false) : partOf va ties f p = none := by
  cases e : partOf va ties f p with
  | none => rfl
  | some u =>
    unfold partOf at e
    split at e
    · exact absurd h (by show ¬ (decide ((3 : Int) < 0) || decide (((3 : Nat) : Int) = 3)) = false; decide)
    · cases e
/-- what is known of the cells walked so far -/
def PartG (tie : Tie) (cs : List PyData) (i : Nat) : Prop := ∀ j, j < i → ∃ z : Int, cs[j]? = some (.int z) ∧ z ∈ tie.2 ∧ ∀ k, k + 1 = j → ∃ y : Int, cs[k]? = some (.int y) ∧ y < z
theorem PartG.all {tie : Tie} {cs : List PyData} (h : PartG tie cs cs.length) : ∃ ns : List Int, cs = ns.map .int ∧ rises ns = true ∧ ∀ x ∈ ns, x ∈ tie.2 := by
  have h1 : ∀ (cs : List PyData), (∀ j, j < cs.length → ∃ z : Int, cs[j]? = some (.int z)) → ∃ ns : List Int, cs = ns.map .int := by
    intro cs
    induction cs with
    | nil => intro _; exact ⟨[], rfl⟩
    | cons d cs ih =>
      intro h
      obtain ⟨z, hz⟩ := h 0 (Nat.succ_pos _)
      obtain ⟨ns, e⟩ := ih fun j hj => by simpa using h (j + 1) (Nat.succ_lt_succ hj)
      have e1 : d = .int z := by simpa using hz
      exact ⟨z :: ns, by rw [e1, e]; rfl⟩
  obtain ⟨ns, e⟩ := h1 cs fun j hj => let ⟨z, q, _⟩ := h j hj; ⟨z, q⟩
  subst e
  have at_ : ∀ {j : Nat} {z : Int}, (ns.map PyData.int)[j]? = some (.int z) → ns[j]? = some z := fun {j z} q => by
    rw [List.getElem?_map] at q
    obtain ⟨u, e1, e2⟩ := Option.map_eq_some_iff.mp q
    cases e2
    exact e1
  refine ⟨ns, rfl, (rises_iff ns).mpr fun i y z hy hz => ?_, fun x hx => ?_⟩
  · have hl := (List.getElem?_eq_some_iff.mp hz).1
    obtain ⟨z', q1, _, q3⟩ := h (i + 1) (by rw [List.length_map]; exact hl)
    obtain ⟨y', q4, q5⟩ := q3 i rfl
    have e1 := at_ q1
    have e2 := at_ q4
    rw [hz] at e1
    rw [hy] at e2
    cases e1
    cases e2
    exact q5
  · obtain ⟨j, hj, rfl⟩ := List.getElem_of_mem hx
    obtain ⟨z, q1, q2, _⟩ := h j (by rw [List.length_map]; exact hj)
    have e1 := at_ q1
    rw [List.getElem?_eq_getElem hj] at e1
    rw [Option.some.inj e1]
    exact q2
def ringD (bk : List Rel) (ties : List Tie) (n : Nat) (f : Fx) (d d1 d2 : PyData) : Bool := match d with
  | .int c => (decide (0 ≤ c) && decide (c < (n : Int))) && (decide (f c = none) && (wayD bk ties f c 1 d1 && wayD bk ties f c 0 d2))
  | _ => false
section
variable {P : Program} {w : World} {K : PySem.W.Frag} {mg : Str → Option Value} {base : Heap}
/-! ### ring_holds -/
def spRing (K : PySem.W.Frag) : Sp := fun vs H Q _ => ∃ (pz fx : Addr) (v v1 v2 : V) (d d1 d2 : PyData) (k m n : Nat) (bk : List Rel) (ties : List Tie) (f : Fx), vs = [.ref pz, .ref fx, v, v1, v2] ∧ PuzAt K H pz bk ties n ∧ Good bk ties n ∧ FxD H fx f m ∧ m ≤ 100 ∧ Dp K H v d ∧ Dp K H v1 d1 ∧ Dp K H v2 d2 ∧ fine k d1 ∧ fine k d2 ∧
  ∀ H', Same H H' → Q (.bl (ringD bk ties n f d d1 d2)) H'
theorem ok_ring_holds (T : Txt K mg) : Ok P w K mg base 5 d_ring_holds ["puzzle", "fixed", "cell", "there", "back"] (spRing K) := by
  have G_is_number_below : Ok P w K mg base 1 d_is_number_below ["value", "bound"] (spNum K) := ok_is_number_below T
  have G_way_holds : Ok P w K mg base 4 d_way_holds ["puzzle", "fixed", "cell", "value", "steps"] (spWay K) := ok_way_holds T
  refine T.F_ring_holds.ok sc_ring_holds (fun vs H Q E h => ?_) (fun cdv A outer s H vs Q E hr h => ?_)
  · obtain ⟨pz, fx, v, v1, v2, d, d1, d2, k, m, n, bk, ties, f, rfl, _⟩ := h
    rfl
  obtain ⟨pz, fx, v, v1, v2, d, d1, d2, k, m, n, bk, ties, f, rfl, hP, hG, hF, hm, hd, hd1, hd2, hf1, hf2, q⟩ := h
  refine ⟨_, PSs.nox (
  (pss_cons (ps_if (PW.pt (pw_or (pt_not (pt_val (pe_call G_is_number_below (hr.mono (by omega)) (by rfl) T.g_is_number_below T.F_is_number_below.kp T.b_is_number_below .nil pass0 (pa_cons (pv 2) (pa_cons (pe_fldK (K := K) rfl (pv 0) (by rfl)) pa_nil))))) (pw_or1 (pt_cmp (pc_din (hu_of hr) (pv 2) (pv 1))))))
      (pss_one (ps_ret pe_bl))
      pss_nil)
    (pss_one (ps_ret (pe_and (pe_call G_way_holds (hr.mono (by omega)) (by rfl) T.g_way_holds T.F_way_holds.kp T.b_way_holds .nil pass0 (pa_cons (pv 0) (pa_cons (pv 1) (pa_cons (pv 2) (pa_cons pe_int (pa_cons (pv 3) pa_nil)))))) (pe_one (pe_call G_way_holds (hr.mono (by omega)) (by rfl) T.g_way_holds T.F_way_holds.kp T.b_way_holds .nil pass0 (pa_cons (pv 0) (pa_cons (pv 1) (pa_cons (pv 2) (pa_cons pe_int (pa_cons (pv 4) pa_nil)))))))))))
  ), ?_⟩
  have hP' := hP
  obtain ⟨dx, b, tv, hpz, hB, hT⟩ := hP
  refine ⟨_, rfl, _, rfl, pz, _, dx, _, _, rfl, hpz, T.c_Puzzle, T.n_Puzzle_cell_count, rfl, v, d, n, rfl, hd, _, rfl, ?_⟩
  cases e : numB d n with
  | false =>
    have e2 : ringD bk ties n f d d1 d2 = false := by
      cases d <;> try rfl
      rename_i c
      have e' : (decide (0 ≤ c) && decide (c < (n : Int))) = false := e
      show ((decide (0 ≤ c) && decide (c < (n : Int))) && _) = false
      rw [e']
      rfl
    have := q H (.refl H)
    rw [e2] at this
    exact iteT this
  | true =>
    obtain ⟨c, rfl, hc0, hc1⟩ := numB_int e
    have ev := dp_int hd
    subst ev
    have e3 : ringD bk ties n f (.int c) d1 d2 = (decide (f c = none) && (wayD bk ties f c 1 d1 && wayD bk ties f c 0 d2)) := by
      show ((decide (0 ≤ c) && decide (c < (n : Int))) && _) = _
      rw [decide_eq_true hc0, decide_eq_true hc1]
      rfl
    rw [e3] at q
    refine iteF ⟨_, rfl, _, rfl, fx, _, rfl, hF.get c, _, rfl, ?_⟩
    cases e4 : f c with
    | some u =>
      have := q H (.refl H)
      rw [e4] at this
      exact iteT this
    | none =>
      rw [e4] at q
      refine iteF ⟨_, rfl, _, rfl, _, rfl, _, rfl, pz, fx, c, 1, v1, d1, k, m, n, bk, ties, f, rfl, hP', hG, hF, hm, hd1, hf1, fun H1 s1 => ⟨_, rfl, ?_⟩⟩
      cases e5 : wayD bk ties f c 1 d1 with
      | false =>
        have := q _ s1
        rw [e5] at this
        exact iteF this
      | true =>
        rw [e5] at q
        refine iteT ⟨_, rfl, _, rfl, _, rfl, _, rfl, pz, fx, c, 0, v2, d2, k, m, n, bk, ties, f, rfl, hP'.im (im_same s1), hG, hF.same s1, hm, dp_same s1 hd2, hf2, fun H2 s2 => ?_⟩
        exact q _ (s1.trans s2)
end
end EC


set_option Elab.async false
set_option linter.all false
set_option maxRecDepth 100000
set_option maxHeartbeats 4000000
namespace EC
open PySem PySem.Spec PyProof.Rows L2
section
variable {P : Program} {w : World} {K : PySem.W.Frag} {mg : Str → Option Value} {base : Heap}
theorem dec_eq {a b : Int} : decide (V.int a = V.int b) = decide (a = b) := by
  rw [dec_int]
  exact Bool.beq_eq_decide_eq _ _
/-! ### is_part -/
def spPart (K : PySem.W.Frag) : Sp := fun vs H Q _ => ∃ (pz fx : Addr) (v : V) (a b c : PyData) (k m n : Nat) (bk : List Rel) (ties : List Tie) (f : Fx), vs = [.ref pz, .ref fx, v] ∧ PuzAt K H pz bk ties n ∧ Good bk ties n ∧ FxD H fx f m ∧ Dp K H v (.tuple [a, b, c]) ∧ fine k b ∧
  ∀ H', Same H H' → Q (.bl (partOf (vaOf bk) ties f (.tuple [a, b, c])).isSome) H'
theorem ok_is_part (T : Txt K mg) : Ok P w K mg base 3 d_is_part ["puzzle", "fixed", "part"] (spPart K) := by
  have G_is_number_below : Ok P w K mg base 1 d_is_number_below ["value", "bound"] (spNum K) := ok_is_number_below T
  have G_cells_of : Ok P w K mg base 2 d_cells_of ["puzzle", "t"] (spCellsOf K) := ok_cells_of T
  have G_seen_rows : Ok P w K mg base 1 d_seen_rows ["puzzle", "t", "fixed"] (spSeen K) := ok_seen_rows T
  refine T.F_is_part.ok sc_is_part (fun vs H Q E h => ?_) (fun cdv A outer s H vs Q E hr h => ?_)
  · obtain ⟨pz, fx, v, a, b, c, k, m, n, bk, ties, f, rfl, _⟩ := h
    rfl
  obtain ⟨pz, fx, v, a, b, c, k, m, n, bk, ties, f, rfl, hP, hG, hF, hd, hfb, q⟩ := h
  refine ⟨_, PSs.nox (
  (pss_cons (ps_asg (pv 2) (pg_tup rfl (pgs_cons (pg_name (i := 3) sc_is_part.nd rfl (Or.inl rfl)) (pgs_cons (pg_name (i := 4) sc_is_part.nd rfl (Or.inl rfl)) (pgs_cons (pg_name (i := 5) sc_is_part.nd rfl (Or.inr rfl)) pgs_nil)))))
    (pss_cons (ps_if (PW.pt (pw_or (pt_not (pt_val (pe_call G_is_number_below (hr.mono (by omega)) (by rfl) T.g_is_number_below T.F_is_number_below.kp T.b_is_number_below .nil pass0 (pa_cons (pv 3) (pa_cons (pe_callB call_len_seq (by rfl) T.z_len PySem.boot_len (pa_cons (pe_fldK (K := K) rfl (pv 0) (by rfl)) pa_nil)) pa_nil))))) (pw_or (pt_not (pt_val (pe_callB call_isi (by rfl) T.z_isinstance (by decide +kernel) (pa_cons (pv 4) (pa_cons (pe_bltn (v := .ty "tuple") (by rfl) T.z_tuple (by decide +kernel) rfl) pa_nil))))) (pw_or1 (pt_not (pt_val (pe_call G_is_number_below (hr.mono (by omega)) (by rfl) T.g_is_number_below T.F_is_number_below.kp T.b_is_number_below .nil pass0 (pa_cons (pv 5) (pa_cons pe_int pa_nil)))))))))
      (pss_one (ps_ret pe_bl))
      pss_nil)
    (pss_cons (ps_set (i := 6) sc_is_part.nd rfl (Or.inr rfl) (pe_call G_cells_of (hr.mono (by omega)) (by rfl) T.g_cells_of T.F_cells_of.kp T.b_cells_of .nil pass0 (pa_cons (pv 0) (pa_cons (pv 3) pa_nil))))
    (pss_cons (ps_for PassesOwn.never rfl (pi_enumT (by rfl) T.z_enumerate (pa_cons (pv 4) pa_nil)) (pg_tup rfl (pgs_cons (pg_name (i := 7) sc_is_part.nd rfl (Or.inl rfl)) (pgs_cons (pg_name (i := 8) sc_is_part.nd rfl (Or.inl rfl)) pgs_nil)))
      (pss_one (ps_if (PW.pt (pw_or (pt_not (pt_val (pe_call G_is_number_below (hr.mono (by omega)) (by rfl) T.g_is_number_below T.F_is_number_below.kp T.b_is_number_below .nil pass0 (pa_cons (pv 8) (pa_cons (pe_fldK (K := K) rfl (pv 0) (by rfl)) pa_nil))))) (pw_or (pt_cmpR op_notIn_seq (pv 8) (pv 6) (by rfl)) (pw_or1 (PW.pt (pw_and (pt_cmpR op_gt (pv 7) pe_int (nomark _)) (pw_and1 (pt_cmpR op_ge (pe_ix ix_tup (pv 4) (pe_op op_sub (pv 7) pe_int) (fun _ _ => rfl)) (pv 8) (nomark _)))))))))
        (pss_one (ps_ret pe_bl))
        pss_nil)))
    (pss_cons (ps_set (i := 9) sc_is_part.nd rfl (Or.inr rfl) (pe_lc (own := [("cell", 8)]) rfl sc_is_part.nd (pi_tup (pv 4)) (blkOk_by (own := [("cell", 8)]) (N := ["puzzle", "fixed", "part", "t", "cells", "bit", "own", "at", "cell", "places", "row", "place"]) (sc := defScope s_is_part) (by decide +kernel)) (fun _ _ _ _ _ => (pg_name (i := 8) sc_is_part.nd rfl (Or.inl rfl))) (fun _ _ _ _ _ => pts_nil) (fun _ _ _ _ _ => (pe_tix (pv 6) (pa_cons (pv 8) pa_nil)))))
    (pss_one (ps_ret (pe_callB (cr_all rfl) (by rfl) T.z_all (by decide +kernel) (pa_cons (pe_lc (own := [("row", 10)]) rfl sc_is_part.nd (pi_list (pe_call G_seen_rows (hr.mono (by omega)) (by rfl) T.g_seen_rows T.F_seen_rows.kp T.b_seen_rows .nil pass0 (pa_cons (pv 0) (pa_cons (pv 3) (pa_cons (pv 1) pa_nil))))) (blkOk_by (own := [("row", 10)]) (N := ["puzzle", "fixed", "part", "t", "cells", "bit", "own", "at", "cell", "places", "row", "place"]) (sc := defScope s_is_part) (by decide +kernel)) (fun _ _ _ _ _ => (pg_name (i := 10) sc_is_part.nd rfl (Or.inr rfl))) (fun _ _ _ _ _ => pts_nil) (fun _ _ _ _ _ => (pe_cmpR op_eq (pe_op op_mod (pe_op op_add (pe_callB (cr_sumK (K := K) rfl rfl) (by rfl) T.z_sum (by decide +kernel) (pa_cons (pe_lc (own := [("place", 11)]) rfl sc_is_part.nd (pi_listK (K := K) rfl (pv 9)) (blkOk_by (own := [("place", 11)]) (N := ["puzzle", "fixed", "part", "t", "cells", "bit", "own", "at", "cell", "places", "row", "place"]) (by rfl)) (fun _ _ _ _ _ => (pg_name (i := 11) sc_is_part.nd rfl (Or.inl rfl))) (fun _ _ _ _ _ => pts_nil) (fun _ _ _ _ _ => (pe_ix (ix_tupK (K := K) rfl) (pv 10) (pv 11) (fun _ _ => rfl)))) pa_nil)) (pv 5)) pe_int) pe_int (nomark _)))) pa_nil)))))))))
  ), ?_⟩
  have hP' := hP
  obtain ⟨dx, bb, tv, hpz, hB, hT⟩ := hP
  obtain ⟨ta, ts, rfl, ht1, ht2, ht3⟩ := hT
  obtain ⟨sa, ys, rfl, hys, hds⟩ := dp_tup hd
  cases hds with
  | cons hxa r1 =>
  cases r1 with
  | cons hxb r2 =>
  cases r2 with
  | cons hxc r3 =>
  cases r3
  rename_i x y z
  have no : (∀ ns bit, partOf (vaOf bk) ties f (.tuple [a, b, c]) ≠ some (ns, bit)) → ∀ H', Same H H' → Q (.bl false) H' := fun h H' s' => by
    have := q H' s'
    cases e : partOf (vaOf bk) ties f (.tuple [a, b, c]) with
    | none =>
      rw [e] at this
      exact this
    | some u => exact absurd e (h u.1 u.2)
  refine ⟨_, rfl, sa, _, rfl, hys, rfl, _, _, rfl, _, _, rfl, _, _, rfl, rfl, ?_⟩
  refine ⟨_, rfl, _, rfl, pz, _, dx, _, _, rfl, hpz, T.c_Puzzle, T.n_Puzzle_ties, rfl, ta, ts, rfl, .inr ht1, x, a, _, rfl, hxa, _, rfl, ?_⟩
  rw [ht2, ← tieAt_numB]
  cases e1 : tieAt ties a with
  | none =>
    refine iteT (no (fun ns bit h => ?_) H (.refl H))
    obtain ⟨tie, h1, _⟩ := partOf_inv h
    rw [e1] at h1
    cases h1
  | some tie =>
  obtain ⟨t, rfl, ht0, hti⟩ := tieAt_int e1
  have htm : tie ∈ ties := List.mem_of_getElem? hti
  have ev1 := dp_int hxa
  subst ev1
  obtain ⟨tt, htt, hkk⟩ := isi_tup hxb
  refine iteF ⟨_, rfl, _, _, tt, _, _, rfl, .ty _, htt, hkk, _, rfl, ?_⟩
  cases e2 : isTupD b with
  | false =>
    refine iteT (no (fun ns bit h => ?_) H (.refl H))
    obtain ⟨_, _, rfl, _⟩ := partOf_inv h
    cases e2
  | true =>
  obtain ⟨cs, rfl⟩ := tupD_yes e2
  obtain ⟨_, rfl, hlen, _⟩ := fine_tup hfb
  obtain ⟨ca, xs, rfl, hca, hcs⟩ := dp_tup hxb
  have hxl := dpAll_len hcs
  refine iteF ⟨_, rfl, z, c, 2, rfl, hxc, _, rfl, ?_⟩
  cases e3 : numB c 2 with
  | false =>
    refine iteT (no (fun ns bit h => ?_) H (.refl H))
    obtain ⟨_, _, _, rfl, h0, h1, _⟩ := partOf_inv h
    rw [numB_in h0 h1] at e3
    cases e3
  | true =>
  obtain ⟨bit, rfl, hb0, hb1⟩ := numB_int e3
  have ev2 := dp_int hxc
  subst ev2
  refine iteF ⟨_, rfl, _, rfl, pz, .int t, .int t, bk, ties, n, rfl, hP', .int t, fun tie' ht' cc hcc => ?_, fun ht' => ?_⟩
  · have ett : tie = tie' := Option.some.inj (e1.symm.trans ht')
    subst ett
    refine ⟨_, rfl, ca, xs, rfl, hca, for_it (walk_enumT (xs := xs)) (fun i σ H' => ∃ o7 o8 : Option V, σ = [some (.ref pz), some (.ref fx), some (.ref sa), some (.int t), some (.ref ca), some (.int bit), some (.ref cc), o7, o8, none, none, none] ∧ Same H H' ∧ PartG tie cs i)
      ⟨_, _, rfl, .refl H, fun j hj => absurd hj (Nat.not_lt_zero _)⟩ (fun i σ H' _ h => by obtain ⟨_, _, _, e, _⟩ := h; exact sqT_same e hca) ?_ ?_⟩
    · rintro i w0 σ H1 H2 hi ⟨o7, o8, rfl, s1, hpg⟩ ⟨T1, x1, x2, rfl, hT1, rfl, ex1, ex2⟩
      cases ex1
      change xs[i]? = some x2 at ex2
      obtain ⟨d, hd1, hd2⟩ := dpAll_at hcs ex2
      have s2 : Same H (upd H1 T1 (.tup [.int (i : Nat), x2])) := same_nw _ s1 hT1
      refine ⟨T1, _, rfl, .inl (.inl upd_same), rfl, _, _, rfl, _, _, rfl, rfl, ?_⟩
      generalize upd H1 T1 (.tup [.int (i : Nat), x2]) = H2 at s2 ⊢
      have hd3 := dp_same s2 hd2
      refine ⟨_, rfl, _, rfl, pz, _, dx, _, _, rfl, s2 _ _ hpz, T.c_Puzzle, T.n_Puzzle_cell_count, rfl, x2, d, n, rfl, hd3, _, rfl, ?_⟩
      cases e4 : numB d n with
      | false =>
        refine iteT (no (fun ns bit' h => ?_) _ s2)
        obtain ⟨tie', h1, h2, _, _, _, _, h3, _⟩ := partOf_inv h
        have ett : tie = tie' := Option.some.inj (e1.symm.trans h1)
        subst ett
        cases h2
        rw [List.getElem?_map] at hd1
        obtain ⟨u, hu, rfl⟩ := Option.map_eq_some_iff.mp hd1
        have g := (hG.tie tie htm).cells u (h3 u (List.mem_of_getElem? hu))
        rw [numB_in g.1 g.2] at e4
        cases e4
      | true =>
      obtain ⟨u, rfl, hu0, hu1⟩ := numB_int e4
      have ev3 := dp_int hd3
      subst ev3
      refine iteF ⟨_, rfl, _, rfl, cc, _, rfl, .inr (sqT_same s2 hcc.sq), rfl, flat_ints _, _, rfl, ?_⟩
      have e6 : (if true = true then !inV (.int u) (tie.2.map V.int) else inV (.int u) (tie.2.map V.int)) = !decide (u ∈ tie.2) := by
        rw [if_pos rfl, inV_int]
      rw [e6]
      by_cases hm : u ∈ tie.2
      · rw [decide_eq_true hm]
        refine iteF ⟨_, rfl, _, _, rfl, rfl, _, rfl, ?_⟩
        by_cases hi0 : i = 0
        · subst hi0
          refine ifF (decide_eq_false (by omega)) ?_
          refine ⟨_, _, rfl, s2, fun j hj => ?_⟩
          have ej : j = 0 := by omega
          subst ej
          exact ⟨u, hd1, hm, fun k hk => by omega⟩
        · refine ifT (decide_eq_true (by omega)) ?_
          obtain ⟨y', hy1, hy2, _⟩ := hpg (i - 1) (by omega)
          have hxy : xs[i - 1]? = some (V.int y') := by
            obtain ⟨xx, q1, q2⟩ := dpAll_get hcs hy1
            rw [q1, dp_int q2]
          have hat : atI xs ((i : Int) - 1) = some (V.int y') := by
            have := atI_nat hxy
            rwa [show ((i - 1 : Nat) : Int) = (i : Int) - 1 by omega] at this
          refine ⟨_, rfl, _, rfl, _, _, rfl, rfl, ca, xs, _, _, rfl, rfl, sqT_same s2 hca, hat, _, rfl, _, _, rfl, rfl, _, rfl, ?_⟩
          by_cases hlt : u ≤ y'
          · refine ifT (decide_eq_true hlt) ?_
            refine no (fun ns bit' h => ?_) _ s2
            obtain ⟨tie', h1, h2, _, _, _, h4, h3, _⟩ := partOf_inv h
            cases h2
            rw [List.getElem?_map] at hd1 hy1
            obtain ⟨u', hu', e7⟩ := Option.map_eq_some_iff.mp hd1
            obtain ⟨y'', hy'', e8⟩ := Option.map_eq_some_iff.mp hy1
            cases e7
            cases e8
            have := (rises_iff ns).mp h4 (i - 1) y' u hy'' (by rw [Nat.sub_add_cancel (by omega)]; exact hu')
            omega
          · refine ifF (decide_eq_false hlt) ?_
            refine ⟨_, _, rfl, s2, fun j hj => ?_⟩
            by_cases ej : j < i
            · exact hpg j ej
            · have ej : j = i := by omega
              subst ej
              refine ⟨u, hd1, hm, fun k hk => ⟨y', ?_, by omega⟩⟩
              rw [show k = j - 1 by omega]
              exact hy1
      · rw [decide_eq_false hm]
        refine iteT (no (fun ns bit' h => ?_) _ s2)
        obtain ⟨tie', h1, h2, _, _, _, _, h3, _⟩ := partOf_inv h
        have ett : tie = tie' := Option.some.inj (e1.symm.trans h1)
        subst ett
        cases h2
        rw [List.getElem?_map] at hd1
        obtain ⟨u', hu', e7⟩ := Option.map_eq_some_iff.mp hd1
        cases e7
        exact hm (h3 u (List.mem_of_getElem? hu'))
    · rintro σ H1 ⟨o7, o8, rfl, s1, hpg⟩
      rw [hxl] at hpg
      obtain ⟨ns, rfl, hri, hmem⟩ := hpg.all
      have hxe := dpAll_ints hcs
      subst hxe
      rw [partOf_if e1 hb0 hb1 hri hmem] at q
      rw [List.length_map] at hlen
      have hca1 := sqT_same s1 hca
      refine ⟨_, rfl, ca, rfl, ⟨_, hca1⟩, fun D hD => lc_tup (xs := ns.map V.int) (fun j H' => Same H1 H' ∧ H' D = some (.lst (((ns.take j).map fun c => ((tie.2.idxOf c : Nat) : Int)).map V.int)))
        ⟨same_new _ hD, upd_same⟩ (fun j H' _ h => sqT_same h.1 hca1) ?_ ?_⟩
      · rintro j x H2 hj ⟨s2, hD2⟩
        rw [List.getElem?_map] at hj
        obtain ⟨u, hu, rfl⟩ := Option.map_eq_some_iff.mp hj
        have hm := hmem u (List.mem_of_getElem? hu)
        have hcc2 : FrT H2 cc (tie.2.map V.int) := hcc.same (s1.trans s2)
        refine ⟨rfl, _, rfl, cc, _, rfl, hcc2, _, rfl, .int u, tie.2.idxOf u, .int u, rfl, hcc2, rfl, flat_ints _, tix_at hm, by rw [eqV_int]; exact decide_eq_true rfl, tix_no, ?_⟩
        refine ⟨_, hD2, small1000 (by rw [List.length_map, List.length_map, List.length_take]; omega), same_mut _ s2 hD, ?_⟩
        rw [upd_same, List.take_succ, hu]
        simp
      rintro H2 ⟨s2, hD2⟩
      rw [List.length_map, List.take_length] at hD2
      have sm2 := s1.trans s2
      refine ⟨_, rfl, _, rfl, _, rfl, pz, fx, t, bk, ties, n, _, tie, f, rfl, hP'.im (im_same sm2), hG, ht0, hti, hF.same sm2, fun H3 L rs s3 hL hLx hrows => ?_⟩
      have sm3 := sm2.trans s3
      have hD3 := s3 _ _ hD2
      have h16 := views_len (f := f) hG htm
      have hrl := hrows.1
      refine ⟨L, rfl, ⟨_, .inl (.inl hLx)⟩, fun D2 hDn => lc_list (xs := rs) (fun j H' => Same H3 H' ∧ H' D2 = some (.lst ((((views bk tie f).take j).map fun r => decide (((ns.map (valAt tie.2 r)).sum + bit) % 2 = 0)).map V.bl)))
        ⟨same_new _ hDn, upd_same⟩ (fun j H' _ h => .inl (.inl (h.1 _ _ hLx))) ?_ ?_⟩
      · rintro j x H4 hj ⟨s4, hD4⟩
        have hjl := (List.getElem?_eq_some_iff.mp hj).1
        have hjv : j < (views bk tie f).length := by omega
        have hvj := List.getElem?_eq_getElem hjv
        have hvm := List.getElem_mem hjv
        obtain ⟨rb, hb1, hb2⟩ := hrows.2 j _ hvj
        rw [hj] at hb1
        cases hb1
        generalize (views bk tie f)[j] = r at hvj hvm hb2
        have hrlen := view_len hG htm hvm
        have hDp := s4 _ _ hD3
        refine ⟨rfl, _, rfl, D, rfl, ⟨_, .inl (.inl hDp)⟩, fun D3 hD3n => lc_list (xs := (ns.map fun c => ((tie.2.idxOf c : Nat) : Int)).map V.int) (fun l H' => Same H4 H' ∧ H' D3 = some (.lst (((ns.take l).map (valAt tie.2 r)).map V.int)))
          ⟨same_new _ hD3n, upd_same⟩ (fun l H' _ h => .inl (.inl (h.1 _ _ hDp))) ?_ ?_⟩
        · rintro l x H5 hl ⟨s5, hD5⟩
          rw [List.map_map, List.getElem?_map] at hl
          obtain ⟨u, hu, rfl⟩ := Option.map_eq_some_iff.mp hl
          have hm := hmem u (List.mem_of_getElem? hu)
          refine ⟨rfl, _, rfl, _, rfl, rb, _, _, _, rfl, rfl, sqT_same (s4.trans s5) hb2, at_val hm hrlen, ?_⟩
          refine ⟨_, hD5, small1000 (by rw [List.length_map, List.length_map, List.length_take]; omega), same_mut _ s5 hD3n, ?_⟩
          rw [upd_same, List.take_succ, hu]
          simp
        · rintro H5 ⟨s5, hD5⟩
          rw [List.length_map, List.length_map, List.take_length] at hD5
          refine ⟨D3, _, rfl, .inl (.inl hD5), _, rfl, _, _, rfl, rfl, _, _, rfl, rfl, (by show (0 : Int) < 2; decide), rfl, ?_⟩
          refine ⟨_, s5 _ _ hD4, small1000 (by rw [List.length_map, List.length_map, List.length_take]; omega), same_mut _ (s4.trans s5) hDn, ?_⟩
          rw [upd_same, List.take_succ, hvj, dec_eq]
          simp
      · rintro H4 ⟨s4, hD4⟩
        rw [List.take_of_length_le (by omega)] at hD4
        refine ⟨D2, _, rfl, .inl (.inl hD4), ?_⟩
        have e8 : ((views bk tie f).map fun r => decide (((ns.map (valAt tie.2 r)).sum + bit) % 2 = 0)).all id = vaOf bk tie f (fun r => decide (((ns.map (valAt tie.2 r)).sum + bit) % 2 = 0)) := by
          rw [List.all_map]
          rfl
        rw [e8]
        have := q _ (sm3.trans s4)
        cases e9 : vaOf bk tie f (fun r => decide (((ns.map (valAt tie.2 r)).sum + bit) % 2 = 0)) with
        | true =>
          rw [e9] at this
          exact this
        | false =>
          rw [e9] at this
          exact this
  · rw [e1] at ht'
    cases ht'
end
end EC


set_option Elab.async false
set_option linter.all false
set_option maxRecDepth 100000
set_option maxHeartbeats 4000000
namespace EC
open PySem PySem.Spec PyProof.Rows L2
theorem small1e6 {n : Nat} (h : n ≤ 1000000) : n < sizeLine := Nat.lt_of_le_of_lt h (by decide)
def sumD (bk : List Rel) (ties : List Tie) (f : Fx) : PyData → Bool
  | .tuple ps => !ps.isEmpty && sumOk (vaOf bk) ties f ps [] 0
  | _ => false
theorem sumOk_tri {va : Va} {ties : List Tie} {f : Fx} : ∀ {ps : List PyData} {seen : List Int} {odd : Int}, (ps.all fun e => areB e 3) = false → sumOk va ties f ps seen odd = false
  | [], _, _, h => by cases h
  | p :: ps, seen, odd, h => by
    unfold sumOk
    cases e : partOf va ties f p with
    | none => rfl
    | some u =>
      have h1 : areB p 3 = true := by
        cases q : areB p 3 with
        | true => rfl
        | false =>
          rw [partOf_tri q] at e
          cases e
      rw [List.all_cons, h1, Bool.true_and] at h
      exact sumOk_tri h
theorem sumD_tri {bk : List Rel} {ties : List Tie} {f : Fx} {d : PyData} (h : triB d = false) : sumD bk ties f d = false := by
  cases d with
  | tuple ss =>
    show (!ss.isEmpty && sumOk (vaOf bk) ties f ss [] 0) = false
    rw [sumOk_tri (show (ss.all fun e => areB e 3) = false from h), Bool.and_false]
  | _ => rfl
/-! ### the dict of parities -/
def cntF (seen : List Int) : Fx := fun c => if c ∈ seen then some ((seen.count c % 2 : Nat) : Int) else none
theorem cntF_snoc (seen : List Int) (c : Int) : cntF (seen ++ [c]) = put (cntF seen) c (1 - (cntF seen c).getD 0) := by
  funext d
  unfold cntF
  by_cases e : d = c
  · subst e
    rw [put_same, if_pos (List.mem_append_right _ (List.mem_singleton.mpr rfl)), List.count_append, List.count_singleton_self]
    by_cases h : d ∈ seen
    · rw [if_pos h]
      show some _ = some (1 - ((seen.count d % 2 : Nat) : Int))
      congr 1
      omega
    · rw [if_neg h, List.count_eq_zero_of_not_mem h]
      rfl
  · rw [put_ne _ _ e]
    have h1 : (seen ++ [c]).count d = seen.count d := by
      rw [List.count_append, List.count_singleton, if_neg (by simpa using fun z => e z.symm)]
      rfl
    rw [h1]
    by_cases h : d ∈ seen
    · rw [if_pos h, if_pos (List.mem_append_left _ h)]
    · rw [if_neg h, if_neg (fun k => (List.mem_append.mp k).elim h fun z => e (List.mem_singleton.mp z))]
def LeftD (H : Hp) (a : Addr) (seen : List Int) : Prop := ∃ kvs : List (Key × V), H a = some (.dK kvs) ∧ kvs.length ≤ seen.length ∧ (∀ c : Int, valV kvs (Sum.inl c) = (cntF seen c).map V.int) ∧ ∀ p ∈ kvs, ∃ c : Int, p.1 = Sum.inl c
theorem mem_putK {kvs : List (Key × V)} {k : Key} {v : V} {p : Key × V} (h : p ∈ putK kvs k v) : p = (k, v) ∨ p ∈ kvs := by
  unfold putK at h
  split at h
  · obtain ⟨q, h1, h2⟩ := List.mem_map.mp h
    split at h2
    · rename_i e
      left
      rw [← h2, e]
    · right
      rw [← h2]
      exact h1
  · rcases List.mem_append.mp h with z | z
    · exact .inr z
    · exact .inl (List.mem_singleton.mp z)
theorem left_any {kvs : List (Key × V)} {seen : List Int} (h1 : ∀ c : Int, valV kvs (Sum.inl c) = (cntF seen c).map V.int) (h2 : ∀ p ∈ kvs, ∃ c : Int, p.1 = Sum.inl c) :
    ((kvs.map fun p => decide (valV kvs p.1 = some (V.int 1))).any id) = !(seen.all fun c => decide (seen.count c % 2 = 0)) := by
  rw [List.any_map]
  cases e : seen.all (fun c => decide (seen.count c % 2 = 0)) with
  | true =>
    refine Bool.eq_false_iff.mpr fun k => ?_
    obtain ⟨p, hp, hq⟩ := List.any_eq_true.mp k
    obtain ⟨c, hc⟩ := h2 p hp
    have hq' : valV kvs p.1 = some (V.int 1) := of_decide_eq_true hq
    rw [hc, h1 c] at hq'
    unfold cntF at hq'
    split at hq'
    · rename_i hm
      have := of_decide_eq_true (List.all_eq_true.mp e c hm)
      rw [this] at hq'
      cases hq'
    · cases hq'
  | false =>
    obtain ⟨c, hm, hc⟩ := List.all_eq_false.mp e
    have hc' : seen.count c % 2 = 1 := by
      have : ¬ seen.count c % 2 = 0 := fun z => hc (decide_eq_true z)
      omega
    have hv : valV kvs (Sum.inl c) = some (V.int 1) := by
      rw [h1 c]
      unfold cntF
      rw [if_pos hm, hc']
      rfl
    have hs : (valV kvs (Sum.inl c)).isSome = true := by
      rw [hv]
      rfl
    rw [← valV_any, List.any_eq_true] at hs
    obtain ⟨p, hp, hk⟩ := hs
    refine List.any_eq_true.mpr ⟨p, hp, decide_eq_true ?_⟩
    rw [of_decide_eq_true hk]
    exact hv
theorem part_len {ns : List Int} {ds : List PyData} (h : ds = ns.map PyData.int) (hl : ds.length ≤ 100) : ns.length ≤ 100 := by
  rw [h, List.length_map] at hl
  exact hl
section
variable {P : Program} {w : World} {K : PySem.W.Frag} {mg : Str → Option Value} {base : Heap}
/-! ### sum_holds -/
def spSum (K : PySem.W.Frag) : Sp := fun vs H Q _ => ∃ (pz fx : Addr) (v : V) (d : PyData) (k m n : Nat) (bk : List Rel) (ties : List Tie) (f : Fx), vs = [.ref pz, .ref fx, v] ∧ PuzAt K H pz bk ties n ∧ Good bk ties n ∧ FxD H fx f m ∧ Dp K H v d ∧ fine k d ∧
  ∀ H', Same H H' → Q (.bl (sumD bk ties f d)) H'
theorem ok_sum_holds (T : Txt K mg) : Ok P w K mg base 4 d_sum_holds ["puzzle", "fixed", "parts"] (spSum K) := by
  have G_are_triples : Ok P w K mg base 1 d_are_triples ["value"] (spTri K) := ok_are_triples T
  have G_is_part : Ok P w K mg base 3 d_is_part ["puzzle", "fixed", "part"] (spPart K) := ok_is_part T
  refine T.F_sum_holds.ok sc_sum_holds (fun vs H Q E h => ?_) (fun cdv A outer s H vs Q E hr h => ?_)
  · obtain ⟨pz, fx, v, d, k, m, n, bk, ties, f, rfl, _⟩ := h
    rfl
  obtain ⟨pz, fx, v, d, k, m, n, bk, ties, f, rfl, hP, hG, hF, hd, hf, q⟩ := h
  refine ⟨_, PSs.nox (
  (pss_cons (ps_if (PW.pt (pw_or (pt_not (pt_val (pe_call G_are_triples (hr.mono (by omega)) (by rfl) T.g_are_triples T.F_are_triples.kp T.b_are_triples .nil pass0 (pa_cons (pv 2) pa_nil)))) (pw_or1 (pt_cmpR op_eq (pe_callB call_len_seq (by rfl) T.z_len PySem.boot_len (pa_cons (pv 2) pa_nil)) pe_int (nomark _)))))
      (pss_one (ps_ret pe_bl))
      pss_nil)
    (pss_cons (ps_set (i := 3) sc_sum_holds.nd rfl (Or.inr rfl) pe_dnewK)
    (pss_cons (ps_set (i := 4) sc_sum_holds.nd rfl (Or.inl rfl) pe_int)
    (pss_cons (ps_for PassesOwn.never rfl (pi_tup (pv 2)) (pg_name (i := 5) sc_sum_holds.nd rfl (Or.inl rfl))
      (pss_cons (ps_if (pt_not (pt_val (pe_call G_is_part (hr.mono (by omega)) (by rfl) T.g_is_part T.F_is_part.kp T.b_is_part .nil pass0 (pa_cons (pv 0) (pa_cons (pv 1) (pa_cons (pv 5) pa_nil))))))
        (pss_one (ps_ret pe_bl))
        pss_nil)
      (pss_cons (ps_set (i := 4) sc_sum_holds.nd rfl (Or.inl rfl) (pe_op op_add (pv 4) (pe_ix ix_tup (pv 5) pe_int (fun _ _ => rfl))))
      (pss_one (ps_for PassesOwn.never rfl (pi_tup (pe_ix ix_tup (pv 5) pe_int (fun _ _ => rfl))) (pg_name (i := 6) sc_sum_holds.nd rfl (Or.inl rfl))
        (pss_one (ps_dput (hu_of hr) (pv 3) (pv 6) (pe_op op_sub pe_int (pe_dget2 (hu_of hr) (pv 3) (pv 6) pe_int ⟨rfl, rfl, rfl, rfl⟩)) rfl)))))))
    (pss_one (ps_ret (pe_and (pe_cmpR op_eq (pe_op op_mod (pv 4) pe_int) pe_int (nomark _)) (pe_one (pe_not (pe_callB (cr_any rfl) (by rfl) T.z_any (by decide +kernel) (pa_cons (pe_lock (pe_lc (own := [("cell", 6)]) rfl sc_sum_holds.nd (pi_keys (pv 3)) (blkOk_by (own := [("cell", 6)]) (N := ["puzzle", "fixed", "parts", "left", "bits", "part", "cell"]) (sc := defScope s_sum_holds) (by decide +kernel)) (fun _ _ _ _ _ => (pg_name (i := 6) sc_sum_holds.nd rfl (Or.inl rfl))) (fun _ _ _ _ _ => pts_nil) (fun _ _ _ _ _ => (pe_cmpR op_eq (pe_dget (hu_of hr) (pv 3) (pv 6) (fun _ _ => rfl)) pe_int (nomark _))))) pa_nil)))))))))))
  ), ?_⟩
  refine ⟨_, rfl, v, d, k, rfl, hd, hf, fun H1 s1 => ⟨_, rfl, ?_⟩⟩
  cases e3 : triB d with
  | false =>
    have := q _ s1
    rw [sumD_tri e3] at this
    exact iteT this
  | true =>
    refine iteF ?_
    have e4 : isTupD d = true := by
      cases d <;> first | rfl | cases e3
    obtain ⟨ss, rfl⟩ := tupD_yes e4
    have htri : ∀ s ∈ ss, areB s 3 = true := List.all_eq_true.mp (show (ss.all fun e => areB e 3) = true from e3)
    obtain ⟨_, rfl, hlen, hff⟩ := fine_tup hf
    obtain ⟨a, xs, rfl, hs, hds⟩ := dp_tup hd
    have hxl := dpAll_len hds
    refine ⟨_, rfl, a, xs, rfl, .inr (sqT_same s1 hs), rfl, _, rfl, ?_⟩
    cases ess : ss with
    | nil =>
      subst ess
      have e5 : xs.length = 0 := hxl
      rw [e5]
      exact iteT (q _ s1)
    | cons s0 st0 =>
    have hwd : sumD bk ties f (.tuple ss) = sumOk (vaOf bk) ties f ss [] 0 := by
      rw [ess]
      rfl
    rw [hwd] at q
    have hx0 : xs.length ≠ 0 := by
      rw [hxl, ess]
      exact Nat.succ_ne_zero _
    refine ifF (decide_eq_false fun z => hx0 (by have := V.int.inj z; omega)) ?_
    refine fun Lf hLf => ?_
    have s2 : Same H (upd H1 Lf (.dK [])) := same_nw _ s1 hLf
    have hL0 : H Lf = none := same_free s1 hLf
    have hLd : LeftD (upd H1 Lf (.dK [])) Lf [] := ⟨[], upd_same, Nat.le_refl _, fun c => rfl, fun p h => (nomatch h)⟩
    generalize upd H1 Lf (.dK []) = H2 at s2 hLd ⊢
    refine ⟨_, rfl, a, rfl, ⟨_, sqT_same s2 hs⟩, for_tup (xs := xs) (fun i σ H' => ∃ (o5 : Option V) (o6 : Option V) (seen : List Int) (odd : Int), σ = [some (.ref pz), some (.ref fx), some (.ref a), some (.ref Lf), some (.int odd), o5, o6] ∧ Same H H' ∧ LeftD H' Lf seen ∧ seen.length ≤ 100 * i ∧ sumOk (vaOf bk) ties f ss [] 0 = sumOk (vaOf bk) ties f (ss.drop i) seen odd)
      ⟨_, _, [], 0, rfl, s2, hLd, Nat.zero_le _, rfl⟩ (fun i σ H' _ h => by obtain ⟨_, _, _, _, _, e, _⟩ := h; exact sqT_same e hs) ?_ ?_⟩
    · rintro i x σ H3 hi ⟨o5, o6, seen, odd, rfl, s3, hL3, hsl, hrec⟩
      have hlt := (List.getElem?_eq_some_iff.mp hi).1
      obtain ⟨st, hst, hdx⟩ := dpAll_at hds hi
      obtain ⟨da, db, dc, rfl⟩ := areB3 (htri st (List.mem_of_getElem? hst))
      have hdrop : ss.drop i = .tuple [da, db, dc] :: ss.drop (i + 1) := by
        have hl := (List.getElem?_eq_some_iff.mp hst)
        rw [List.drop_eq_getElem_cons hl.1, hl.2]
      rw [hdrop] at hrec
      have hfst := hff _ (List.mem_of_getElem? hst)
      obtain ⟨k', rfl, _, hf3⟩ := fine_tup hfst
      have hdx3 := dp_same s3 hdx
      refine ⟨_, rfl, _, rfl, _, rfl, pz, fx, x, da, db, dc, k', m, n, bk, ties, f, rfl, hP.im (im_same s3), hG, hF.same s3, hdx3, hf3 db (by simp), fun H4 s4 => ⟨_, rfl, ?_⟩⟩
      have sm4 := s3.trans s4
      cases e5 : partOf (vaOf bk) ties f (.tuple [da, db, dc]) with
      | none =>
        have := q _ sm4
        rw [hrec] at this
        unfold sumOk at this
        rw [e5] at this
        exact iteT this
      | some u =>
        obtain ⟨ns, bit⟩ := u
        have hrec2 : sumOk (vaOf bk) ties f ss [] 0 = sumOk (vaOf bk) ties f (ss.drop (i + 1)) (seen ++ ns) (odd + bit) := by
          rw [hrec]
          conv => lhs; unfold sumOk
          rw [e5]
        obtain ⟨tie, _, rfl, rfl, hb0, hb1, _, _, _⟩ := partOf_inv e5
        obtain ⟨sa, ys, rfl, hys, hds3⟩ := dp_tup (dp_same s4 hdx3)
        cases hds3 with
        | cons hxa r1 =>
        cases r1 with
        | cons hxb r2 =>
        cases r2 with
        | cons hxc r3 =>
        cases r3
        have ev3 := dp_int hxc
        subst ev3
        obtain ⟨ca, rfl, hca⟩ := eI_inv (ns := ns) hxb
        have hnl : ns.length ≤ 100 := by
          obtain ⟨_, _, h100, _⟩ := fine_tup (hf3 (.tuple (ns.map .int)) (by simp))
          rw [List.length_map] at h100
          exact h100
        refine iteF ⟨_, rfl, _, rfl, sa, _, 2, _, rfl, rfl, hys, rfl, _, _, rfl, rfl, ?_⟩
        refine ⟨_, rfl, sa, _, 1, _, rfl, rfl, hys, rfl, ca, rfl, ⟨_, hca⟩, for_tup (xs := ns.map V.int) (fun j σ H' => ∃ o6 : Option V, σ = [some (.ref pz), some (.ref fx), some (.ref a), some (.ref Lf), some (.int (odd + bit)), some (.ref sa), o6] ∧ Same H H' ∧ SqT K H' ca (ns.map V.int) ∧ LeftD H' Lf (seen ++ ns.take j))
          ⟨_, rfl, sm4, hca, by rw [List.take_zero, List.append_nil]; obtain ⟨kvs, h1, h2⟩ := hL3; exact ⟨kvs, s4 _ _ h1, h2⟩⟩ (fun j σ H' _ h => by obtain ⟨_, _, _, e, _⟩ := h; exact e) ?_ ?_⟩
        · rintro j x σ H5 hj ⟨o6, rfl, s5, hca5, kvs, hk, hkl, hkv, hkk⟩
          rw [List.getElem?_map] at hj
          obtain ⟨u, hu, rfl⟩ := Option.map_eq_some_iff.mp hj
          have hul := (List.getElem?_eq_some_iff.mp hu).1
          have tk : seen ++ ns.take (j + 1) = (seen ++ ns.take j) ++ [u] := by
            rw [List.take_succ, hu, List.append_assoc]
            rfl
          have hg : DGet H5 Lf (.int u) ((cntF (seen ++ ns.take j) u).map V.int) := by
            rw [← hkv u]
            exact DGet.k (k := Sum.inl u) hk
          have hval : (((cntF (seen ++ ns.take j) u).map V.int).getD (.int 0)) = .int ((cntF (seen ++ ns.take j) u).getD 0) := by
            cases cntF (seen ++ ns.take j) u <;> rfl
          have hklt : kvs.length < sizeLine := by
            refine small1e6 ?_
            rw [List.length_append, List.length_take] at hkl
            omega
          refine ⟨_, rfl, Lf, rfl, .inl ⟨_, .inl hk⟩, _, rfl, _, hg, _, _, rfl, hval, _, rfl, _, rfl, Lf, _, rfl, DPut.k (k := Sum.inl u) hk hklt, ?_⟩
          refine ⟨_, rfl, same_mut _ s5 hL0, ?_, _, upd_same, ?_, fun c => ?_, fun p hp => ?_⟩
          · exact sqT_im (im_mut _ hk rfl) hca5
          · have := length_putK kvs (Sum.inl u) (.int (1 - (cntF (seen ++ ns.take j) u).getD 0))
            rw [tk, List.length_append]
            exact Nat.le_trans this (Nat.succ_le_succ hkl)
          · rw [tk, cntF_snoc]
            exact look_put hkv u _ c
          · rcases mem_putK hp with z | z
            · exact ⟨u, by rw [z]⟩
            · exact hkk p z
        · rintro σ H5 ⟨o6, rfl, s5, hca5, hL5⟩
          rw [List.length_map, List.take_length] at hL5
          refine ⟨_, _, _, _, rfl, s5, hL5, ?_, hrec2⟩
          rw [List.length_append]
          omega
    · rintro σ H3 ⟨o5, o6, seen, odd, rfl, s3, ⟨kvs, hk, hkl, hkv, hkk⟩, hsl, hrec⟩
      rw [List.drop_eq_nil_of_le (by omega)] at hrec
      have hr2 : sumOk (vaOf bk) ties f ss [] 0 = (decide (odd % 2 = 1) && seen.all fun c => decide (seen.count c % 2 = 0)) := by
        rw [hrec]
        rfl
      rw [hr2] at q
      refine ⟨_, rfl, _, _, rfl, rfl, (by show (0 : Int) < 2; decide), rfl, _, rfl, ?_⟩
      rw [dec_eq]
      cases e7 : decide (odd % 2 = 1) with
      | false =>
        rw [e7] at q
        exact iteF (q _ s3)
      | true =>
        rw [e7] at q
        refine iteT ⟨Lf, .dK kvs, hk, trivial, fun od => ?_⟩
        have sL : Same H (upd H3 Lf (.frz od (.dK kvs))) := same_mut _ s3 hL0
        have hkL : upd H3 Lf (.frz od (.dK kvs)) Lf = some (.frz od (.dK kvs)) := upd_same
        generalize upd H3 Lf (.frz od (.dK kvs)) = HL at sL hkL ⊢
        refine ⟨_, rfl, Lf, od, rfl, .inl ⟨kvs, hkL, fun D hD => lc_it walk_keys (fun j H' => Same HL H' ∧ H' D = some (.lst (((kvs.take j).map fun p => decide (valV kvs p.1 = some (V.int 1))).map V.bl)))
          ⟨same_new _ hD, upd_same⟩ (fun j H' _ h => h.1 _ _ hkL) ?_ ?_⟩⟩
        · rintro j x H4 H5 hj ⟨s4, hD4⟩ ⟨rfl, kk, vv, hkj, rfl⟩
          obtain ⟨c, hc⟩ := hkk _ (List.mem_of_getElem? hkj)
          have hc' : kk = Sum.inl c := hc
          subst hc'
          have hsome : ∃ u : Int, valV kvs (Sum.inl c) = some (.int u) := by
            have hs : (valV kvs (Sum.inl c)).isSome = true := by
              rw [← valV_any, List.any_eq_true]
              exact ⟨_, List.mem_of_getElem? hkj, decide_eq_true rfl⟩
            rw [hkv c] at hs ⊢
            cases q2 : cntF seen c with
            | none =>
              rw [q2] at hs
              cases hs
            | some u => exact ⟨u, rfl⟩
          obtain ⟨u, hu⟩ := hsome
          have hg : DGet H5 Lf (.int c) (some (.int u)) := by
            rw [← hu]
            exact .inl ⟨kvs, Sum.inl c, .inr ⟨od, s4 _ _ hkL⟩, rfl, rfl⟩
          refine ⟨rfl, _, rfl, _, rfl, Lf, _, rfl, hg, rfl, _, hD4, ?_, same_mut _ s4 hD, ?_⟩
          · refine small1e6 ?_
            rw [List.length_map, List.length_map, List.length_take]
            omega
          · rw [upd_same, List.take_succ, hkj]
            have e8 : decide (valV kvs (Sum.inl c) = some (V.int 1)) = decide (V.int u = V.int 1) := by
              rw [hu]
              simp
            simp [e8]
        · rintro H4 ⟨s4, hD4⟩
          rw [List.take_length] at hD4
          have hDne : D ≠ Lf := by
            rintro rfl
            rw [hkL] at hD
            cases hD
          refine ⟨s4 _ _ hkL, D, _, rfl, .inl (.inl (by rw [upd_ne hDne]; exact hD4)), _, rfl, ?_⟩
          rw [left_any hkv hkk, Bool.not_not]
          exact q _ (same_mut _ (sL.trans s4) hL0)
end
end EC


set_option Elab.async false
set_option linter.all false
set_option maxRecDepth 100000
set_option maxHeartbeats 4000000
namespace EC
open PySem PySem.Spec PyProof.Rows L2
/-! ### leaves and splits, plain -/
def isS (d : PyData) (s : Str) : Bool := match d with
  | .str x => decide (x = s)
  | _ => false
theorem eqv_str (d : PyData) (s : Str) : PyData.eqv d (.str s) = isS d s := by
  cases d with
  | str x =>
    simp only [PyData.eqv, isS]
    exact Bool.beq_eq_decide_eq _ _
  | _ => simp [PyData.eqv, isS]
theorem isS_yes {d : PyData} {s : Str} (h : isS d s = true) : d = .str s := by
  cases d with
  | str x => rw [of_decide_eq_true (show decide (x = s) = true from h)]
  | _ => cases h
def leafD (bk : List Rel) (ties : List Tie) (n : Nat) (f : Fx) : List PyData → Bool
  | [d0, d, e] => isS d0 "chain" && chainD bk ties f d e
  | [d0, d, a, b] => isS d0 "ring" && ringD bk ties n f d a b
  | [d0, d] => isS d0 "sum" && sumD bk ties f d
  | _ => false
def freeB (n : Nat) (f : Fx) (d : PyData) : Bool := match d with
  | .int c => (decide (0 ≤ c) && decide (c < (n : Int))) && decide (f c = none)
  | _ => false
def splitD (n : Nat) (f : Fx) : List PyData → Bool
  | [d0, d, _, _] => isS d0 "split" && freeB n f d
  | _ => false
theorem judge_tup {bk : List Rel} {ties : List Tie} {n : Nat} {f : Fx} {ds : List PyData} (h : splitD n f ds = false) : judge (vaOf bk) ties n (.tuple ds) f = leafD bk ties n f ds := by
  match ds with
  | [] => simp [judge, leafD]
  | [d0] => cases d0 <;> simp [judge, leafD]
  | [d0, d] =>
    cases d0 <;> try (simp [judge, leafD, isS]; done)
    cases d <;> simp [judge, leafD, isS, sumD]
  | [d0, d, e] =>
    cases d0 <;> try (simp [judge, leafD, isS]; done)
    cases d <;> simp [judge, leafD, isS, chainD]
  | [d0, d, a, b] =>
    cases d0 <;> try (simp [judge, leafD, isS]; done)
    cases d <;> try (simp [judge, leafD, isS, ringD]; done)
    rename_i k c
    have h1 : (decide (k = ("split" : Str)) && ((decide (0 ≤ c) && decide (c < (n : Int))) && decide (f c = none))) = false := h
    show ((decide (0 ≤ c) && decide (c < (n : Int))) && (decide (f c = none) &&
      if k = ("ring" : Str) then ringOk (vaOf bk) ties f c a b else if k = ("split" : Str) then judge (vaOf bk) ties n a (put f c 0) && judge (vaOf bk) ties n b (put f c 1) else false)) = (decide (k = ("ring" : Str)) && ringD bk ties n f (.int c) a b)
    by_cases hk : k = ("ring" : Str)
    · rw [if_pos hk, decide_eq_true hk, Bool.true_and]
      show _ = ((decide (0 ≤ c) && decide (c < (n : Int))) && (decide (f c = none) && (wayD bk ties f c 1 a && wayD bk ties f c 0 b)))
      congr 1
      congr 1
      cases a <;> try rfl
      rename_i sa
      cases b <;> try (show false = (wayD bk ties f c 1 (.tuple sa) && false); rw [Bool.and_false]; done)
      rfl
    · rw [if_neg hk, decide_eq_false hk, Bool.false_and]
      by_cases hk2 : k = ("split" : Str)
      · rw [decide_eq_true hk2, Bool.true_and] at h1
        rw [← Bool.and_assoc, h1, Bool.false_and]
      · rw [if_neg hk2, Bool.and_false, Bool.and_false]
  | d0 :: d1 :: d2 :: d3 :: d4 :: r => cases d0 <;> simp [judge, leafD]
theorem judge_spl {bk : List Rel} {ties : List Tie} {n : Nat} {f : Fx} {ds : List PyData} (h : splitD n f ds = true) : ∃ c a b, ds = [.str "split", .int c, a, b] ∧ 0 ≤ c ∧ c < (n : Int) ∧ f c = none ∧
    judge (vaOf bk) ties n (.tuple ds) f = (judge (vaOf bk) ties n a (put f c 0) && judge (vaOf bk) ties n b (put f c 1)) := by
  match ds, h with
  | [d0, d, a, b], h =>
    have h' : (isS d0 "split" && freeB n f d) = true := h
    rw [Bool.and_eq_true] at h'
    have e0 := isS_yes h'.1
    cases d with
    | int c =>
      have h2 : ((decide (0 ≤ c) && decide (c < (n : Int))) && decide (f c = none)) = true := h'.2
      simp only [Bool.and_eq_true, decide_eq_true_eq] at h2
      exact ⟨c, a, b, by rw [e0], h2.1.1, h2.1.2, h2.2, by rw [e0]; exact judge_split h2.1.1 h2.1.2 h2.2⟩
    | _ => cases h'.2
theorem judge_non {bk : List Rel} {ties : List Tie} {n : Nat} {f : Fx} {d : PyData} (h : isTupD d = false) : judge (vaOf bk) ties n d f = false := by
  cases d <;> first | (simp [judge]; done) | cases h
section
variable {P : Program} {w : World} {K : PySem.W.Frag} {mg : Str → Option Value} {base : Heap}
theorem dec_ne {a b : Int} : (!decide (V.int a = V.int b)) = !decide (a = b) := by
  rw [dec_eq]
/-! ### leaf_holds -/
def spLeaf (K : PySem.W.Frag) : Sp := fun vs H Q _ => ∃ (pz fx : Addr) (v : V) (ds : List PyData) (k m n : Nat) (bk : List Rel) (ties : List Tie) (f : Fx), vs = [.ref pz, .ref fx, v] ∧ PuzAt K H pz bk ties n ∧ Good bk ties n ∧ FxD H fx f m ∧ m ≤ 100 ∧ Dp K H v (.tuple ds) ∧ fine k (.tuple ds) ∧ k ≤ 60 ∧
  ∀ H', Same H H' → Q (.bl (leafD bk ties n f ds)) H'
theorem shaped_str : SeqAt.shaped (.str "chain") = true ∧ SeqAt.shaped (.str "ring") = true ∧ SeqAt.shaped (.str "sum") = true ∧ SeqAt.shaped (.str "split") = true := by decide +kernel
theorem ok_leaf_holds (T : Txt K mg) : Ok P w K mg base 6 d_leaf_holds ["puzzle", "fixed", "paper"] (spLeaf K) := by
  have G_chain_holds : Ok P w K mg base 4 d_chain_holds ["puzzle", "fixed", "steps", "t"] (spChain K) := ok_chain_holds T
  have G_ring_holds : Ok P w K mg base 5 d_ring_holds ["puzzle", "fixed", "cell", "there", "back"] (spRing K) := ok_ring_holds T
  have G_sum_holds : Ok P w K mg base 4 d_sum_holds ["puzzle", "fixed", "parts"] (spSum K) := ok_sum_holds T
  refine T.F_leaf_holds.ok sc_leaf_holds (fun vs H Q E h => ?_) (fun cdv A outer s H vs Q E hr h => ?_)
  · obtain ⟨pz, fx, v, ds, k, m, n, bk, ties, f, rfl, _⟩ := h
    rfl
  obtain ⟨pz, fx, v, ds, k, m, n, bk, ties, f, rfl, hP, hG, hF, hm, hd, hf, hk, q⟩ := h
  refine ⟨_, PSs.nox (
  (pss_cons (ps_if (PW.pt (pw_and (pt_cmpR op_eq (pe_callB call_len_seq (by rfl) T.z_len PySem.boot_len (pa_cons (pv 2) pa_nil)) pe_int (nomark _)) (pw_and1 (pt_cmpR (op_eqD hr.units) (pe_ix ix_tup (pv 2) pe_int (fun _ _ => rfl)) pe_str (nomark _)))))
      (pss_one (ps_ret (pe_call G_chain_holds (hr.mono (by omega)) (by rfl) T.g_chain_holds T.F_chain_holds.kp T.b_chain_holds .nil pass0 (pa_cons (pv 0) (pa_cons (pv 1) (pa_cons (pe_ix ix_tup (pv 2) pe_int (fun _ _ => rfl)) (pa_cons (pe_ix ix_tup (pv 2) pe_int (fun _ _ => rfl)) pa_nil)))))))
      pss_nil)
    (pss_cons (ps_if (PW.pt (pw_and (pt_cmpR op_eq (pe_callB call_len_seq (by rfl) T.z_len PySem.boot_len (pa_cons (pv 2) pa_nil)) pe_int (nomark _)) (pw_and1 (pt_cmpR (op_eqD hr.units) (pe_ix ix_tup (pv 2) pe_int (fun _ _ => rfl)) pe_str (nomark _)))))
      (pss_one (ps_ret (pe_call G_ring_holds (hr.mono (by omega)) (by rfl) T.g_ring_holds T.F_ring_holds.kp T.b_ring_holds .nil pass0 (pa_cons (pv 0) (pa_cons (pv 1) (pa_cons (pe_ix ix_tup (pv 2) pe_int (fun _ _ => rfl)) (pa_cons (pe_ix ix_tup (pv 2) pe_int (fun _ _ => rfl)) (pa_cons (pe_ix ix_tup (pv 2) pe_int (fun _ _ => rfl)) pa_nil))))))))
      pss_nil)
    (pss_one (ps_ret (pe_and (pe_cmpR op_eq (pe_callB call_len_seq (by rfl) T.z_len PySem.boot_len (pa_cons (pv 2) pa_nil)) pe_int (nomark _)) (pe_and (pe_cmpR (op_eqD hr.units) (pe_ix ix_tup (pv 2) pe_int (fun _ _ => rfl)) pe_str (nomark _)) (pe_one (pe_call G_sum_holds (hr.mono (by omega)) (by rfl) T.g_sum_holds T.F_sum_holds.kp T.b_sum_holds .nil pass0 (pa_cons (pv 0) (pa_cons (pv 1) (pa_cons (pe_ix ix_tup (pv 2) pe_int (fun _ _ => rfl)) pa_nil)))))))))))
  ), ?_⟩
  obtain ⟨k, rfl, hlen, hff⟩ := fine_tup hf
  obtain ⟨sa, xs, rfl, hs, hds⟩ := dp_tup hd
  have hxl := dpAll_len hds
  obtain ⟨c1, c2, c3, c4⟩ := shaped_str
  refine ⟨_, rfl, sa, xs, rfl, .inr hs, rfl, _, rfl, ?_⟩
  rw [dec_eq, hxl]
  by_cases h3 : ds.length = 3
  · refine ifT (decide_eq_true (by omega)) ?_
    match ds, h3, hds with
    | [d0, d, e], _, hds =>
    cases hds with
    | cons h0 r1 =>
    cases r1 with
    | cons h1 r2 =>
    cases r2 with
    | cons h2 r3 =>
    cases r3
    refine ⟨_, rfl, sa, _, 0, _, rfl, rfl, hs, rfl, d0, .str "chain", h0, .str _, fine_shaped (hff d0 (by simp)) (by omega), c1, _, rfl, ?_⟩
    rw [eqv_str]
    have hl : leafD bk ties n f [d0, d, e] = (isS d0 "chain" && chainD bk ties f d e) := rfl
    rw [hl] at q
    cases e1 : isS d0 "chain" with
    | true =>
      rw [e1] at q
      exact iteT ⟨_, rfl, _, rfl, _, rfl, sa, _, 1, _, rfl, rfl, hs, rfl, _, rfl, sa, _, 2, _, rfl, rfl, hs, rfl, pz, fx, _, _, d, e, k, m, n, bk, ties, f, rfl, hP, hG, hF, hm, h1, hff d (by simp), h2, q⟩
    | false =>
      rw [e1] at q
      refine iteF ⟨_, rfl, sa, _, rfl, .inr hs, rfl, _, rfl, iteF ?_⟩
      exact ⟨_, rfl, sa, _, rfl, .inr hs, rfl, _, rfl, iteF (q H (.refl H))⟩
  refine ifF (decide_eq_false (by omega)) ⟨_, rfl, sa, xs, rfl, .inr hs, rfl, _, rfl, ?_⟩
  rw [dec_eq, hxl]
  by_cases h4 : ds.length = 4
  · refine ifT (decide_eq_true (by omega)) ?_
    match ds, h4, hds with
    | [d0, d, a, b], _, hds =>
    cases hds with
    | cons h0 r1 =>
    cases r1 with
    | cons h1 r2 =>
    cases r2 with
    | cons h2 r3 =>
    cases r3 with
    | cons h3' r4 =>
    cases r4
    refine ⟨_, rfl, sa, _, 0, _, rfl, rfl, hs, rfl, d0, .str "ring", h0, .str _, fine_shaped (hff d0 (by simp)) (by omega), c2, _, rfl, ?_⟩
    rw [eqv_str]
    have hl : leafD bk ties n f [d0, d, a, b] = (isS d0 "ring" && ringD bk ties n f d a b) := rfl
    rw [hl] at q
    cases e1 : isS d0 "ring" with
    | true =>
      rw [e1] at q
      exact iteT ⟨_, rfl, _, rfl, _, rfl, sa, _, 1, _, rfl, rfl, hs, rfl, _, rfl, sa, _, 2, _, rfl, rfl, hs, rfl, _, rfl, sa, _, 3, _, rfl, rfl, hs, rfl, pz, fx, _, _, _, d, a, b, k, m, n, bk, ties, f, rfl, hP, hG, hF, hm, h1, h2, h3', hff a (by simp), hff b (by simp), q⟩
    | false =>
      rw [e1] at q
      exact iteF ⟨_, rfl, sa, _, rfl, .inr hs, rfl, _, rfl, iteF (q H (.refl H))⟩
  refine ifF (decide_eq_false (by omega)) ⟨_, rfl, sa, xs, rfl, .inr hs, rfl, _, rfl, ?_⟩
  rw [dec_eq, hxl]
  by_cases h2 : ds.length = 2
  · refine ifT (decide_eq_true (by omega)) ?_
    match ds, h2, hds with
    | [d0, d], _, hds =>
    cases hds with
    | cons h0 r1 =>
    cases r1 with
    | cons h1 r2 =>
    cases r2
    refine ⟨_, rfl, sa, _, 0, _, rfl, rfl, hs, rfl, d0, .str "sum", h0, .str _, fine_shaped (hff d0 (by simp)) (by omega), c3, _, rfl, ?_⟩
    rw [eqv_str]
    have hl : leafD bk ties n f [d0, d] = (isS d0 "sum" && sumD bk ties f d) := rfl
    rw [hl] at q
    cases e1 : isS d0 "sum" with
    | true =>
      rw [e1] at q
      exact iteT ⟨_, rfl, _, rfl, _, rfl, sa, _, 1, _, rfl, rfl, hs, rfl, pz, fx, _, d, k, m, n, bk, ties, f, rfl, hP, hG, hF, h1, hff d (by simp), q⟩
    | false =>
      rw [e1] at q
      exact iteF (q H (.refl H))
  have e9 : leafD bk ties n f ds = false := by
    match ds, h2, h3, h4 with
    | [], _, _, _ => rfl
    | [_], _, _, _ => rfl
    | [_, _], h, _, _ => exact absurd rfl h
    | [_, _, _], _, h, _ => exact absurd rfl h
    | [_, _, _, _], _, _, h => exact absurd rfl h
    | _ :: _ :: _ :: _ :: _ :: _, _, _, _ => rfl
  have := q H (.refl H)
  rw [e9] at this
  exact ifF (decide_eq_false (by omega)) this
/-! ### is_split, with_cell -/
def spSplit (K : PySem.W.Frag) : Sp := fun vs H Q _ => ∃ (pz fx : Addr) (v : V) (ds : List PyData) (k m n : Nat) (bk : List Rel) (ties : List Tie) (f : Fx), vs = [.ref pz, .ref fx, v] ∧ PuzAt K H pz bk ties n ∧ FxD H fx f m ∧ Dp K H v (.tuple ds) ∧ fine k (.tuple ds) ∧ k ≤ 60 ∧
  Q (.bl (splitD n f ds)) H
theorem ok_is_split (T : Txt K mg) : Ok P w K mg base 2 d_is_split ["puzzle", "fixed", "paper"] (spSplit K) := by
  have G_is_number_below : Ok P w K mg base 1 d_is_number_below ["value", "bound"] (spNum K) := ok_is_number_below T
  refine T.F_is_split.ok sc_is_split (fun vs H Q E h => ?_) (fun cdv A outer s H vs Q E hr h => ?_)
  · obtain ⟨pz, fx, v, ds, k, m, n, bk, ties, f, rfl, _⟩ := h
    rfl
  obtain ⟨pz, fx, v, ds, k, m, n, bk, ties, f, rfl, hP, hF, hd, hf, hk, q⟩ := h
  refine ⟨_, PSs.nox (
  (pss_cons (ps_if (PW.pt (pw_or (pt_cmpR op_ne (pe_callB call_len_seq (by rfl) T.z_len PySem.boot_len (pa_cons (pv 2) pa_nil)) pe_int (nomark _)) (pw_or1 (pt_cmpR (op_neD hr.units) (pe_ix ix_tup (pv 2) pe_int (fun _ _ => rfl)) pe_str (nomark _)))))
      (pss_one (ps_ret pe_bl))
      pss_nil)
    (pss_one (ps_ret (pe_and (pe_call G_is_number_below (hr.mono (by omega)) (by rfl) T.g_is_number_below T.F_is_number_below.kp T.b_is_number_below .nil pass0 (pa_cons (pe_ix ix_tup (pv 2) pe_int (fun _ _ => rfl)) (pa_cons (pe_fldK (K := K) rfl (pv 0) (by rfl)) pa_nil))) (pe_one (pe_cmp (pc_dnotin (hu_of hr) (pe_ix ix_tup (pv 2) pe_int (fun _ _ => rfl)) (pv 1))))))))
  ), ?_⟩
  obtain ⟨k, rfl, hlen, hff⟩ := fine_tup hf
  obtain ⟨sa, xs, rfl, hs, hds⟩ := dp_tup hd
  have hxl := dpAll_len hds
  obtain ⟨c1, c2, c3, c4⟩ := shaped_str
  obtain ⟨dx, bb, tv, hpz, hB, hT⟩ := hP
  refine ⟨_, rfl, sa, xs, rfl, .inr hs, rfl, _, rfl, ?_⟩
  rw [dec_ne, hxl]
  by_cases h4 : ds.length = 4
  · refine ifNT (decide_eq_true (by omega)) ?_
    match ds, h4, hds with
    | [d0, d, a, b], _, hds =>
    cases hds with
    | cons h0 r1 =>
    cases r1 with
    | cons h1 r2 =>
    cases r2 with
    | cons h2 r3 =>
    cases r3 with
    | cons h3' r4 =>
    cases r4
    refine ⟨_, rfl, sa, _, 0, _, rfl, rfl, hs, rfl, d0, .str "split", h0, .str _, fine_shaped (hff d0 (by simp)) (by omega), c4, _, rfl, ?_⟩
    rw [eqv_str]
    have hl : splitD n f [d0, d, a, b] = (isS d0 "split" && freeB n f d) := rfl
    rw [hl] at q
    cases e1 : isS d0 "split" with
    | false =>
      rw [e1] at q
      exact iteT q
    | true =>
      rw [e1] at q
      refine iteF ⟨_, rfl, sa, _, 1, _, rfl, rfl, hs, rfl, _, rfl, pz, _, dx, _, _, rfl, hpz, T.c_Puzzle, T.n_Puzzle_cell_count, rfl, _, d, n, rfl, h1, _, rfl, ?_⟩
      cases e2 : numB d n with
      | false =>
        have e3 : freeB n f d = false := by
          cases d with
          | int c =>
            show ((decide (0 ≤ c) && decide (c < (n : Int))) && _) = false
            rw [show (decide (0 ≤ c) && decide (c < (n : Int))) = false from e2]
            rfl
          | _ => rfl
        rw [e3] at q
        exact iteF q
      | true =>
        obtain ⟨c, rfl, hc0, hc1⟩ := numB_int e2
        have ev := dp_int h1
        subst ev
        have e3 : freeB n f (.int c) = decide (f c = none) := by
          show ((decide (0 ≤ c) && decide (c < (n : Int))) && _) = _
          rw [decide_eq_true hc0, decide_eq_true hc1]
          rfl
        rw [e3] at q
        refine iteT ⟨_, rfl, sa, _, 1, _, rfl, rfl, hs, rfl, _, rfl, fx, _, rfl, hF.get c, ?_⟩
        cases e4 : f c with
        | none =>
          rw [e4] at q
          exact q
        | some u =>
          rw [e4] at q
          exact q
  · have e9 : splitD n f ds = false := by
      match ds, h4 with
      | [], _ => rfl
      | [_], _ => rfl
      | [_, _], _ => rfl
      | [_, _, _], _ => rfl
      | [_, _, _, _], h => exact absurd rfl h
      | _ :: _ :: _ :: _ :: _ :: _, _ => rfl
    rw [e9] at q
    exact ifNF (decide_eq_false (by omega)) q
def spWith (K : PySem.W.Frag) : Sp := fun vs H Q _ => ∃ (fx : Addr) (c v : Int) (f : Fx) (m : Nat), vs = [.ref fx, .int c, .int v] ∧ FxD H fx f m ∧ m ≤ 100 ∧ ∀ H' F, Same H H' → H F = none → FxD H' F (put f c v) (m + 1) → Q (.ref F) H'
theorem ok_with_cell (T : Txt K mg) : Ok P w K mg base 1 d_with_cell ["fixed", "cell", "value"] (spWith K) := by
  refine T.F_with_cell.ok sc_with_cell (fun vs H Q E h => ?_) (fun cdv A outer s H vs Q E hr h => ?_)
  · obtain ⟨fx, c, v, f, m, rfl, _⟩ := h
    rfl
  obtain ⟨fx, c, v, f, m, rfl, hF, hm, q⟩ := h
  refine ⟨_, PSs.nox (
  (pss_cons (ps_set (i := 3) sc_with_cell.nd rfl (Or.inl rfl) (pe_callTy call_dictD (by rfl) T.z_dict (by decide +kernel) (pa_cons (pv 0) pa_nil)))
    (pss_cons (ps_dput (hu_of hr) (pv 3) (pv 1) (pv 2) rfl)
    (pss_one (ps_ret (pv 3)))))
  ), ?_⟩
  obtain ⟨kvs, hk, hkl, hkv⟩ := hF
  refine ⟨_, rfl, fx, kvs, rfl, .inl hk, fun F hFn => ?_⟩
  have hFx : FxD (upd H F (.dK kvs)) F f m := ⟨kvs, upd_same, hkl, hkv⟩
  obtain ⟨H7, hput, hg7, o, rfl⟩ := hFx.put (by omega) c v
  refine ⟨_, rfl, _, rfl, _, rfl, F, _, rfl, hput, ?_⟩
  exact ⟨_, rfl, q _ F (same_mut _ (same_new _ hFn) hFn) hFn hg7⟩
end
end EC


set_option Elab.async false
set_option linter.all false
set_option maxRecDepth 100000
set_option maxHeartbeats 4000000
namespace EC
open PySem PySem.Spec PyProof.Rows L2
/-! ### the stack -/
def freeN (n : Nat) (f : Fx) : Nat := ((List.range n).filter fun i : Nat => decide (f (i : Int) = none)).length
theorem freeN_le (n : Nat) (f : Fx) : freeN n f ≤ n := by
  have := List.length_filter_le (fun i : Nat => decide (f (i : Int) = none)) (List.range n)
  rw [List.length_range] at this
  exact this
theorem freeN_put {n : Nat} {f : Fx} {c v : Int} (h0 : 0 ≤ c) (h1 : c < (n : Int)) (hf : f c = none) : freeN n (put f c v) + 1 = freeN n f := by
  have key : ∀ (m : Nat), ((List.range m).filter fun i : Nat => decide (put f c v (i : Int) = none)).length + (if c < (m : Int) then 1 else 0) = ((List.range m).filter fun i : Nat => decide (f (i : Int) = none)).length := by
    intro m
    induction m with
    | zero =>
      rw [if_neg (by omega)]
      rfl
    | succ m ih =>
      rw [List.range_succ, List.filter_append, List.filter_append, List.length_append, List.length_append]
      by_cases e : (m : Int) = c
      · have e1 : ([m].filter fun i : Nat => decide (put f c v (i : Int) = none)).length = 0 := by
          simp [e, put_same]
        have e2 : ([m].filter fun i : Nat => decide (f (i : Int) = none)).length = 1 := by
          simp [e, hf]
        rw [e1, e2, ← ih, if_neg (show ¬ c < (m : Int) by omega), if_pos (show c < ((m + 1 : Nat) : Int) by omega)]
      · have e1 : ([m].filter fun i : Nat => decide (put f c v (i : Int) = none)).length = ([m].filter fun i : Nat => decide (f (i : Int) = none)).length := by
          simp only [List.filter_cons, List.filter_nil, put_ne f v e]
        rw [e1, ← ih]
        by_cases hc : c < (m : Int)
        · rw [if_pos hc, if_pos (show c < ((m + 1 : Nat) : Int) by omega)]
          omega
        · rw [if_neg hc, if_neg (show ¬ c < ((m + 1 : Nat) : Int) by omega)]
          omega
  have := key n
  rw [if_pos h1] at this
  exact this
/-- how long the stack may be -/
def wt (n : Nat) : List (PyData × Fx) → Nat
  | [] => 0
  | p :: l => 2 ^ freeN n p.2 + wt n l
theorem wt_len (n : Nat) : ∀ l : List (PyData × Fx), l.length ≤ wt n l
  | [] => Nat.le_refl _
  | p :: l => by
    have h1 := wt_len n l
    have h2 : 0 < 2 ^ freeN n p.2 := Nat.pow_pos (by decide)
    show l.length + 1 ≤ 2 ^ freeN n p.2 + wt n l
    omega
noncomputable def msr : List (PyData × Fx) → Nat
  | [] => 0
  | p :: l => sizeOf p.1 + msr l
def StkAt (K : PySem.W.Frag) (H0 H : Hp) (n : Nat) (x : V) (p : PyData × Fx) : Prop := ∃ (t F : Addr) (v : V) (m k : Nat), x = .ref t ∧ SqT K H t [.ref F, v] ∧ FxD H F p.2 m ∧ m + freeN n p.2 ≤ 20 ∧ Dp K H0 v p.1 ∧ fine k p.1 ∧ k ≤ 60
theorem StkAt.sx {K : PySem.W.Frag} {H0 H H' : Hp} {n : Nat} {x : V} {p : PyData × Fx} {W : Addr} {l : List V} (e : SX W H H') (hW : H W = some (.lst l)) (h : StkAt K H0 H n x p) : StkAt K H0 H' n x p := by
  obtain ⟨t, F, v, m, k, h1, h2, ⟨kvs, h3, h4⟩, h5⟩ := h
  refine ⟨t, F, v, m, k, h1, sqT_im (e.im hW) h2, ⟨kvs, e F _ ?_ h3, h4⟩, h5⟩
  rintro rfl
  rw [hW] at h3
  cases h3
theorem stk_push {K : PySem.W.Frag} {H0 H H3 : Hp} {W T1 F1 : Addr} {v : V} {d : PyData} {g : Fx} {m k n : Nat} {l l' : List V} (s3 : Same H H3) (hW : H W = some (.lst l)) (hT1 : H3 T1 = none) (hF : FxD H3 F1 g m) (hm : m + freeN n g ≤ 20) (hd : Dp K H0 v d) (hf : fine k d) (hk : k ≤ 60) :
    SX W H (upd (upd H3 T1 (.tup [.ref F1, v])) W (.lst l')) ∧ StkAt K H0 (upd (upd H3 T1 (.tup [.ref F1, v])) W (.lst l')) n (.ref T1) (d, g) := by
  have h3 := s3 _ _ hW
  have hTW : T1 ≠ W := by
    rintro rfl
    rw [h3] at hT1
    cases hT1
  refine ⟨sx_at _ (sx_same (same_nw _ s3 hT1)), T1, F1, v, m, k, rfl, .inl (.inl ?_), ?_, hm, hd, hf, hk⟩
  · rw [upd_ne hTW]
    exact upd_same
  · obtain ⟨kvs, h4, h5⟩ := hF
    refine ⟨kvs, ?_, h5⟩
    rw [upd_ne, upd_ne]
    · exact h4
    · rintro rfl
      rw [hT1] at h4
      cases h4
    · rintro rfl
      rw [h3] at h4
      cases h4
def judAll (bk : List Rel) (ties : List Tie) (n : Nat) (l : List (PyData × Fx)) : Bool := l.all fun p => judge (vaOf bk) ties n p.1 p.2
section
variable {P : Program} {w : World} {K : PySem.W.Frag} {mg : Str → Option Value} {base : Heap}
/-! ### none_holds -/
def spNone (K : PySem.W.Frag) : Sp := fun vs H Q _ => ∃ (pz a : Addr) (v : V) (d : PyData) (k n : Nat) (bk : List Rel) (ties : List Tie) (st : List (Int × Int)), vs = [.ref pz, .ref a, v] ∧ PuzAt K H pz bk ties n ∧ Good bk ties n ∧ StAt K H a st ∧ StartG n st ∧ Dp K H v d ∧ fine k d ∧ k ≤ 60 ∧
  ∀ H', Same H H' → Q (.bl (judge (vaOf bk) ties n d (lookS st))) H'
theorem ok_none_holds (T : Txt K mg) : Ok P w K mg base 7 d_none_holds ["puzzle", "start", "paper"] (spNone K) := by
  have G_is_start : Ok P w K mg base 2 d_is_start ["puzzle", "value"] (spStart K) := ok_is_start T
  have G_is_split : Ok P w K mg base 2 d_is_split ["puzzle", "fixed", "paper"] (spSplit K) := ok_is_split T
  have G_with_cell : Ok P w K mg base 1 d_with_cell ["fixed", "cell", "value"] (spWith K) := ok_with_cell T
  have G_leaf_holds : Ok P w K mg base 6 d_leaf_holds ["puzzle", "fixed", "paper"] (spLeaf K) := ok_leaf_holds T
  refine T.F_none_holds.ok sc_none_holds (fun vs H Q E h => ?_) (fun cdv A outer s H vs Q E hr h => ?_)
  · obtain ⟨pz, a, v, d, k, n, bk, ties, st, rfl, _⟩ := h
    rfl
  obtain ⟨pz, a, v, d, k, n, bk, ties, st, rfl, hP, hG, hS, S, hd, hf, hk, q⟩ := h
  refine ⟨_, PSs.nox (
  (pss_cons (ps_if (pt_not (pt_val (pe_call G_is_start (hr.mono (by omega)) (by rfl) T.g_is_start T.F_is_start.kp T.b_is_start .nil pass0 (pa_cons (pv 0) (pa_cons (pv 1) pa_nil)))))
      (pss_one ps_never)
      pss_nil)
    (pss_cons (ps_set (i := 3) sc_none_holds.nd rfl (Or.inl rfl) (pe_lst (pa_cons (pe_tup (pa_cons (pe_callTy (call_dictT rfl) (by rfl) T.z_dict (by decide +kernel) (pa_cons (pv 1) pa_nil)) (pa_cons (pv 2) pa_nil))) pa_nil)))
    (pss_cons (ps_while PassesOwn.never (pt_cmpR op_gt (pe_callB call_len_seq (by rfl) T.z_len PySem.boot_len (pa_cons (pv 3) pa_nil)) pe_int (nomark _))
      (pss_cons (ps_asg (pe_bm0 PySem.F.plainAttrs_list PySem.F.slot_list_pop PySem.F.type_list_pop mt_pop (pv 3)) (pg_tup rfl (pgs_cons (pg_name (i := 4) sc_none_holds.nd rfl (Or.inl rfl)) (pgs_cons (pg_name (i := 5) sc_none_holds.nd rfl (Or.inl rfl)) pgs_nil))))
      (pss_cons (ps_if (pt_not (pt_val (pe_callB call_isi (by rfl) T.z_isinstance (by decide +kernel) (pa_cons (pv 5) (pa_cons (pe_bltn (v := .ty "tuple") (by rfl) T.z_tuple (by decide +kernel) rfl) pa_nil)))))
        (pss_one (ps_ret pe_bl))
        pss_nil)
      (pss_one (ps_if (pt_val (pe_call G_is_split (hr.mono (by omega)) (by rfl) T.g_is_split T.F_is_split.kp T.b_is_split .nil pass0 (pa_cons (pv 0) (pa_cons (pv 4) (pa_cons (pv 5) pa_nil)))))
        (pss_cons (ps_expr (pe_bm PySem.F.plainAttrs_list PySem.F.slot_list_append PySem.F.type_list_append mt_append (pv 3) (pa_cons (pe_tup (pa_cons (pe_call G_with_cell (hr.mono (by omega)) (by rfl) T.g_with_cell T.F_with_cell.kp T.b_with_cell .nil pass0 (pa_cons (pv 4) (pa_cons (pe_ix ix_tup (pv 5) pe_int (fun _ _ => rfl)) (pa_cons pe_int pa_nil)))) (pa_cons (pe_ix ix_tup (pv 5) pe_int (fun _ _ => rfl)) pa_nil))) pa_nil)))
        (pss_one (ps_expr (pe_bm PySem.F.plainAttrs_list PySem.F.slot_list_append PySem.F.type_list_append mt_append (pv 3) (pa_cons (pe_tup (pa_cons (pe_call G_with_cell (hr.mono (by omega)) (by rfl) T.g_with_cell T.F_with_cell.kp T.b_with_cell .nil pass0 (pa_cons (pv 4) (pa_cons (pe_ix ix_tup (pv 5) pe_int (fun _ _ => rfl)) (pa_cons pe_int pa_nil)))) (pa_cons (pe_ix ix_tup (pv 5) pe_int (fun _ _ => rfl)) pa_nil))) pa_nil)))))
        (pss_one (ps_if (pt_not (pt_val (pe_call G_leaf_holds (hr.mono (by omega)) (by rfl) T.g_leaf_holds T.F_leaf_holds.kp T.b_leaf_holds .nil pass0 (pa_cons (pv 0) (pa_cons (pv 4) (pa_cons (pv 5) pa_nil))))))
          (pss_one (ps_ret pe_bl))
          pss_nil)))))))
    (pss_one (ps_ret pe_bl)))))
  ), ?_⟩
  refine ⟨_, rfl, _, rfl, pz, a, bk, ties, n, st, rfl, hP, hS, S, _, rfl, iteF ?_⟩
  obtain ⟨ps, hps1, hps2⟩ := hS.pairs
  have hn5 := hG.n5
  have hsl := start_len S
  refine ⟨_, rfl, a, ps, _, rfl, hps1, hps2, fun F0 hF0 => ?_⟩
  have hFx0 := fxD_start (H := H) (D := F0) (st := st)
  have sA : Same H (upd H F0 (.dK (mergeK [] (st.map fun p => ((Sum.inl p.1 : Key), V.int p.2))))) := same_new _ hF0
  generalize upd H F0 (.dK (mergeK [] (st.map fun p => ((Sum.inl p.1 : Key), V.int p.2)))) = HA at hFx0 sA ⊢
  refine ⟨_, rfl, (by show 2 ≤ sizeLine; decide), fun T0 hT0 => ?_⟩
  have sB : Same HA (upd HA T0 (.tup [.ref F0, v])) := same_new _ hT0
  have hT0' : upd HA T0 (.tup [.ref F0, v]) T0 = some (.tup [.ref F0, v]) := upd_same
  generalize upd HA T0 (.tup [.ref F0, v]) = HB at sB hT0' ⊢
  refine ⟨(by show 1 ≤ sizeLine; decide), fun W hW => ?_⟩
  have sC : Same HB (upd HB W (.lst [.ref T0])) := same_new _ hW
  have hWl : upd HB W (.lst [.ref T0]) W = some (.lst [.ref T0]) := upd_same
  generalize upd HB W (.lst [.ref T0]) = HC at sC hWl ⊢
  have hW0 : H W = none := same_free (sA.trans sB) hW
  have hst0 : StkAt K H HC n (.ref T0) (d, lookS st) := ⟨T0, F0, v, st.length, k, rfl, .inl (.inl (sC _ _ hT0')), (hFx0.same sB).same sC, by have := freeN_le n (lookS st); show st.length + freeN n (lookS st) ≤ 20; omega, hd, hf, hk⟩
  have hwt0 : wt n [(d, lookS st)] ≤ 32 := by
    have h1 : 2 ^ freeN n (lookS st) ≤ 2 ^ 5 := Nat.pow_le_pow_right (by decide) (Nat.le_trans (freeN_le n _) hn5)
    show 2 ^ freeN n (lookS st) + 0 ≤ 32
    omega
  refine ⟨fun mm σ H' => ∃ (o4 o5 : Option V) (its : List V) (stk : List (PyData × Fx)), mm = msr stk ∧ σ = [some (.ref pz), some (.ref a), some v, some (.ref W), o4, o5] ∧ Same H H' ∧ H' W = some (.lst its.reverse) ∧ Paired (StkAt K H H' n) its stk ∧ wt n stk ≤ 32 ∧ judge (vaOf bk) ties n d (lookS st) = judAll bk ties n stk,
    ⟨_, _, _, [.ref T0], [(d, lookS st)], rfl, rfl, (sA.trans sB).trans sC, hWl, .cons hst0 .nil, hwt0, by unfold judAll; simp⟩, ?_⟩
  rintro mm σ H1 ⟨o4, o5, its, stk, rfl, rfl, s1, hW1, hpr, hwt, hj⟩
  have hil := hpr.length
  have hwl := wt_len n stk
  refine ⟨_, rfl, W, _, rfl, .inl (.inl (.inl hW1)), _, _, rfl, rfl, _, rfl, ?_⟩
  rw [List.length_reverse]
  cases hpr with
  | nil =>
    refine ifF (decide_eq_false (by show ¬ (0 : Int) < 0; omega)) ?_
    have := q _ s1
    rw [hj] at this
    exact this
  | @cons x p its stk hx hr0 =>
  refine ifT (decide_eq_true (by show (0 : Int) < ((its.length + 1 : Nat) : Int); omega)) ?_
  obtain ⟨d1, f1⟩ := p
  obtain ⟨t, F, v1, m, k1, rfl, ht, hF, hmf, hd1, hf1, hk1⟩ := hx
  refine ⟨fun σ' H' => ∃ m', m' < msr ((d1, f1) :: stk) ∧ ∃ (o4 o5 : Option V) (its : List V) (stk : List (PyData × Fx)), m' = msr stk ∧ σ' = [some (.ref pz), some (.ref a), some v, some (.ref W), o4, o5] ∧ Same H H' ∧ H' W = some (.lst its.reverse) ∧ Paired (StkAt K H H' n) its stk ∧ wt n stk ≤ 32 ∧ judge (vaOf bk) ties n d (lookS st) = judAll bk ties n stk,
    fun σ' H' h => h, ?_⟩
  have hrev : ((V.ref t) :: its).reverse = its.reverse ++ [V.ref t] := List.reverse_cons
  have hdl : (its.reverse ++ [V.ref t]).dropLast = its.reverse := List.dropLast_concat
  have hlast : ((V.ref t) :: its).reverse[((V.ref t) :: its).reverse.length - 1]? = some (V.ref t) := by
    rw [hrev, List.length_append, List.length_singleton, Nat.add_sub_cancel, List.getElem?_append_right (Nat.le_refl _), Nat.sub_self]
    rfl
  refine ⟨_, rfl, .inl ⟨rfl, _, .inl (.inl hW1)⟩, W, _, _, rfl, rfl, hW1, hlast, ?_⟩
  rw [hrev] at hW1 ⊢
  rw [hdl]
  have sx2 : SX W H1 (upd H1 W (.lst its.reverse)) := sx_at _ (SX.refl W H1)
  have hW2 : upd H1 W (.lst its.reverse) W = some (.lst its.reverse) := upd_same
  have s2 : Same H (upd H1 W (.lst its.reverse)) := same_mut _ s1 hW0
  generalize upd H1 W (.lst its.reverse) = H2 at sx2 hW2 s2 ⊢
  have hr2 : Paired (StkAt K H H2 n) its stk := L2.Paired.mapP hr0 fun x p h => h.sx sx2 hW1
  have ht2 : SqT K H2 t [.ref F, v1] := sqT_im (sx2.im hW1) ht
  have hF2 : FxD H2 F f1 m := by
    obtain ⟨kvs, h3, h4⟩ := hF
    refine ⟨kvs, sx2 F _ ?_ h3, h4⟩
    rintro rfl
    rw [hW1] at h3
    cases h3
  have hwt2 : 2 ^ freeN n f1 + wt n stk ≤ 32 := hwt
  have hjc : judAll bk ties n ((d1, f1) :: stk) = (judge (vaOf bk) ties n d1 f1 && judAll bk ties n stk) := rfl
  refine ⟨t, _, rfl, ht2, rfl, _, _, rfl, _, _, rfl, rfl, ?_⟩
  have hd2 := dp_same s2 hd1
  obtain ⟨tt, htt, hkk⟩ := isi_tup hd2
  refine ⟨_, rfl, _, _, tt, _, _, rfl, .ty _, htt, hkk, _, rfl, ?_⟩
  cases e1 : isTupD d1 with
  | false =>
    have := q _ s2
    rw [hj, hjc, judge_non e1] at this
    exact iteT this
  | true =>
  obtain ⟨ds, rfl⟩ := tupD_yes e1
  have hP2 := hP.im (im_same s2)
  refine iteF ⟨_, rfl, _, rfl, _, rfl, pz, F, v1, ds, k1, m, n, bk, ties, f1, rfl, hP2, hF2, hd2, hf1, hk1, _, rfl, ?_⟩
  cases e2 : splitD n f1 ds with
  | true =>
    obtain ⟨c, da, db, rfl, hc0, hc1, hfc, hjs⟩ := judge_spl e2
    obtain ⟨k2, rfl, _, hff⟩ := fine_tup hf1
    have hput0 := freeN_put (v := 0) hc0 hc1 hfc
    have hput1 := freeN_put (v := 1) hc0 hc1 hfc
    obtain ⟨sa, ys, rfl, hys, hds⟩ := dp_tup hd1
    cases hds with
    | cons hx0 r1 =>
    cases r1 with
    | cons hx1 r2 =>
    cases r2 with
    | cons hx2 r3 =>
    cases r3 with
    | cons hx3 r4 =>
    cases r4
    rename_i x0 x1 x2 x3
    have ev := dp_int hx1
    subst ev
    have hys2 := sqT_same s2 hys
    have hmf' : m + freeN n f1 ≤ 20 := hmf
    have hm100 : m ≤ 100 := by omega
    have hil2 : its.length ≤ 32 := by
      have h1 := hr0.length
      have h2 := wt_len n stk
      have h3 : wt n stk ≤ 32 := Nat.le_trans (Nat.le_add_left _ _) hwt2
      omega
    -- the first push
    refine iteT ⟨_, rfl, .inl ⟨rfl, _, .inl (.inl hW2)⟩, _, rfl, _, rfl, sa, _, 1, _, rfl, rfl, hys2, rfl, F, c, 1, f1, m, rfl, hF2, hm100, fun H3 F1 s3 hF1n hF1 => ?_⟩
    have hys3 := sqT_same s3 hys2
    refine ⟨_, rfl, sa, _, 3, _, rfl, rfl, hys3, rfl, (by show 2 ≤ sizeLine; decide), fun T1 hT1 => ?_⟩
    have hk60 : k2 ≤ 60 := by omega
    obtain ⟨sx4, hit4⟩ := stk_push (K := K) (H0 := H) (l' := its.reverse ++ [.ref T1]) (n := n) s3 hW2 hT1 hF1 (by omega) hx3 (hff db (by simp)) hk60
    refine ⟨W, its.reverse, _, rfl, rfl, same_new _ hT1 _ _ (s3 _ _ hW2), small1000 (by rw [List.length_reverse]; omega), ?_⟩
    have hW4 : upd (upd H3 T1 (.tup [.ref F1, x3])) W (.lst (its.reverse ++ [.ref T1])) W = some (.lst (its.reverse ++ [.ref T1])) := upd_same
    have s4 : Same H (upd (upd H3 T1 (.tup [.ref F1, x3])) W (.lst (its.reverse ++ [.ref T1]))) := same_mut _ (same_nw _ (s2.trans s3) hT1) hW0
    generalize upd (upd H3 T1 (.tup [.ref F1, x3])) W (.lst (its.reverse ++ [.ref T1])) = H4 at sx4 hit4 hW4 s4 ⊢
    have hr4 : Paired (StkAt K H H4 n) its stk := L2.Paired.mapP hr2 fun x p h => h.sx sx4 hW2
    have hF4 : FxD H4 F f1 m := by
      obtain ⟨kvs, h3, h4⟩ := hF2
      refine ⟨kvs, sx4 F _ ?_ h3, h4⟩
      rintro rfl
      rw [hW2] at h3
      cases h3
    have hys4 := sqT_same s4 hys
    refine ⟨_, rfl, .inl ⟨rfl, _, .inl (.inl hW4)⟩, _, rfl, _, rfl, sa, _, 1, _, rfl, rfl, hys4, rfl, F, c, 0, f1, m, rfl, hF4, hm100, fun H5 F2 s5 hF2n hF2' => ?_⟩
    have hys5 := sqT_same s5 hys4
    refine ⟨_, rfl, sa, _, 2, _, rfl, rfl, hys5, rfl, (by show 2 ≤ sizeLine; decide), fun T2 hT2 => ?_⟩
    obtain ⟨sx6, hit6⟩ := stk_push (K := K) (H0 := H) (l' := (its.reverse ++ [.ref T1]) ++ [.ref T2]) (n := n) s5 hW4 hT2 hF2' (by omega) hx2 (hff da (by simp)) hk60
    refine ⟨W, its.reverse ++ [.ref T1], _, rfl, rfl, same_new _ hT2 _ _ (s5 _ _ hW4), small1000 (by rw [List.length_append, List.length_reverse, List.length_singleton]; omega), ?_⟩
    have hW6 : upd (upd H5 T2 (.tup [.ref F2, x2])) W (.lst ((its.reverse ++ [.ref T1]) ++ [.ref T2])) W = some (.lst ((its.reverse ++ [.ref T1]) ++ [.ref T2])) := upd_same
    have s6 : Same H (upd (upd H5 T2 (.tup [.ref F2, x2])) W (.lst ((its.reverse ++ [.ref T1]) ++ [.ref T2]))) := same_mut _ (same_nw _ (s4.trans s5) hT2) hW0
    generalize upd (upd H5 T2 (.tup [.ref F2, x2])) W (.lst ((its.reverse ++ [.ref T1]) ++ [.ref T2])) = H6 at sx6 hit6 hW6 s6 ⊢
    refine ⟨msr ((da, put f1 c 0) :: (db, put f1 c 1) :: stk), ?_, _, _, .ref T2 :: .ref T1 :: its, (da, put f1 c 0) :: (db, put f1 c 1) :: stk, rfl, rfl, s6, ?_, .cons hit6 (.cons (hit4.sx sx6 hW4) (L2.Paired.mapP hr4 fun x p h => h.sx sx6 hW4)), ?_, ?_⟩
    · show sizeOf da + (sizeOf db + msr stk) < sizeOf (PyData.tuple [.str "split", .int c, da, db]) + msr stk
      simp
      omega
    · rw [hW6, List.reverse_cons, List.reverse_cons]
    · show 2 ^ freeN n (put f1 c 0) + (2 ^ freeN n (put f1 c 1) + wt n stk) ≤ 32
      have h1 : 2 ^ freeN n f1 = 2 ^ freeN n (put f1 c 0) * 2 := by rw [← hput0, Nat.pow_succ]
      have h2 : freeN n (put f1 c 1) = freeN n (put f1 c 0) := by omega
      rw [h2]
      rw [h1] at hwt2
      generalize 2 ^ freeN n (put f1 c 0) = z at hwt2 ⊢
      omega
    · rw [hj, hjc, hjs, Bool.and_assoc]
      rfl
  | false =>
    refine iteF ⟨_, rfl, _, rfl, _, rfl, pz, F, v1, ds, k1, m, n, bk, ties, f1, rfl, hP2, hG, hF2, by omega, hd2, hf1, hk1, fun H3 s3 => ⟨_, rfl, ?_⟩⟩
    have hjl := judge_tup (bk := bk) (ties := ties) e2
    cases e3 : leafD bk ties n f1 ds with
    | false =>
      have := q _ (s2.trans s3)
      rw [hj, hjc, hjl, e3] at this
      exact iteT this
    | true =>
      refine iteF ⟨msr stk, ?_, _, _, its, stk, rfl, rfl, s2.trans s3, s3 _ _ hW2, L2.Paired.mapP hr2 fun x p h => h.sx (W := W) (sx_same s3) hW2, Nat.le_trans (Nat.le_add_left _ _) hwt2, ?_⟩
      · show msr stk < sizeOf (PyData.tuple ds) + msr stk
        simp
        omega
      · rw [hj, hjc, hjl, e3]
        rfl
end
end EC


set_option Elab.async false
set_option linter.all false
set_option maxRecDepth 100000
set_option maxHeartbeats 4000000
namespace EC
open PySem PySem.Spec PyProof.Rows L2
/-! ### the hand -/
def HandAt (H : Hp) (hd dr : Addr) : Prop := ∃ (k : Nat) (ns : List Int), H hd = some (.lst [.ref dr, .int k]) ∧ dr ≠ hd ∧ H dr = some (.lst (ns.map V.int))
theorem HandAt.same {H H' : Hp} {hd dr : Addr} (e : Same H H') (h : HandAt H hd dr) : HandAt H' hd dr := by
  obtain ⟨k, ns, h1, h2, h3⟩ := h
  exact ⟨k, ns, e _ _ h1, h2, e _ _ h3⟩
theorem HandAt.lst {H : Hp} {hd dr : Addr} (h : HandAt H hd dr) : ∃ l, H hd = some (.lst l) := by
  obtain ⟨k, ns, h1, _⟩ := h
  exact ⟨_, h1⟩
theorem HandAt.ne {H : Hp} {hd dr p : Addr} (h : HandAt H hd dr) (hp : H p = none) : p ≠ hd ∧ p ≠ dr := by
  obtain ⟨k, ns, h1, _, h3⟩ := h
  constructor
  · rintro rfl
    rw [h1] at hp
    cases hp
  · rintro rfl
    rw [h3] at hp
    cases hp
/-- what comes of a heap with a hand: all but hd stands, the hand is a hand -/
structure HX (hd dr : Addr) (H H' : Hp) : Prop where
  sx : SX hd H H'
  hand : HandAt H' hd dr
section
variable {hd dr p : Addr} {H H1 H2 : Hp}
theorem HX.im (e : HX hd dr H H1) (h : HandAt H hd dr) : Im H H1 := by
  obtain ⟨l, q⟩ := h.lst
  exact e.sx.im q
theorem HX.trans (a : HX hd dr H H1) (b : HX hd dr H1 H2) : HX hd dr H H2 := ⟨a.sx.trans b.sx, b.hand⟩
theorem HX.same (a : HX hd dr H H1) (b : Same H1 H2) : HX hd dr H H2 := ⟨a.sx.trans (sx_same b), a.hand.same b⟩
theorem HX.refl (h : HandAt H hd dr) : HX hd dr H H := ⟨SX.refl hd H, h⟩
theorem HX.of (h : HandAt H hd dr) (b : Same H H1) : HX hd dr H H1 := (HX.refl h).same b
/-- an object new since H may change -/
theorem HX.mut (o : HO) (a : HX hd dr H H1) (h0 : HandAt H hd dr) (hp : H p = none) : HX hd dr H (upd H1 p o) := by
  obtain ⟨k, ns, h1, h2, h3⟩ := a.hand
  obtain ⟨n1, n2⟩ := h0.ne hp
  exact ⟨a.sx.mut o hp, k, ns, by rw [upd_ne n1.symm]; exact h1, h2, by rw [upd_ne n2.symm]; exact h3⟩
theorem HX.new (o : HO) (a : HX hd dr H H1) (hp : H1 p = none) : HX hd dr H (upd H1 p o) := a.same (same_new o hp)
theorem HX.free (a : HX hd dr H H1) (hp : H1 p = none) : H p = none := by
  obtain ⟨l, q⟩ := a.hand.lst
  exact a.sx.free q hp
/-- an object that stands in H, not the hand -/
theorem HX.at (a : HX hd dr H H1) {b : Addr} {o : HO} (n : b ≠ hd) (h : H b = some o) : H1 b = some o := a.sx b o n h
end
theorem ixN_at {n j : Nat} (h : j < n) : ixN n (j : Int) = some j := by
  unfold ixN
  rw [if_pos (by omega), if_pos (by omega)]
  rfl
section
variable {P : Program} {w : World} {K : PySem.W.Frag} {mg : Str → Option Value} {base : Heap}
/-! ### _law_draws -/
def spDraws (K : PySem.W.Frag) : Sp := fun vs H Q _ => ∃ (a : Addr) (zs : List Int), vs = [.ref a, .int 420] ∧ SqL K H a (zs.map V.int) ∧ zs.length ≤ 63 ∧ ∀ H' L (ns : List Int), Same H H' → H L = none → H' L = some (.lst (ns.map V.int)) → Q (.ref L) H'
theorem ok_law_draws (T : Txt K mg) : Ok P w K mg base 1 d_law_draws ["_law_script", "_law_many"] (spDraws K) := by
  refine T.F_law_draws.ok sc_law_draws (fun vs H Q E h => ?_) (fun cdv A outer s H vs Q E hr h => ?_)
  · obtain ⟨a, zs, rfl, _⟩ := h
    rfl
  obtain ⟨a, zs, rfl, hs, hzl, q⟩ := h
  refine ⟨_, PSs.nox (
  (pss_cons (ps_setLc (i := 2) (own := [("_law_cell", 5)]) (by rfl) sc_law_draws.nd rfl rfl (sw_true rfl rfl rfl (by decide +kernel)) (pi_list (pv 0)) (blkOk_by (own := [("_law_cell", 5)]) (N := ["_law_script", "_law_many", "_law_rests", "_law_draws_here", "_law_k", "_law_cell", "_law_at", "_law_mixed"]) (sc := defScope s_law_draws) (by decide +kernel)) (fun _ _ _ _ _ => (pg_name (i := 5) sc_law_draws.nd rfl (Or.inl rfl))) (fun _ _ _ _ _ => pts_nil) (fun _ _ _ _ _ => (pe_callB call_abs (by rfl) T.z_abs (by decide +kernel) (pa_cons (pe_callTy call_int1 (by rfl) T.z_int (by decide +kernel) (pa_cons (pv 5) pa_nil)) pa_nil))))
    (pss_cons (ps_set (i := 3) sc_law_draws.nd rfl (Or.inl rfl) (pe_lst pa_nil))
    (pss_cons (ps_for PassesOwn.never rfl (pi_range1 (by rfl) T.z_range (pa_cons (pv 1) pa_nil)) (pg_name (i := 4) sc_law_draws.nd rfl (Or.inl rfl))
      (pss_cons (ps_set (i := 5) sc_law_draws.nd rfl (Or.inl rfl) (pv 4))
      (pss_cons (ps_if (pt_cmpR op_gt (pe_callB call_len_seq (by rfl) T.z_len PySem.boot_len (pa_cons (pv 0) pa_nil)) pe_int (nomark _))
        (pss_cons (ps_set (i := 6) sc_law_draws.nd rfl (Or.inl rfl) (pe_op op_mod (pv 4) (pe_callB call_len_seq (by rfl) T.z_len PySem.boot_len (pa_cons (pv 0) pa_nil))))
        (pss_cons (ps_set (i := 5) sc_law_draws.nd rfl (Or.inl rfl) (pe_callTy call_int1 (by rfl) T.z_int (by decide +kernel) (pa_cons (pe_ix ix_list (pv 0) (pv 6) (fun _ _ => rfl)) pa_nil)))
        (pss_one (ps_if (PW.pt (pw_and (pt_cmpR op_ge (pv 5) (pe_op op_pow pe_int pe_int) (nomark _)) (pw_and1 (pt_cmpR op_gt (pe_ix ix_list (pv 2) (pv 6) (fun _ _ => rfl)) pe_int (nomark _)))))
          (pss_cons (ps_expr (pe_bm PySem.F.plainAttrs_list PySem.F.slot_list_append PySem.F.type_list_append mt_append (pv 3) (pa_cons (pe_op op_mod (pe_callTy call_int1 (by rfl) T.z_int (by decide +kernel) (pa_cons (pe_ix ix_list (pv 2) (pv 6) (fun _ _ => rfl)) pa_nil)) pe_int) pa_nil)))
          (pss_cons (ps_asg (pe_op op_fdiv (pe_callTy call_int1 (by rfl) T.z_int (by decide +kernel) (pa_cons (pe_ix ix_list (pv 2) (pv 6) (fun _ _ => rfl)) pa_nil)) pe_int) (pg_sub (pv 2) (pv 6) set_list))
          (pss_one ps_continue)))
          pss_nil))))
        pss_nil)
      (pss_cons (ps_set (i := 7) sc_law_draws.nd rfl (Or.inl rfl) (pe_op op_mod (pe_callTy call_int1 (by rfl) T.z_int (by decide +kernel) (pa_cons (pe_op op_add (pe_op op_add (pe_op op_mul (pv 5) pe_int) (pe_op op_mul (pv 4) pe_int)) pe_int) pa_nil)) pe_int))
      (pss_cons (ps_set (i := 7) sc_law_draws.nd rfl (Or.inl rfl) (pe_op op_mod (pe_callTy call_int1 (by rfl) T.z_int (by decide +kernel) (pa_cons (pe_op op_add (pe_op op_fdiv (pe_op op_mul (pv 7) (pv 7)) pe_int) (pv 7)) pa_nil)) pe_int))
      (pss_one (ps_expr (pe_bm PySem.F.plainAttrs_list PySem.F.slot_list_append PySem.F.type_list_append mt_append (pv 3) (pa_cons (pe_op op_mod (pe_callTy call_int1 (by rfl) T.z_int (by decide +kernel) (pa_cons (pe_op op_add (pe_op op_fdiv (pe_op op_mul (pv 7) (pv 7)) pe_int) (pe_op op_mul (pv 4) pe_int)) pa_nil)) pe_int) pa_nil)))))))))
    (pss_one (ps_ret (pv 3))))))
  ), ?_⟩
  refine ⟨_, rfl, a, rfl, ⟨_, hs⟩, fun D hD => lc_list (xs := zs.map V.int) (fun j H' => Same H H' ∧ H' D = some (.lst (((zs.take j).map fun z => if z < 0 then -z else z).map V.int)))
    ⟨same_new _ hD, upd_same⟩ (fun j H' _ h => h.1.seq hs) ?_ ?_⟩
  · rintro j x H1 hj ⟨s1, hD1⟩
    rw [List.getElem?_map] at hj
    obtain ⟨z, hz, rfl⟩ := Option.map_eq_some_iff.mp hj
    refine ⟨rfl, _, rfl, .inl ⟨_, rfl, _, rfl, _, hD1, small1000 (by rw [List.length_map, List.length_map, List.length_take]; omega), same_mut _ s1 hD, ?_⟩⟩
    rw [upd_same, List.take_succ, hz]
    simp
  rintro H1 ⟨s1, hD1⟩
  rw [List.length_map, List.take_length] at hD1
  refine ⟨(by show 0 ≤ sizeLine; exact Nat.zero_le _), fun L hL => ?_⟩
  have hLD : L ≠ D := by
    rintro rfl
    rw [hD1] at hL
    cases hL
  have hL0 : H L = none := same_free s1 hL
  refine ⟨_, rfl, 420, rfl, by decide, by decide, for_range (n := 420) (fun i σ H' => ∃ (o4 o5 o6 o7 : Option V) (ns rs : List Int), σ = [some (.ref a), some (.int 420), some (.ref D), some (.ref L), o4, o5, o6, o7] ∧ Same H H' ∧ H' L = some (.lst (ns.map V.int)) ∧ ns.length ≤ i ∧ H' D = some (.lst (rs.map V.int)) ∧ rs.length = zs.length)
    ⟨_, _, _, _, [], _, rfl, same_nw _ s1 hL, upd_same, Nat.le_refl _, by rw [upd_ne hLD.symm]; exact hD1, by rw [List.length_map]⟩ ?_ ?_⟩
  · rintro i σ H2 hi ⟨o4, o5, o6, o7, ns, rs, rfl, s2, hL2, hnl, hD2, hrl⟩
    have hs2 : SqL K H2 a (zs.map V.int) := s2.seq hs
    have hbig : ∀ z y : Int, 0 < y → y < 2147483648 → CMul (z % y) (z % y) := fun z y h0 h1 => by
      have := Int.emod_nonneg z (show y ≠ 0 by omega)
      have := Int.emod_lt_of_pos z h0
      exact .inl ⟨by omega, by omega⟩
    have hpos1 : (0 : Int) < 2147483647 := by decide
    have hpos2 : (0 : Int) < 2147483629 := by decide
    have hpos3 : (0 : Int) < 1000003 := by decide
    have hsm : ∀ z : Int, CMul z 48271 ∧ CMul z 69621 ∧ CMul z 7919 := fun z => ⟨.inr ⟨by decide, by decide⟩, .inr ⟨by decide, by decide⟩, .inr ⟨by decide, by decide⟩⟩
    have sz : (ns.map V.int).length < sizeLine := small1000 (by rw [List.length_map]; omega)
    have snoc : ∀ v : Int, ns.map V.int ++ [V.int v] = (ns ++ [v]).map V.int := fun v => by rw [List.map_append]; rfl
    refine ⟨_, rfl, _, rfl, a, _, rfl, .inl hs2, _, _, rfl, rfl, _, rfl, ?_⟩
    rw [List.length_map]
    by_cases hz0 : (0 : Int) < (zs.length : Int)
    · refine ifT (decide_eq_true hz0) ?_
      refine ⟨_, rfl, _, rfl, a, _, rfl, .inl hs2, _, _, rfl, rfl, (by rw [List.length_map]; exact hz0), ?_⟩
      rw [List.length_map]
      have hm0 := Int.emod_nonneg (0 + (i : Int)) (show (zs.length : Int) ≠ 0 by omega)
      have hm1 := Int.emod_lt_of_pos (0 + (i : Int)) hz0
      obtain ⟨m, hm⟩ : ∃ m, (0 + (i : Int)) % (zs.length : Int) = m := ⟨_, rfl⟩
      rw [hm] at hm0 hm1
      have hmz : m.toNat < zs.length := by omega
      have hmr : m.toNat < rs.length := by omega
      have hat : atI (zs.map V.int) m = some (.int zs[m.toNat]) := at_nn hm0 (by rw [List.getElem?_map, List.getElem?_eq_getElem hmz]; rfl)
      have hatr : atI (rs.map V.int) m = some (.int rs[m.toNat]) := at_nn hm0 (by rw [List.getElem?_map, List.getElem?_eq_getElem hmr]; rfl)
      generalize zs[m.toNat] = c at hat
      generalize rs[m.toNat] = r at hatr
      rw [← hm] at hat hatr
      refine ⟨_, rfl, _, rfl, a, _, _, _, rfl, rfl, hs2, hat, .inl ⟨_, rfl, ?_⟩⟩
      refine ⟨_, rfl, _, _, rfl, rfl, ⟨by decide, by decide, by decide⟩, _, _, rfl, rfl, _, rfl, ?_⟩
      by_cases hc : (10 : Int) ^ (18 : Int).toNat ≤ c
      · refine ifT (decide_eq_true hc) ?_
        refine ⟨_, rfl, _, rfl, D, _, _, _, rfl, rfl, .inl (.inl hD2), hatr, _, _, rfl, rfl, _, rfl, ?_⟩
        by_cases hr0 : 0 < r
        · refine ifT (decide_eq_true hr0) ?_
          refine ⟨_, rfl, .inl ⟨rfl, _, .inl (.inl hL2)⟩, _, rfl, _, rfl, D, _, _, _, rfl, rfl, .inl (.inl hD2), hatr, .inl ⟨_, rfl, _, _, rfl, rfl, hpos3, ?_⟩⟩
          refine ⟨L, _, _, rfl, rfl, hL2, sz, ?_⟩
          rw [snoc]
          have hD3 : upd H2 L (.lst ((ns ++ [r % 1000003]).map V.int)) D = some (.lst (rs.map V.int)) := by
            rw [upd_ne hLD.symm]
            exact hD2
          refine ⟨_, rfl, _, rfl, D, _, _, _, rfl, rfl, .inl (.inl hD3), hatr, .inl ⟨_, rfl, _, _, rfl, rfl, ⟨by decide, by decide⟩, _, rfl, _, rfl, D, _, _, m.toNat, rfl, rfl, hD3, ?_, ?_⟩⟩
          · rw [hm]
            have := ixN_at (n := (rs.map V.int).length) (j := m.toNat) (by rw [List.length_map]; exact hmr)
            rwa [Int.toNat_of_nonneg hm0] at this
          · refine ⟨_, _, _, _, ns ++ [r % 1000003], rs.set m.toNat (r / 1000003), rfl, same_mut _ (same_mut _ s2 hL0) hD, ?_, by rw [List.length_append]; exact Nat.succ_le_succ hnl, ?_, by rw [List.length_set]; exact hrl⟩
            · rw [upd_ne hLD]
              exact upd_same
            · rw [upd_same, List.map_set]
        · refine ifF (decide_eq_false hr0) ?_
          refine ⟨_, rfl, _, _, rfl, rfl, (hsm _).1, _, rfl, _, _, rfl, rfl, (hsm _).2.1, _, _, rfl, rfl, _, _, rfl, rfl, .inl ⟨_, rfl, _, _, rfl, rfl, hpos1, ?_⟩⟩
          refine ⟨_, rfl, _, rfl, _, _, rfl, rfl, hbig _ _ hpos1 (by decide), _, _, rfl, rfl, ⟨by decide, by decide⟩, _, rfl, _, _, rfl, rfl, .inl ⟨_, rfl, _, _, rfl, rfl, hpos2, ?_⟩⟩
          refine ⟨_, rfl, .inl ⟨rfl, _, .inl (.inl hL2)⟩, _, rfl, _, rfl, _, _, rfl, rfl, hbig _ _ hpos2 (by decide), _, _, rfl, rfl, ⟨by decide, by decide⟩, _, rfl, _, _, rfl, rfl, (hsm _).2.2, _, _, rfl, rfl, .inl ⟨_, rfl, _, _, rfl, rfl, hpos2, ?_⟩⟩
          refine ⟨L, _, _, rfl, rfl, hL2, sz, ?_⟩
          rw [snoc]
          exact ⟨_, _, _, _, _, rs, rfl, same_mut _ s2 hL0, upd_same, by rw [List.length_append]; exact Nat.succ_le_succ hnl, by rw [upd_ne hLD.symm]; exact hD2, hrl⟩
      · refine ifF (decide_eq_false hc) ?_
        refine ⟨_, rfl, _, _, rfl, rfl, (hsm _).1, _, rfl, _, _, rfl, rfl, (hsm _).2.1, _, _, rfl, rfl, _, _, rfl, rfl, .inl ⟨_, rfl, _, _, rfl, rfl, hpos1, ?_⟩⟩
        refine ⟨_, rfl, _, rfl, _, _, rfl, rfl, hbig _ _ hpos1 (by decide), _, _, rfl, rfl, ⟨by decide, by decide⟩, _, rfl, _, _, rfl, rfl, .inl ⟨_, rfl, _, _, rfl, rfl, hpos2, ?_⟩⟩
        refine ⟨_, rfl, .inl ⟨rfl, _, .inl (.inl hL2)⟩, _, rfl, _, rfl, _, _, rfl, rfl, hbig _ _ hpos2 (by decide), _, _, rfl, rfl, ⟨by decide, by decide⟩, _, rfl, _, _, rfl, rfl, (hsm _).2.2, _, _, rfl, rfl, .inl ⟨_, rfl, _, _, rfl, rfl, hpos2, ?_⟩⟩
        refine ⟨L, _, _, rfl, rfl, hL2, sz, ?_⟩
        rw [snoc]
        exact ⟨_, _, _, _, _, rs, rfl, same_mut _ s2 hL0, upd_same, by rw [List.length_append]; exact Nat.succ_le_succ hnl, by rw [upd_ne hLD.symm]; exact hD2, hrl⟩
    · refine ifF (decide_eq_false hz0) ?_
      refine ⟨_, rfl, _, _, rfl, rfl, (hsm _).1, _, rfl, _, _, rfl, rfl, (hsm _).2.1, _, _, rfl, rfl, _, _, rfl, rfl, .inl ⟨_, rfl, _, _, rfl, rfl, hpos1, ?_⟩⟩
      refine ⟨_, rfl, _, rfl, _, _, rfl, rfl, hbig _ _ hpos1 (by decide), _, _, rfl, rfl, ⟨by decide, by decide⟩, _, rfl, _, _, rfl, rfl, .inl ⟨_, rfl, _, _, rfl, rfl, hpos2, ?_⟩⟩
      refine ⟨_, rfl, .inl ⟨rfl, _, .inl (.inl hL2)⟩, _, rfl, _, rfl, _, _, rfl, rfl, hbig _ _ hpos2 (by decide), _, _, rfl, rfl, ⟨by decide, by decide⟩, _, rfl, _, _, rfl, rfl, (hsm _).2.2, _, _, rfl, rfl, .inl ⟨_, rfl, _, _, rfl, rfl, hpos2, ?_⟩⟩
      refine ⟨L, _, _, rfl, rfl, hL2, sz, ?_⟩
      rw [snoc]
      exact ⟨_, _, _, _, _, rs, rfl, same_mut _ s2 hL0, upd_same, by rw [List.length_append]; exact Nat.succ_le_succ hnl, by rw [upd_ne hLD.symm]; exact hD2, hrl⟩
  · rintro σ H2 ⟨o4, o5, o6, o7, ns, rs, rfl, s2, hL2, _⟩
    exact ⟨_, rfl, q _ L ns s2 hL0 hL2⟩
/-! ### _law_take -/
def spTake (K : PySem.W.Frag) : Sp := fun vs H Q _ => ∃ (hd dr : Addr) (m : Int), vs = [.ref hd, .int m] ∧ HandAt H hd dr ∧ 0 < m ∧ ∀ H' k, HX hd dr H H' → 0 ≤ k → k < m → Q (.int k) H'
theorem ok_law_take (T : Txt K mg) : Ok P w K mg base 1 d_law_take ["_law_hand", "_law_many"] (spTake K) := by
  refine T.F_law_take.ok sc_law_take (fun vs H Q E h => ?_) (fun cdv A outer s H vs Q E hr h => ?_)
  · obtain ⟨hd, dr, m, rfl, _⟩ := h
    rfl
  obtain ⟨hd, dr, m, rfl, ⟨k, ns, h1, h2, h3⟩, hm, q⟩ := h
  refine ⟨_, PSs.nox (
  (pss_cons (ps_set (i := 2) sc_law_take.nd rfl (Or.inl rfl) (pe_ix ix_list (pv 0) pe_int (fun _ _ => rfl)))
    (pss_cons (ps_asg (pe_op op_add (pv 2) pe_int) (pg_sub (pv 0) pe_int set_list))
    (pss_cons (ps_set (i := 3) sc_law_take.nd rfl (Or.inl rfl) (pe_ix ix_list (pv 0) pe_int (fun _ _ => rfl)))
    (pss_cons (ps_if (pt_cmpR op_ge (pv 2) (pe_callB call_len_seq (by rfl) T.z_len PySem.boot_len (pa_cons (pv 3) pa_nil)) (nomark _))
      (pss_one (ps_ret pe_int))
      pss_nil)
    (pss_one (ps_ret (pe_op op_mod (pe_op op_fdiv (pe_callTy call_int1 (by rfl) T.z_int (by decide +kernel) (pa_cons (pe_ix ix_list (pv 3) (pv 2) (fun _ _ => rfl)) pa_nil)) pe_int) (pv 1))))))))
  ), ?_⟩
  refine ⟨_, rfl, hd, _, 1, _, rfl, rfl, .inl (.inl h1), rfl, ?_⟩
  refine ⟨_, rfl, _, _, rfl, rfl, _, rfl, hd, _, 1, 1, rfl, rfl, h1, rfl, ?_⟩
  have h1' : upd H hd (.lst ([V.ref dr, V.int k].set 1 (.int (k + 1)))) hd = some (.lst [.ref dr, .int ((k + 1 : Nat) : Int)]) := upd_same
  have h3' : upd H hd (.lst ([V.ref dr, V.int k].set 1 (.int (k + 1)))) dr = some (.lst (ns.map V.int)) := by
    rw [upd_ne h2]
    exact h3
  have hx : HX hd dr H (upd H hd (.lst ([V.ref dr, V.int k].set 1 (.int (k + 1))))) := ⟨sx_at _ (SX.refl hd H), k + 1, ns, h1', h2, h3'⟩
  generalize upd H hd (.lst ([V.ref dr, V.int k].set 1 (.int (k + 1)))) = H1 at h1' h3' hx ⊢
  refine ⟨_, rfl, hd, _, 0, _, rfl, rfl, .inl (.inl h1'), rfl, ?_⟩
  refine ⟨_, rfl, _, rfl, dr, _, rfl, .inl (.inl (.inl h3')), _, _, rfl, rfl, _, rfl, ?_⟩
  rw [List.length_map]
  by_cases hk : (ns.length : Int) ≤ (k : Int)
  · exact ifT (decide_eq_true hk) (q _ 0 hx (Int.le_refl 0) hm)
  · refine ifF (decide_eq_false hk) ?_
    have hk2 : k < ns.length := by omega
    refine ⟨_, rfl, _, rfl, dr, _, _, _, rfl, rfl, .inl (.inl h3'), atI_nat (by rw [List.getElem?_map, List.getElem?_eq_getElem hk2]; rfl), .inl ⟨_, rfl, _, _, rfl, rfl, ⟨by decide, by decide⟩, _, rfl, _, _, rfl, rfl, hm, q _ _ hx (Int.emod_nonneg _ (by omega)) (Int.emod_lt_of_pos _ hm)⟩⟩
end
end EC


set_option Elab.async false
set_option linter.all false
set_option maxRecDepth 100000
set_option maxHeartbeats 4000000
namespace EC
open PySem PySem.Spec PyProof.Rows L2
/-! ### lists of rows, each a tuple of its own -/
def RowsP (H : Hp) (xs : List V) (rows : List (List Int)) : Prop := xs.length = rows.length ∧ ∀ (i : Nat) (r : List Int), rows[i]? = some r → ∃ b, xs[i]? = some (.ref b) ∧ H b = some (.tup (r.map V.int))
theorem RowsP.nil {H : Hp} : RowsP H [] [] := ⟨rfl, fun i r h => by simp at h⟩
theorem RowsP.im {H H' : Hp} {xs : List V} {rows : List (List Int)} (e : Im H H') (h : RowsP H xs rows) : RowsP H' xs rows :=
  ⟨h.1, fun i r hr => let ⟨b, q1, q2⟩ := h.2 i r hr; ⟨b, q1, e _ _ rfl q2⟩⟩
theorem RowsP.append {H : Hp} {xs ys : List V} {rows sows : List (List Int)} (h : RowsP H xs rows) (k : RowsP H ys sows) : RowsP H (xs ++ ys) (rows ++ sows) := by
  refine ⟨by rw [List.length_append, List.length_append, h.1, k.1], fun i q hq => ?_⟩
  by_cases e : i < rows.length
  · rw [List.getElem?_append_left e] at hq
    obtain ⟨b', q1, q2⟩ := h.2 i q hq
    exact ⟨b', by rw [List.getElem?_append_left (by rw [h.1]; exact e)]; exact q1, q2⟩
  · rw [List.getElem?_append_right (by omega)] at hq
    obtain ⟨b', q1, q2⟩ := k.2 _ q hq
    exact ⟨b', by rw [List.getElem?_append_right (by rw [h.1]; omega), h.1]; exact q1, q2⟩
theorem RowsP.one {H : Hp} {b : Addr} {r : List Int} (h : H b = some (.tup (r.map V.int))) : RowsP H [.ref b] [r] := ⟨rfl, fun i q hq => by
  cases i with
  | zero =>
    have e : r = q := Option.some.inj hq
    subst e
    exact ⟨b, rfl, h⟩
  | succ i => simp at hq⟩
theorem RowsP.snoc {H : Hp} {xs : List V} {rows : List (List Int)} {b : Addr} {r : List Int} (h : RowsP H xs rows) (hb : H b = some (.tup (r.map V.int))) : RowsP H (xs ++ [.ref b]) (rows ++ [r]) := h.append (.one hb)
theorem RowsP.loose {K : PySem.W.Frag} {H : Hp} {xs : List V} {rows : List (List Int)} (h : RowsP H xs rows) : RowsL K H xs rows :=
  ⟨h.1, fun i r hr => let ⟨b, q1, q2⟩ := h.2 i r hr; ⟨b, q1, .inl (.inl q2)⟩⟩
theorem RowsP.dp {K : PySem.W.Frag} {H : Hp} {xs : List V} {rows : List (List Int)} (h : RowsP H xs rows) : DpAll K H xs (rows.map eI) :=
  dpAll_of (by rw [h.1, List.length_map]) fun i d hd => by
    rw [List.getElem?_map] at hd
    obtain ⟨r, hr, rfl⟩ := Option.map_eq_some_iff.mp hd
    obtain ⟨b, q1, q2⟩ := h.2 i r hr
    exact ⟨_, q1, eI_mk (.inl (.inl q2))⟩
/-- row + (v,) -/
theorem cat_row {K : PySem.W.Frag} {H : Hp} {b t : Addr} {r : List Int} {v : Int} {Q : VK} (hb : H b = some (.tup (r.map V.int))) (ht : H t = some (.tup [.int v])) (hl : r.length ≤ 100) (q : ∀ p H', Same H H' → H' p = some (.tup ((r ++ [v]).map V.int)) → Q (.ref p) H') :
    rCatA K (.ref b) (.ref t) H Q := by
  refine ⟨b, t, _, _, rfl, rfl, .inl (.inl hb), .inl (.inl ht), Nat.le_of_lt (small1000 (by rw [List.length_map, List.length_singleton]; omega)), fun e => ?_, fun _ e => (nomatch e), fun _ _ p hp => ?_⟩
  · have e2 : r = [] := List.map_eq_nil_iff.mp e
    subst e2
    exact q t H (.refl H) ht
  · refine q p _ (same_new _ hp) ?_
    rw [upd_same, List.map_append]
    rfl
section
variable {P : Program} {w : World} {K : PySem.W.Frag} {mg : Str → Option Value} {base : Heap}
/-! ### _law_all_rows -/
def spAllRows (K : PySem.W.Frag) : Sp := fun vs H Q _ => ∃ (k : Nat), vs = [.int (k : Int)] ∧ k ≤ 5 ∧ ∀ H' L xs, Same H H' → H L = none → H' L = some (.lst xs) → RowsP H' xs (allRows k) → Q (.ref L) H'
theorem ok_law_all_rows (T : Txt K mg) : Ok P w K mg base 1 d_law_all_rows ["_law_many"] (spAllRows K) := by
  refine T.F_law_all_rows.ok sc_law_all_rows (fun vs H Q E h => ?_) (fun cdv A outer s H vs Q E hr h => ?_)
  · obtain ⟨k, rfl, _⟩ := h
    rfl
  obtain ⟨k, rfl, hk, q⟩ := h
  refine ⟨_, PSs.nox (
  (pss_cons (ps_set (i := 1) sc_law_all_rows.nd rfl (Or.inl rfl) (pe_lst (pa_cons (pe_tup pa_nil) pa_nil)))
    (pss_cons (ps_for PassesOwn.never rfl (pi_range1 (by rfl) T.z_range (pa_cons (pv 0) pa_nil)) (pg_name (i := 2) sc_law_all_rows.nd rfl (Or.inl rfl))
      (pss_cons (ps_set (i := 3) sc_law_all_rows.nd rfl (Or.inl rfl) (pe_lst pa_nil))
      (pss_cons (ps_for PassesOwn.never rfl (pi_list (pv 1)) (pg_name (i := 4) sc_law_all_rows.nd rfl (Or.inl rfl))
        (pss_one (ps_set (i := 3) sc_law_all_rows.nd rfl (Or.inl rfl) (pe_op op_cat (pv 3) (pe_lst (pa_cons (pe_op op_catA (pv 4) (pe_tup (pa_cons pe_int pa_nil))) (pa_cons (pe_op op_catA (pv 4) (pe_tup (pa_cons pe_int pa_nil))) pa_nil)))))))
      (pss_one (ps_set (i := 1) sc_law_all_rows.nd rfl (Or.inl rfl) (pv 3))))))
    (pss_one (ps_ret (pv 1)))))
  ), ?_⟩
  refine ⟨(by show 0 ≤ sizeLine; exact Nat.zero_le _), fun T0 hT0 => ⟨(by show 1 ≤ sizeLine; decide), fun L0 hL0 => ?_⟩⟩
  have s1 : Same H (upd H T0 (.tup [])) := same_new _ hT0
  have hL0' : H L0 = none := same_free s1 hL0
  have h0 : RowsP (upd (upd H T0 (.tup [])) L0 (.lst [.ref T0])) [.ref T0] (allRows 0) := .one (same_new _ hL0 _ _ upd_same)
  refine ⟨_, rfl, k, rfl, by omega, by omega, for_range (n := k) (fun i σ H' => ∃ (o2 o3 o4 : Option V) (L : Addr) (xs : List V), σ = [some (.int k), some (.ref L), o2, o3, o4] ∧ Same H H' ∧ H L = none ∧ H' L = some (.lst xs) ∧ RowsP H' xs (allRows i))
    ⟨_, _, _, L0, _, rfl, same_nw _ s1 hL0, hL0', upd_same, h0⟩ ?_ ?_⟩
  · rintro i σ H1 hi ⟨o2, o3, o4, L, xs, rfl, s1, hLn, hL, hR⟩
    have hxl := hR.1
    have hal : (allRows i).length ≤ 32 := by
      rw [allRows_len]
      exact Nat.le_trans (Nat.pow_le_pow_right (by decide) (show i ≤ 5 by omega)) (by decide)
    have hrl : ∀ r ∈ allRows i, r.length ≤ 100 := fun r hr => by
      have := ((mem_allRows i r).mp hr).1
      omega
    refine ⟨(by show 0 ≤ sizeLine; exact Nat.zero_le _), fun M0 hM0 => ?_⟩
    have s2 : Same H1 (upd H1 M0 (.lst [])) := same_new _ hM0
    refine ⟨_, rfl, L, rfl, ⟨_, .inl (.inl (s2 _ _ hL))⟩, for_list (xs := xs) (fun j σ H' => ∃ (o4 : Option V) (M : Addr) (ys : List V), σ = [some (.int k), some (.ref L), some (.int (0 + (i : Nat))), some (.ref M), o4] ∧ Same H1 H' ∧ H1 M = none ∧ H' M = some (.lst ys) ∧ RowsP H' ys (((allRows i).take j).flatMap fun r => [r ++ [0], r ++ [1]]) ∧ ys.length ≤ 2 * j)
      ⟨_, M0, [], rfl, s2, hM0, upd_same, RowsP.nil, Nat.le_refl _⟩ (fun j σ H' _ h => by obtain ⟨_, _, _, _, e, _⟩ := h; exact .inl (.inl (e _ _ hL))) ?_ ?_⟩
    · rintro j x σ H2 hj ⟨o4, M, ys, rfl, s2, hMn, hM, hRy, hyl⟩
      have hjl := (List.getElem?_eq_some_iff.mp hj).1
      have hjr : j < (allRows i).length := by omega
      have hrj := List.getElem?_eq_getElem hjr
      have hrm := hrl _ (List.getElem_mem hjr)
      obtain ⟨b, hb1, hb2⟩ := hR.2 j _ hrj
      rw [hj] at hb1
      cases hb1
      generalize (allRows i)[j] = r at hrj hrm hb2
      refine ⟨_, rfl, _, rfl, (by show 1 ≤ sizeLine; decide), fun T1 hT1 => cat_row (r := r) (v := 0) (same_new _ hT1 _ _ (s2 _ _ hb2)) upd_same hrm fun p1 H3 s3 hp1 => ?_⟩
      have s3' : Same H2 H3 := (same_new _ hT1).trans s3
      refine ⟨_, rfl, (by show 1 ≤ sizeLine; decide), fun T2 hT2 => cat_row (r := r) (v := 1) (same_new _ hT2 _ _ (s3' _ _ (s2 _ _ hb2))) upd_same hrm fun p2 H4 s4 hp2 => ?_⟩
      have s4' : Same H3 H4 := (same_new _ hT2).trans s4
      have hp1' := s4' _ _ hp1
      refine ⟨(by show 2 ≤ sizeLine; decide), fun Lq hLq => ?_⟩
      have s5 : Same H4 (upd H4 Lq (.lst [.ref p1, .ref p2])) := same_new _ hLq
      have s25 := (s3'.trans s4').trans s5
      refine ⟨M, Lq, ys, _, rfl, rfl, s25 _ _ hM, upd_same, Nat.le_of_lt (small1000 (by show ys.length + 2 ≤ 1000; omega)), fun p hp => ?_⟩
      have s6 : Same (upd H4 Lq (.lst [.ref p1, .ref p2])) (upd (upd H4 Lq (.lst [.ref p1, .ref p2])) p (.lst (ys ++ [.ref p1, .ref p2]))) := same_new _ hp
      have s26 := s25.trans s6
      refine ⟨_, p, _, rfl, s2.trans s26, same_free (s2.trans s25) hp, upd_same, ?_, by rw [List.length_append]; show ys.length + 2 ≤ _; omega⟩
      have e : ((allRows i).take (j + 1)).flatMap (fun r => [r ++ [0], r ++ [1]]) = ((allRows i).take j).flatMap (fun r => [r ++ [0], r ++ [1]]) ++ [r ++ [0], r ++ [1]] := by
        rw [List.take_succ, hrj, List.flatMap_append]
        simp
      rw [e]
      exact (hRy.im (im_same s26)).append ((RowsP.one (r := r ++ [0]) (s6 _ _ (s5 _ _ hp1'))).append (RowsP.one (r := r ++ [1]) (s6 _ _ (s5 _ _ hp2))))
    · rintro σ H2 ⟨o4, M, ys, rfl, s2, hMn, hM, hRy, hyl⟩
      rw [List.take_of_length_le (by omega)] at hRy
      exact ⟨_, rfl, _, _, _, M, ys, rfl, s1.trans s2, same_free s1 hMn, hM, hRy⟩
  · rintro σ H1 ⟨o2, o3, o4, L, xs, rfl, s1, hLn, hL, hR⟩
    exact ⟨_, rfl, q _ L xs s1 hLn hL hR⟩
end
end EC


set_option Elab.async false
set_option linter.all false
set_option maxRecDepth 100000
set_option maxHeartbeats 4000000
namespace EC
open PySem PySem.Spec PyProof.Rows L2
def TbOk (tb : List Int) : Prop := (tb.length = 2 ∨ tb.length = 4 ∨ tb.length = 8) ∧ bitRow tb
theorem tb_at {tb : List Int} (h : bitRow tb) {i : Int} (h0 : 0 ≤ i) (h1 : i < (tb.length : Int)) : ∃ v : Int, atI (tb.map V.int) i = some (.int v) ∧ (v = 0 ∨ v = 1) := by
  have hl : i.toNat < tb.length := by omega
  refine ⟨tb[i.toNat], at_nn h0 (by rw [List.getElem?_map, List.getElem?_eq_getElem hl]; rfl), h _ (List.getElem_mem hl)⟩
theorem bit_snoc {r : List Int} {v : Int} (h : bitRow r) (hv : v = 0 ∨ v = 1) : bitRow (r ++ [v]) := fun x hx => by
  rcases List.mem_append.mp hx with z | z
  · exact h x z
  · rw [List.mem_singleton.mp z]
    exact hv
def words : List Str := ["and", "majority", "odd one", "all no"]
def wordVs : List V := [.str "all no", .str "all yes", .str "and", .str "or", .str "majority", .str "odd one"]
def wordIx (j : Nat) (w : Str) : Bool := (match wordVs[j]? with
  | some z => eqV z (.str w)
  | none => false) && (List.range j).all fun m => match wordVs[m]? with
    | some z => !eqV z (.str w)
    | none => true
theorem word_at : ∀ w ∈ words, (wordIx 0 w = true ∨ wordIx 2 w = true) ∨ wordIx 4 w = true ∨ wordIx 5 w = true := by decide +kernel
theorem wordIx_ok {j : Nat} {w : Str} (h : wordIx j w = true) : ∃ z, wordVs[j]? = some z ∧ eqV z (.str w) = true ∧ ∀ (m : Nat) (z' : V), m < j → wordVs[m]? = some z' → eqV z' (.str w) = false := by
  unfold wordIx at h
  rw [Bool.and_eq_true] at h
  obtain ⟨h1, h2⟩ := h
  cases e : wordVs[j]? with
  | none =>
    rw [e] at h1
    cases h1
  | some z =>
    rw [e] at h1
    refine ⟨z, rfl, h1, fun m z' hm hz => ?_⟩
    have := List.all_eq_true.mp h2 m (List.mem_range.mpr hm)
    rw [hz] at this
    exact Bool.not_eq_true' _ |>.mp this
section
variable {P : Program} {w : World} {K : PySem.W.Frag} {mg : Str → Option Value} {base : Heap}
/-! ### _law_table -/
def spTable (K : PySem.W.Frag) : Sp := fun vs H Q _ => ∃ (x : Str), vs = [.str x] ∧ x ∈ words ∧ ∀ H' t (tb : List Int), Same H H' → H' t = some (.tup (tb.map V.int)) → TbOk tb → Q (.ref t) H'
theorem ok_law_table (T : Txt K mg) : Ok P w K mg base 1 d_law_table ["_law_word"] (spTable K) := by
  refine T.F_law_table.ok sc_law_table (fun vs H Q E h => ?_) (fun cdv A outer s H vs Q E hr h => ?_)
  · obtain ⟨x, rfl, _⟩ := h
    rfl
  obtain ⟨x, rfl, hx, q⟩ := h
  refine ⟨_, PSs.nox (
  (pss_cons (ps_set (i := 1) sc_law_table.nd rfl (Or.inl rfl) (pe_lst (pa_cons (pe_tup (pa_cons pe_int (pa_cons pe_int pa_nil))) (pa_cons (pe_tup (pa_cons pe_int (pa_cons pe_int pa_nil))) (pa_cons (pe_tup (pa_cons pe_int (pa_cons pe_int (pa_cons pe_int (pa_cons pe_int pa_nil))))) (pa_cons (pe_tup (pa_cons pe_int (pa_cons pe_int (pa_cons pe_int (pa_cons pe_int pa_nil))))) (pa_cons (pe_tup (pa_cons pe_int (pa_cons pe_int (pa_cons pe_int (pa_cons pe_int (pa_cons pe_int (pa_cons pe_int (pa_cons pe_int (pa_cons pe_int pa_nil))))))))) (pa_cons (pe_tup (pa_cons pe_int (pa_cons pe_int (pa_cons pe_int (pa_cons pe_int (pa_cons pe_int (pa_cons pe_int (pa_cons pe_int (pa_cons pe_int pa_nil))))))))) pa_nil))))))))
    (pss_one (ps_ret (pe_ix ix_list (pv 1) (pe_bm PySem.F.plainAttrs_list PySem.F.slot_list_index PySem.F.type_list_index mt_index (pe_lst (pa_cons pe_str (pa_cons pe_str (pa_cons pe_str (pa_cons pe_str (pa_cons pe_str (pa_cons pe_str pa_nil))))))) (pa_cons (pv 0) pa_nil)) (fun _ _ => rfl)))))
  ), ?_⟩
  refine ⟨(by show 2 ≤ sizeLine; decide), fun T0 h0 => ⟨(by show 2 ≤ sizeLine; decide), fun T1 h1 => ⟨(by show 4 ≤ sizeLine; decide), fun T2 h2 => ⟨(by show 4 ≤ sizeLine; decide), fun T3 h3 => ⟨(by show 8 ≤ sizeLine; decide), fun T4 h4 => ⟨(by show 8 ≤ sizeLine; decide), fun T5 h5 => ⟨(by show 6 ≤ sizeLine; decide), fun L hL => ?_⟩⟩⟩⟩⟩⟩⟩
  have e0 : upd H T0 (.tup [.int 0, .int 0]) T0 = some (.tup (([0, 0] : List Int).map V.int)) := upd_same
  have s0 : Same H (upd H T0 (.tup [.int 0, .int 0])) := same_new _ h0
  generalize upd H T0 (.tup [.int 0, .int 0]) = H1 at *
  have s1 : Same H1 (upd H1 T1 (.tup [.int 1, .int 1])) := same_new _ h1
  generalize upd H1 T1 (.tup [.int 1, .int 1]) = H2 at *
  have e2 : upd H2 T2 (.tup [.int 0, .int 0, .int 0, .int 1]) T2 = some (.tup (([0, 0, 0, 1] : List Int).map V.int)) := upd_same
  have s2 : Same H2 (upd H2 T2 (.tup [.int 0, .int 0, .int 0, .int 1])) := same_new _ h2
  generalize upd H2 T2 (.tup [.int 0, .int 0, .int 0, .int 1]) = H3 at *
  have s3 : Same H3 (upd H3 T3 (.tup [.int 0, .int 1, .int 1, .int 1])) := same_new _ h3
  generalize upd H3 T3 (.tup [.int 0, .int 1, .int 1, .int 1]) = H4 at *
  have e4 : upd H4 T4 (.tup [.int 0, .int 0, .int 0, .int 1, .int 0, .int 1, .int 1, .int 1]) T4 = some (.tup (([0, 0, 0, 1, 0, 1, 1, 1] : List Int).map V.int)) := upd_same
  have s4 : Same H4 (upd H4 T4 (.tup [.int 0, .int 0, .int 0, .int 1, .int 0, .int 1, .int 1, .int 1])) := same_new _ h4
  generalize upd H4 T4 (.tup [.int 0, .int 0, .int 0, .int 1, .int 0, .int 1, .int 1, .int 1]) = H5 at *
  have e5 : upd H5 T5 (.tup [.int 0, .int 1, .int 1, .int 0, .int 1, .int 0, .int 0, .int 1]) T5 = some (.tup (([0, 1, 1, 0, 1, 0, 0, 1] : List Int).map V.int)) := upd_same
  have s5 : Same H5 (upd H5 T5 (.tup [.int 0, .int 1, .int 1, .int 0, .int 1, .int 0, .int 0, .int 1])) := same_new _ h5
  generalize upd H5 T5 (.tup [.int 0, .int 1, .int 1, .int 0, .int 1, .int 0, .int 0, .int 1]) = H6 at *
  have e6 : upd H6 L (.lst [.ref T0, .ref T1, .ref T2, .ref T3, .ref T4, .ref T5]) L = some (.lst [.ref T0, .ref T1, .ref T2, .ref T3, .ref T4, .ref T5]) := upd_same
  have s6 : Same H6 (upd H6 L (.lst [.ref T0, .ref T1, .ref T2, .ref T3, .ref T4, .ref T5])) := same_new _ hL
  generalize upd H6 L (.lst [.ref T0, .ref T1, .ref T2, .ref T3, .ref T4, .ref T5]) = H7 at *
  refine ⟨_, rfl, (by show 6 ≤ sizeLine; decide), fun M hM => ?_⟩
  have s7 : Same H7 (upd H7 M (.lst wordVs)) := same_new _ hM
  have e7 : upd H7 M (.lst wordVs) M = some (.lst wordVs) := upd_same
  have sA : Same H (upd H7 M (.lst wordVs)) := ((((((s0.trans s1).trans s2).trans s3).trans s4).trans s5).trans s6).trans s7
  have key : ∃ (j : Nat) (t : Addr) (tb : List Int), wordIx j x = true ∧ ([V.ref T0, .ref T1, .ref T2, .ref T3, .ref T4, .ref T5])[j]? = some (.ref t) ∧ H7 t = some (.tup (tb.map V.int)) ∧ TbOk tb := by
    rcases word_at x hx with (h | h) | h | h
    · exact ⟨0, T0, [0, 0], h, rfl, s6 _ _ (s5 _ _ (s4 _ _ (s3 _ _ (s2 _ _ (s1 _ _ e0))))), .inl rfl, by unfold bitRow; decide⟩
    · exact ⟨2, T2, [0, 0, 0, 1], h, rfl, s6 _ _ (s5 _ _ (s4 _ _ (s3 _ _ e2))), .inr (.inl rfl), by unfold bitRow; decide⟩
    · exact ⟨4, T4, [0, 0, 0, 1, 0, 1, 1, 1], h, rfl, s6 _ _ (s5 _ _ e4), .inr (.inr rfl), by unfold bitRow; decide⟩
    · exact ⟨5, T5, [0, 1, 1, 0, 1, 0, 0, 1], h, rfl, s6 _ _ e5, .inr (.inr rfl), by unfold bitRow; decide⟩
  obtain ⟨j, t, tb, hj, ht, htb, hok⟩ := key
  obtain ⟨z, hz1, hz2, hz3⟩ := wordIx_ok hj
  have e6' := s7 _ _ e6
  refine ⟨.inl ⟨rfl, _, .inl (.inl e7)⟩, _, rfl, M, wordVs, _, j, z, rfl, rfl, .inl (.inl e7), rfl, by decide, hz1, hz2, hz3, ?_⟩
  exact ⟨L, _, _, _, rfl, rfl, .inl (.inl e6'), atI_nat ht, q _ t tb sA (s7 _ _ htb) hok⟩
/-! ### _law_made -/
def spMade (K : PySem.W.Frag) : Sp := fun vs H Q _ => ∃ (t l : Addr) (tb : List Int) (xs : List V) (rows : List (List Int)) (n : Nat), vs = [.ref t, .ref l] ∧ H t = some (.tup (tb.map V.int)) ∧ bitRow tb ∧ H l = some (.lst xs) ∧ RowsP H xs rows ∧
  ((rows.length = 1 ∧ tb.length = 2) ∨ (rows.length = 2 ∧ tb.length = 4) ∨ (rows.length = 3 ∧ tb.length = 8)) ∧ (∀ r ∈ rows, r.length = n ∧ bitRow r) ∧ n ≤ 5 ∧ ∀ H' p (r : List Int), Same H H' → H' p = some (.tup (r.map V.int)) → r.length = n → bitRow r → Q (.ref p) H'
theorem ok_law_made (T : Txt K mg) : Ok P w K mg base 1 d_law_made ["_law_table_here", "_law_rows"] (spMade K) := by
  refine T.F_law_made.ok sc_law_made (fun vs H Q E h => ?_) (fun cdv A outer s H vs Q E hr h => ?_)
  · obtain ⟨t, l, tb, xs, rows, n, rfl, _⟩ := h
    rfl
  obtain ⟨t, l, tb, xs, rows, n, rfl, ht, htb, hl, hR, hlen, hrow, hn, q⟩ := h
  refine ⟨_, PSs.nox (
  (pss_cons (ps_if (pt_cmpR op_eq (pe_callB call_len_seq (by rfl) T.z_len PySem.boot_len (pa_cons (pv 1) pa_nil)) pe_int (nomark _))
      (pss_one (ps_ret (pe_callTy call_tuple_of (by rfl) T.z_tuple (by decide +kernel) (pa_cons (pe_lc (own := [("_law_x", 2)]) rfl sc_law_made.nd (pi_tup (pe_ix ix_list (pv 1) pe_int (fun _ _ => rfl))) (blkOk_by (own := [("_law_x", 2)]) (N := ["_law_table_here", "_law_rows", "_law_x", "_law_y", "_law_z"]) (sc := defScope s_law_made) (by decide +kernel)) (fun _ _ _ _ _ => (pg_name (i := 2) sc_law_made.nd rfl (Or.inl rfl))) (fun _ _ _ _ _ => pts_nil) (fun _ _ _ _ _ => (pe_ix (ix_tupK (K := K) rfl) (pv 0) (pv 2) (fun _ _ => rfl)))) pa_nil))))
      pss_nil)
    (pss_cons (ps_if (pt_cmpR op_eq (pe_callB call_len_seq (by rfl) T.z_len PySem.boot_len (pa_cons (pv 1) pa_nil)) pe_int (nomark _))
      (pss_one (ps_ret (pe_callTy call_tuple_of (by rfl) T.z_tuple (by decide +kernel) (pa_cons (pe_lc (own := [("_law_x", 2), ("_law_y", 3)]) rfl sc_law_made.nd (RZ.pi_zipA (by rfl) T.z_zip (pa_cons (pe_ix ix_list (pv 1) pe_int (fun _ _ => rfl)) (pa_cons (pe_ix ix_list (pv 1) pe_int (fun _ _ => rfl)) pa_nil))) (blkOk_by (own := [("_law_x", 2), ("_law_y", 3)]) (N := ["_law_table_here", "_law_rows", "_law_x", "_law_y", "_law_z"]) (sc := defScope s_law_made) (by decide +kernel)) (fun _ _ _ _ _ => (pg_tupK (n := 2) (K := K) rfl rfl (pgs_cons (pg_name (i := 2) sc_law_made.nd rfl (Or.inl rfl)) (pgs_cons (pg_name (i := 3) sc_law_made.nd rfl (Or.inl rfl)) pgs_nil)))) (fun _ _ _ _ _ => pts_nil) (fun _ _ _ _ _ => (pe_ix (ix_tupK (K := K) rfl) (pv 0) (pe_op op_add (pe_op op_mul pe_int (pv 2)) (pv 3)) (fun _ _ => rfl)))) pa_nil))))
      pss_nil)
    (pss_one (ps_ret (pe_callTy call_tuple_of (by rfl) T.z_tuple (by decide +kernel) (pa_cons (pe_lc (own := [("_law_x", 2), ("_law_y", 3), ("_law_z", 4)]) rfl sc_law_made.nd (pi_zip3 (by rfl) T.z_zip (pa_cons (pe_ix ix_list (pv 1) pe_int (fun _ _ => rfl)) (pa_cons (pe_ix ix_list (pv 1) pe_int (fun _ _ => rfl)) (pa_cons (pe_ix ix_list (pv 1) pe_int (fun _ _ => rfl)) pa_nil)))) (blkOk_by (own := [("_law_x", 2), ("_law_y", 3), ("_law_z", 4)]) (N := ["_law_table_here", "_law_rows", "_law_x", "_law_y", "_law_z"]) (sc := defScope s_law_made) (by decide +kernel)) (fun _ _ _ _ _ => (pg_tupK (n := 3) (K := K) rfl rfl (pgs_cons (pg_name (i := 2) sc_law_made.nd rfl (Or.inl rfl)) (pgs_cons (pg_name (i := 3) sc_law_made.nd rfl (Or.inl rfl)) (pgs_cons (pg_name (i := 4) sc_law_made.nd rfl (Or.inl rfl)) pgs_nil))))) (fun _ _ _ _ _ => pts_nil) (fun _ _ _ _ _ => (pe_ix (ix_tupK (K := K) rfl) (pv 0) (pe_op op_add (pe_op op_add (pe_op op_mul pe_int (pv 2)) (pe_op op_mul pe_int (pv 3))) (pv 4)) (fun _ _ => rfl)))) pa_nil))))))
  ), ?_⟩
  have hxl := hR.1
  have at_ : ∀ {j : Nat} {r : List Int}, rows[j]? = some r → ∃ b, atI xs (j : Int) = some (.ref b) ∧ H b = some (.tup (r.map V.int)) ∧ r.length = n ∧ bitRow r := fun {j r} hr => by
    obtain ⟨b, q1, q2⟩ := hR.2 j r hr
    obtain ⟨q3, q4⟩ := hrow r (List.mem_of_getElem? hr)
    exact ⟨b, atI_nat q1, q2, q3, q4⟩
  have bit : ∀ {r : List Int} {j : Nat} {z : V}, bitRow r → (r.map V.int)[j]? = some z → ∃ y : Int, z = .int y ∧ (y = 0 ∨ y = 1) := fun {r j z} hb hz => by
    rw [List.getElem?_map] at hz
    obtain ⟨y, hy, rfl⟩ := Option.map_eq_some_iff.mp hz
    exact ⟨y, rfl, hb y (List.mem_of_getElem? hy)⟩
  refine ⟨_, rfl, l, xs, rfl, .inl (.inl (.inl hl)), rfl, _, rfl, ?_⟩
  rw [dec_eq, hxl]
  rcases hlen with ⟨h1, h2⟩ | ⟨h1, h2⟩ | ⟨h1, h2⟩
  · refine ifT (decide_eq_true (by omega)) ?_
    match rows, h1 with
    | [r0], _ =>
    obtain ⟨b0, a0, hb0, hl0, hbit0⟩ := at_ (j := 0) (r := r0) rfl
    refine ⟨_, rfl, l, _, 0, _, rfl, rfl, .inl (.inl hl), a0, b0, rfl, ⟨_, .inl (.inl hb0)⟩, fun D hD => lc_tup (xs := r0.map V.int) (fun j H' => Same H H' ∧ ∃ out : List Int, H' D = some (.lst (out.map V.int)) ∧ out.length = j ∧ bitRow out)
      ⟨same_new _ hD, [], upd_same, rfl, fun v h => (nomatch h)⟩ (fun j H' _ h => .inl (.inl (h.1 _ _ hb0))) ?_ ?_⟩
    · rintro j x H1 hj ⟨s1, out, ho, hol, hob⟩
      have hjl := (List.getElem?_eq_some_iff.mp hj).1
      rw [List.length_map] at hjl
      obtain ⟨y, rfl, hy⟩ := bit hbit0 hj
      obtain ⟨v, hv, hvb⟩ := tb_at htb (i := y) (by omega) (by omega)
      refine ⟨rfl, _, rfl, _, rfl, t, _, y, _, rfl, rfl, .inl (.inl (s1 _ _ ht)), hv, _, ho, small1000 (by rw [List.length_map]; omega), same_mut _ s1 hD, out ++ [v], ?_, by rw [List.length_append, hol]; rfl, bit_snoc hob hvb⟩
      rw [upd_same, List.map_append]
      rfl
    · rintro H1 ⟨s1, out, ho, hol, hob⟩
      rw [List.length_map] at hol
      exact ⟨D, _, rfl, .inl ⟨.inl (.inl ho), fun p hp => q _ p out (same_nw _ s1 hp) upd_same (by omega) hob⟩⟩
  · refine ifF (decide_eq_false (by omega)) ?_
    refine ⟨_, rfl, l, xs, rfl, .inl (.inl (.inl hl)), rfl, _, rfl, ?_⟩
    rw [dec_eq, hxl]
    refine ifT (decide_eq_true (by omega)) ?_
    match rows, h1 with
    | [r0, r1], _ =>
    obtain ⟨b0, a0, hb0, hl0, hbit0⟩ := at_ (j := 0) (r := r0) rfl
    obtain ⟨b1, a1, hb1, hl1, hbit1⟩ := at_ (j := 1) (r := r1) rfl
    refine ⟨_, rfl, l, _, 0, _, rfl, rfl, .inl (.inl hl), a0, _, rfl, l, _, 1, _, rfl, rfl, .inl (.inl hl), a1, b0, b1, _, _, rfl, .inr ⟨.inl (.inl hb0), .inl (.inl hb1), fun D hD => lc_it (walk_zipT (n := n) (by rw [List.length_map, List.length_map]; omega)) (fun j H' => Same H H' ∧ ∃ out : List Int, H' D = some (.lst (out.map V.int)) ∧ out.length = j ∧ bitRow out)
      ⟨same_new _ hD, [], upd_same, rfl, fun v h => (nomatch h)⟩ (fun j H' _ h => ⟨.inl (.inl (h.1 _ _ hb0)), .inl (.inl (h.1 _ _ hb1))⟩) ?_ ?_⟩⟩
    · rintro j x H1 H2 hj ⟨s1, out, ho, hol, hob⟩ ⟨T1, x1, x2, rfl, hT1, rfl, e1, e2⟩
      obtain ⟨y, rfl, hy⟩ := bit hbit0 e1
      obtain ⟨z, rfl, hz⟩ := bit hbit1 e2
      have s2 : Same H (upd H1 T1 (.tup [.int y, .int z])) := same_nw _ s1 hT1
      obtain ⟨v, hv, hvb⟩ := tb_at htb (i := 2 * y + z) (by omega) (by omega)
      refine ⟨T1, _, rfl, .inl (.inl upd_same), rfl, _, _, rfl, _, _, rfl, rfl, rfl, ?_⟩
      refine ⟨_, rfl, _, rfl, _, _, rfl, rfl, .inl ⟨by decide, by decide⟩, _, rfl, _, _, rfl, rfl, t, _, _, _, rfl, rfl, .inl (.inl (s2 _ _ ht)), hv, _, same_new _ hT1 _ _ ho, small1000 (by rw [List.length_map]; omega), same_mut _ s2 hD, out ++ [v], ?_, by rw [List.length_append, hol]; rfl, bit_snoc hob hvb⟩
      rw [upd_same, List.map_append]
      rfl
    · rintro H1 ⟨s1, out, ho, hol, hob⟩
      exact ⟨D, _, rfl, .inl ⟨.inl (.inl ho), fun p hp => q _ p out (same_nw _ s1 hp) upd_same (by omega) hob⟩⟩
  · refine ifF (decide_eq_false (by omega)) ?_
    refine ⟨_, rfl, l, xs, rfl, .inl (.inl (.inl hl)), rfl, _, rfl, ?_⟩
    rw [dec_eq, hxl]
    refine ifF (decide_eq_false (by omega)) ?_
    match rows, h1 with
    | [r0, r1, r2], _ =>
    obtain ⟨b0, a0, hb0, hl0, hbit0⟩ := at_ (j := 0) (r := r0) rfl
    obtain ⟨b1, a1, hb1, hl1, hbit1⟩ := at_ (j := 1) (r := r1) rfl
    obtain ⟨b2, a2, hb2, hl2, hbit2⟩ := at_ (j := 2) (r := r2) rfl
    refine ⟨_, rfl, l, _, 0, _, rfl, rfl, .inl (.inl hl), a0, _, rfl, l, _, 1, _, rfl, rfl, .inl (.inl hl), a1, _, rfl, l, _, 2, _, rfl, rfl, .inl (.inl hl), a2, b0, b1, b2, _, _, _, rfl, .inl (.inl hb0), .inl (.inl hb1), .inl (.inl hb2), fun D hD => lc_it (walk_zipT3 (n := n) (by rw [List.length_map, List.length_map, List.length_map]; omega)) (fun j H' => Same H H' ∧ ∃ out : List Int, H' D = some (.lst (out.map V.int)) ∧ out.length = j ∧ bitRow out)
      ⟨same_new _ hD, [], upd_same, rfl, fun v h => (nomatch h)⟩ (fun j H' _ h => ⟨.inl (.inl (h.1 _ _ hb0)), .inl (.inl (h.1 _ _ hb1)), .inl (.inl (h.1 _ _ hb2))⟩) ?_ ?_⟩
    · rintro j x H1 H2 hj ⟨s1, out, ho, hol, hob⟩ ⟨T1, x1, x2, x3, rfl, hT1, rfl, e1, e2, e3⟩
      obtain ⟨y, rfl, hy⟩ := bit hbit0 e1
      obtain ⟨z, rfl, hz⟩ := bit hbit1 e2
      obtain ⟨u, rfl, hu⟩ := bit hbit2 e3
      have s2 : Same H (upd H1 T1 (.tup [.int y, .int z, .int u])) := same_nw _ s1 hT1
      obtain ⟨v, hv, hvb⟩ := tb_at htb (i := 4 * y + 2 * z + u) (by omega) (by omega)
      refine ⟨T1, _, rfl, .inl (.inl upd_same), rfl, _, _, rfl, _, _, rfl, _, _, rfl, rfl, rfl, ?_⟩
      refine ⟨_, rfl, _, rfl, _, _, rfl, rfl, .inl ⟨by decide, by decide⟩, _, rfl, _, _, rfl, rfl, .inl ⟨by decide, by decide⟩, _, _, rfl, rfl, _, rfl, _, _, rfl, rfl, t, _, _, _, rfl, rfl, .inl (.inl (s2 _ _ ht)), hv, _, same_new _ hT1 _ _ ho, small1000 (by rw [List.length_map]; omega), same_mut _ s2 hD, out ++ [v], ?_, by rw [List.length_append, hol]; rfl, bit_snoc hob hvb⟩
      rw [upd_same, List.map_append]
      rfl
    · rintro H1 ⟨s1, out, ho, hol, hob⟩
      exact ⟨D, _, rfl, .inl ⟨.inl (.inl ho), fun p hp => q _ p out (same_nw _ s1 hp) upd_same (by omega) hob⟩⟩
end
end EC


set_option Elab.async false
set_option linter.all false
set_option maxRecDepth 100000
set_option maxHeartbeats 4000000
namespace EC
open PySem PySem.Spec PyProof.Rows L2
theorem u65 {A : Around} {k : Nat} (hr : Room k A) : A.units + 65 < cLine := by
  have := hr.un
  omega
theorem eqvAll_ints : ∀ a b : List Int, PyData.eqvAll (a.map .int) (b.map .int) = decide (a = b)
  | [], [] => by simp [PyData.eqvAll]
  | [], _ :: _ => by simp [PyData.eqvAll]
  | _ :: _, [] => by simp [PyData.eqvAll]
  | x :: a, y :: b => by
    simp only [List.map_cons, PyData.eqvAll, PyData.eqv, eqvAll_ints a b, List.cons.injEq, Bool.decide_and]
    rw [Bool.beq_eq_decide_eq]
theorem eqv_rows (a b : List Int) : PyData.eqv (eI a) (eI b) = decide (a = b) := by
  unfold eI
  simp only [PyData.eqv]
  exact eqvAll_ints a b
theorem any_rows (rows : List (List Int)) (r : List Int) : ((rows.map eI).any fun z => PyData.eqv z (eI r)) = decide (r ∈ rows) := by
  rw [List.any_map]
  by_cases h : r ∈ rows
  · rw [decide_eq_true h]
    exact List.any_eq_true.mpr ⟨r, h, by show PyData.eqv (eI r) (eI r) = true; rw [eqv_rows]; exact decide_eq_true rfl⟩
  · rw [decide_eq_false h]
    refine Bool.eq_false_iff.mpr fun e => h ?_
    obtain ⟨x, hx, ex⟩ := List.any_eq_true.mp e
    have ex' : PyData.eqv (eI x) (eI r) = true := ex
    rw [eqv_rows] at ex'
    rw [← of_decide_eq_true ex']
    exact hx
theorem fine_ints {r : List Int} (h : r.length ≤ 100) (n : Nat) : fine (n + 1) (eI r) := by
  refine ⟨by rw [List.length_map]; exact h, fun d hd => ?_⟩
  obtain ⟨i, _, rfl⟩ := List.mem_map.mp hd
  cases n <;> trivial
theorem shaped_row {r : List Int} (h : r.length ≤ 100) : SeqAt.shaped (eI r) = true := fine_shaped (fine_ints h 0) (by decide)
theorem shaped_rows {rows : List (List Int)} (h : rows.length ≤ 100) (h2 : ∀ r ∈ rows, r.length ≤ 100) : SeqAt.shaped (.list (rows.map eI)) = true := by
  refine fine_shaped (n := 2) ⟨by rw [List.length_map]; exact h, fun d hd => ?_⟩ (by decide)
  obtain ⟨r, hr, rfl⟩ := List.mem_map.mp hd
  exact fine_ints (h2 r hr) 0
theorem at_last {c : List Int} (hne : c ≠ []) : atI (c.map V.int) (-1) = some (V.int (c.getLast hne)) := by
  have e : c.map V.int = c.dropLast.map V.int ++ [V.int (c.getLast hne)] := (congrArg (List.map V.int) (List.dropLast_concat_getLast hne).symm).trans (by rw [List.map_append]; rfl)
  rw [e]
  exact atI_last _ _
section
variable {P : Program} {w : World} {K : PySem.W.Frag} {mg : Str → Option Value} {base : Heap}
/-! ### _law_chosen -/
def Arity (tb : List Int) (ar : Nat) : Prop := (tb.length = 2 ∧ ar = 1) ∨ (tb.length = 4 ∧ ar = 2) ∨ (tb.length = 8 ∧ ar = 3)
def spChosen (K : PySem.W.Frag) : Sp := fun vs H Q _ => ∃ (l t : Addr) (tb : List Int) (m ar : Nat), vs = [.ref l, .ref t] ∧ H l = some (.lst ((List.range m).map fun i : Nat => V.int (i : Int))) ∧ m ≤ 32 ∧ H t = some (.tup (tb.map V.int)) ∧ Arity tb ar ∧
  ∀ H' L xs (ts : List (List Int)), Same H H' → H L = none → H' L = some (.lst xs) → RowsP H' xs ts → (∀ c ∈ ts, c.length = ar ∧ ∀ k ∈ c, 0 ≤ k ∧ k < (m : Int)) → Q (.ref L) H'
theorem ok_law_chosen (T : Txt K mg) : Ok P w K mg base 1 d_law_chosen ["_law_rows", "_law_table_here"] (spChosen K) := by
  refine T.F_law_chosen.ok sc_law_chosen (fun vs H Q E h => ?_) (fun cdv A outer s H vs Q E hr h => ?_)
  · obtain ⟨l, t, tb, m, ar, rfl, _⟩ := h
    rfl
  obtain ⟨l, t, tb, m, ar, rfl, hl, hm, ht, har, q⟩ := h
  refine ⟨_, PSs.nox (
  (pss_cons (ps_set (i := 2) sc_law_chosen.nd rfl (Or.inl rfl) (pe_lst (pa_cons (pe_tup pa_nil) pa_nil)))
    (pss_cons (ps_for PassesOwn.never rfl (pi_range1 (by rfl) T.z_range (pa_cons (pe_op op_add (pe_bm PySem.F.plainAttrs_list PySem.F.slot_list_index PySem.F.type_list_index mt_index (pe_lst (pa_cons pe_int (pa_cons pe_int (pa_cons pe_int pa_nil)))) (pa_cons (pe_callB call_len_seq (by rfl) T.z_len PySem.boot_len (pa_cons (pv 1) pa_nil)) pa_nil)) pe_int) pa_nil)) (pg_name (i := 3) sc_law_chosen.nd rfl (Or.inl rfl))
      (pss_cons (ps_set (i := 4) sc_law_chosen.nd rfl (Or.inl rfl) (pe_lst pa_nil))
      (pss_cons (ps_for PassesOwn.never rfl (pi_list (pv 2)) (pg_name (i := 5) sc_law_chosen.nd rfl (Or.inr rfl))
        (pss_one (ps_set (i := 4) sc_law_chosen.nd rfl (Or.inl rfl) (pe_op op_cat (pv 4) (pe_lc (own := [("_law_row", 6)]) rfl sc_law_chosen.nd (pi_list (pv 0)) (blkOk_by (own := [("_law_row", 6)]) (N := ["_law_rows", "_law_table_here", "_law_chosen_here", "_law_k", "_law_longer", "_law_some", "_law_row"]) (sc := defScope s_law_chosen) (by decide +kernel)) (fun _ _ _ _ _ => (pg_name (i := 6) sc_law_chosen.nd rfl (Or.inl rfl))) (fun _ _ _ _ _ => pts_one (PW.pt (pw_or (pt_cmpR op_eq (pe_callB (call_len_seqK (K := K) rfl) (by rfl) T.z_len PySem.boot_len (pa_cons (pv 5) pa_nil)) pe_int (nomark _)) (pw_or1 (pt_cmpR op_ge (pv 6) (pe_ix (ix_tupK (K := K) rfl) (pv 5) (pe_un un_neg pe_int) (fun _ _ => rfl)) (nomark _)))))) (fun _ _ _ _ _ => (pe_op (op_catAK (K := K) rfl) (pv 5) (pe_tup (pa_cons (pv 6) pa_nil)))))))))
      (pss_one (ps_set (i := 2) sc_law_chosen.nd rfl (Or.inl rfl) (pv 4))))))
    (pss_one (ps_ret (pv 2)))))
  ), ?_⟩
  refine ⟨(by show 0 ≤ sizeLine; exact Nat.zero_le _), fun T0 hT0 => ⟨(by show 1 ≤ sizeLine; decide), fun L0 hL0 => ?_⟩⟩
  have s1 : Same H (upd H T0 (.tup [])) := same_new _ hT0
  have hL0' : H L0 = none := same_free s1 hL0
  have h0 : RowsP (upd (upd H T0 (.tup [])) L0 (.lst [.ref T0])) [.ref T0] [[]] := .one (same_new _ hL0 _ _ upd_same)
  have sA : Same H (upd (upd H T0 (.tup [])) L0 (.lst [.ref T0])) := same_nw _ s1 hL0
  have hL0l : (upd (upd H T0 (.tup [])) L0 (.lst [.ref T0])) L0 = some (.lst [.ref T0]) := upd_same
  generalize upd (upd H T0 (.tup [])) L0 (.lst [.ref T0]) = HA at h0 sA hL0l ⊢
  refine ⟨(by show 3 ≤ sizeLine; decide), fun M hM => ?_⟩
  have s2 : Same HA (upd HA M (.lst [.int 2, .int 4, .int 8])) := same_new _ hM
  have hMl : (upd HA M (.lst [.int 2, .int 4, .int 8])) M = some (.lst [.int 2, .int 4, .int 8]) := upd_same
  generalize upd HA M (.lst [.int 2, .int 4, .int 8]) = HB at s2 hMl ⊢
  have sB := sA.trans s2
  have key : ∃ j : Nat, ([V.int 2, .int 4, .int 8])[j]? = some (.int (tb.length : Int)) ∧ (∀ (i : Nat) (z' : V), i < j → ([V.int 2, .int 4, .int 8])[i]? = some z' → eqV z' (.int (tb.length : Int)) = false) ∧ j + 1 = ar := by
    rcases har with ⟨h1, h2⟩ | ⟨h1, h2⟩ | ⟨h1, h2⟩
    · exact ⟨0, by rw [h1]; rfl, fun i z' hi => by omega, h2.symm⟩
    · refine ⟨1, by rw [h1]; rfl, fun i z' hi hz => ?_, h2.symm⟩
      have : i = 0 := by omega
      subst this
      cases hz
      rw [eqV_int, h1]
      rfl
    · refine ⟨2, by rw [h1]; rfl, fun i z' hi hz => ?_, h2.symm⟩
      have : i = 0 ∨ i = 1 := by omega
      rcases this with rfl | rfl
      · cases hz
        rw [eqV_int, h1]
        rfl
      · cases hz
        rw [eqV_int, h1]
        rfl
  obtain ⟨j, hj1, hj2, hj3⟩ := key
  refine ⟨.inl ⟨rfl, _, .inl (.inl hMl)⟩, _, rfl, t, _, rfl, .inr (.inl (.inl (sB _ _ ht))), ?_⟩
  rw [List.length_map]
  refine ⟨M, _, _, j, _, rfl, rfl, .inl (.inl hMl), rfl, rfl, hj1, by rw [eqV_int]; exact decide_eq_true rfl, hj2, _, _, rfl, rfl, ?_⟩
  have ear : ((j : Int) + 1).toNat = ar := by omega
  have har3 : ar ≤ 3 := by
    rcases har with ⟨_, h2⟩ | ⟨_, h2⟩ | ⟨_, h2⟩ <;> omega
  have hpow : ∀ i, i ≤ 3 → m ^ i ≤ 32768 := fun i hi => Nat.le_trans (Nat.pow_le_pow_left hm i) (Nat.le_trans (Nat.pow_le_pow_right (by decide) hi) (by decide))
  refine ⟨_, rfl, by omega, by omega, for_range (n := ((j : Int) + 1).toNat) (fun i σ H' => ∃ (o3 o4 o5 o6 : Option V) (L : Addr) (xs : List V) (ts : List (List Int)), σ = [some (.ref l), some (.ref t), some (.ref L), o3, o4, o5, o6] ∧ Same H H' ∧ H L = none ∧ H' L = some (.lst xs) ∧ RowsP H' xs ts ∧ (∀ c ∈ ts, c.length = i ∧ ∀ k ∈ c, 0 ≤ k ∧ k < (m : Int)) ∧ ts.length ≤ m ^ i)
    ⟨_, _, _, _, L0, _, [[]], rfl, sB, hL0', s2 _ _ hL0l, h0.im (im_same s2), fun c hc => by rw [List.mem_singleton.mp hc]; exact ⟨rfl, fun k h => (nomatch h)⟩, by simp⟩ ?_ ?_⟩
  · rintro i σ H1 hi ⟨o3, o4, o5, o6, L, xs, ts, rfl, s1, hLn, hL, hR, hts, htl⟩
    have hxl := hR.1
    have hp1 := hpow i (by omega)
    have hp2 := hpow (i + 1) (by omega)
    refine ⟨(by show 0 ≤ sizeLine; exact Nat.zero_le _), fun M0 hM0 => ?_⟩
    have s2 : Same H1 (upd H1 M0 (.lst [])) := same_new _ hM0
    refine ⟨_, rfl, L, rfl, ⟨_, .inl (.inl (s2 _ _ hL))⟩, for_list (xs := xs) (fun j σ H' => ∃ (o5 o6 : Option V) (M : Addr) (ys : List V) (us : List (List Int)), σ = [some (.ref l), some (.ref t), some (.ref L), some (.int (0 + (i : Nat))), some (.ref M), o5, o6] ∧ Same H1 H' ∧ H1 M = none ∧ H' M = some (.lst ys) ∧ RowsP H' ys us ∧ (∀ c ∈ us, c.length = i + 1 ∧ ∀ k ∈ c, 0 ≤ k ∧ k < (m : Int)) ∧ us.length ≤ m * j)
      ⟨_, _, M0, [], [], rfl, s2, hM0, upd_same, RowsP.nil, fun c h => (nomatch h), Nat.zero_le _⟩ (fun j σ H' _ h => by obtain ⟨_, _, _, _, _, _, e, _⟩ := h; exact .inl (.inl (e _ _ hL))) ?_ ?_⟩
    · rintro j x σ H2 hj ⟨o5, o6, M, ys, us, rfl, s2, hMn, hM, hRy, hus, hul⟩
      have hjl := (List.getElem?_eq_some_iff.mp hj).1
      have hjr : j < ts.length := by omega
      have hrj := List.getElem?_eq_getElem hjr
      obtain ⟨hc1, hc2⟩ := hts _ (List.getElem_mem hjr)
      obtain ⟨b, hb1, hb2⟩ := hR.2 j _ hrj
      rw [hj] at hb1
      cases hb1
      generalize ts[j] = c at hrj hc1 hc2 hb2
      have hl2 : H2 l = some (.lst ((List.range m).map fun i : Nat => V.int (i : Int))) := (s1.trans s2) _ _ hl
      have hb22 := s2 _ _ hb2
      refine ⟨_, rfl, _, rfl, l, rfl, ⟨_, .inl (.inl hl2)⟩, fun D hD => lc_list (xs := (List.range m).map fun i : Nat => V.int (i : Int)) (fun g H' => Same H2 H' ∧ ∃ (acc : List V) (ws : List (List Int)), H' D = some (.lst acc) ∧ RowsP H' acc ws ∧ (∀ c ∈ ws, c.length = i + 1 ∧ ∀ k ∈ c, 0 ≤ k ∧ k < (m : Int)) ∧ ws.length ≤ g)
        ⟨same_new _ hD, [], [], upd_same, RowsP.nil, fun c h => (nomatch h), Nat.le_refl _⟩ (fun g H' _ h => .inl (.inl (h.1 _ _ hl2))) ?_ ?_⟩
      · rintro g x H3 hg ⟨s3, acc, ws, hacc, hRw, hws, hwl⟩
        rw [List.getElem?_map] at hg
        obtain ⟨g', hg', rfl⟩ := Option.map_eq_some_iff.mp hg
        obtain ⟨hgl, hge⟩ := List.getElem?_eq_some_iff.mp hg'
        rw [List.length_range] at hgl
        have hgg : g' = g := by
          rw [← hge, List.getElem_range]
        subst hgg
        have hb3 := s3 _ _ hb22
        have hwa := hRw.1
        have grow : ∃ acc', H3 D = some (.lst acc') ∧ True := ⟨acc, hacc, trivial⟩
        have add : ∀ Q' : VK, (∀ p H', Same H3 H' → H' p = some (.tup ((c ++ [(g' : Int)]).map V.int)) → Q' (.ref p) H') → tOp (rCatA K) (tVar 5) (tTup (tCons (tVar 6) tNil)) [some (.ref l), some (.ref t), some (.ref L), some (.int (0 + (i : Nat))), some (.ref M), some (.ref b), some (.int (g' : Int))] H3 Q' := fun Q' h => by
          refine ⟨_, rfl, _, rfl, (by show 1 ≤ sizeLine; decide), fun T1 hT1 => cat_row (r := c) (v := (g' : Int)) (same_new _ hT1 _ _ hb3) upd_same (by omega) fun p1 H4 s4 hp1 => h p1 H4 ((same_new _ hT1).trans s4) hp1⟩
        have fin : ∀ p H', Same H3 H' → H' p = some (.tup ((c ++ [(g' : Int)]).map V.int)) → ∃ acc, H' D = some (.lst acc) ∧ acc.length < sizeLine ∧ (Same H2 (upd H' D (.lst (acc ++ [.ref p]))) ∧ ∃ (acc' : List V) (ws : List (List Int)), (upd H' D (.lst (acc ++ [.ref p]))) D = some (.lst acc') ∧ RowsP (upd H' D (.lst (acc ++ [.ref p]))) acc' ws ∧ (∀ c ∈ ws, c.length = i + 1 ∧ ∀ k ∈ c, 0 ≤ k ∧ k < (m : Int)) ∧ ws.length ≤ g' + 1) := fun p H' s4 hp => by
          have hacc' := s4 _ _ hacc
          have im : Im H' (upd H' D (.lst (acc ++ [.ref p]))) := im_mut _ hacc' rfl
          refine ⟨acc, hacc', small1000 (by omega), same_mut _ (s3.trans s4) hD, _, ws ++ [c ++ [(g' : Int)]], upd_same, ((hRw.im (im_same s4)).im im).snoc (im _ _ rfl hp), fun d hd => ?_, by rw [List.length_append]; exact Nat.succ_le_succ hwl⟩
          rcases List.mem_append.mp hd with z | z
          · exact hws d z
          · rw [List.mem_singleton.mp z]
            refine ⟨by rw [List.length_append, hc1]; rfl, fun k hk => ?_⟩
            rcases List.mem_append.mp hk with z | z
            · exact hc2 k z
            · rw [List.mem_singleton.mp z]
              omega
        refine ⟨rfl, _, rfl, b, _, rfl, .inr (.inl (.inl hb3)), rfl, _, rfl, ?_⟩
        rw [List.length_map, dec_eq]
        by_cases hi0 : c.length = 0
        · refine ifT (decide_eq_true (by omega)) ?_
          refine iteT (add _ fun p H' s4 hp => ?_)
          exact fin p H' s4 hp
        · refine ifF (decide_eq_false (by omega)) ?_
          have hne : c ≠ [] := fun e => hi0 (by rw [e]; rfl)
          have hlast := at_last hne
          refine ⟨_, rfl, _, rfl, _, rfl, b, _, _, _, rfl, rfl, .inl (.inl hb3), hlast, _, _, rfl, rfl, _, rfl, ?_⟩
          by_cases hle : c.getLast hne ≤ (g' : Int)
          · refine ifT (decide_eq_true hle) ?_
            exact add _ fun p H' s4 hp => fin p H' s4 hp
          · refine ifF (decide_eq_false hle) ?_
            exact ⟨s3, acc, ws, hacc, hRw, hws, by omega⟩
      · rintro H3 ⟨s3, acc, ws, hacc, hRw, hws, hwl⟩
        rw [List.length_map, List.length_range] at hwl
        have hwa := hRw.1
        have hya := hRy.1
        have hul2 : us.length ≤ m * (ts.length - 1) := Nat.le_trans hul (Nat.mul_le_mul_left m (by omega))
        have hmt : m * ts.length ≤ m ^ (i + 1) := by
          rw [Nat.pow_succ, Nat.mul_comm]
          exact Nat.mul_le_mul_right m htl
        have hmj : m * (j + 1) ≤ m * ts.length := Nat.mul_le_mul_left m (by omega)
        rw [Nat.mul_succ] at hmj
        refine ⟨M, D, ys, acc, rfl, rfl, s3 _ _ hM, hacc, Nat.le_of_lt (small1e6 (by omega)), fun p hp => ?_⟩
        have s4 : Same H3 (upd H3 p (.lst (ys ++ acc))) := same_new _ hp
        refine ⟨_, _, p, _, us ++ ws, rfl, s2.trans (s3.trans s4), same_free (s2.trans s3) hp, upd_same, (hRy.im (im_same (s3.trans s4))).append (hRw.im (im_same s4)), fun d hd => ?_, ?_⟩
        · rcases List.mem_append.mp hd with z | z
          · exact hus d z
          · exact hws d z
        · rw [List.length_append, Nat.mul_succ]
          omega
    · rintro σ H2 ⟨o5, o6, M, ys, us, rfl, s2, hMn, hM, hRy, hus, hul⟩
      refine ⟨_, rfl, _, _, _, _, M, ys, us, rfl, s1.trans s2, same_free s1 hMn, hM, hRy, hus, ?_⟩
      rw [hxl] at hul
      refine Nat.le_trans hul ?_
      rw [Nat.pow_succ, Nat.mul_comm]
      exact Nat.mul_le_mul_right m htl
  · rintro σ H1 ⟨o3, o4, o5, o6, L, xs, ts, rfl, s1, hLn, hL, hR, hts, htl⟩
    rw [ear] at hts
    exact ⟨_, rfl, q _ L xs ts s1 hLn hL hR hts⟩
end
end EC


set_option Elab.async false
set_option linter.all false
set_option maxRecDepth 100000
set_option maxHeartbeats 4000000
namespace EC
open PySem PySem.Spec PyProof.Rows L2
theorem nodup_le {α : Type} [DecidableEq α] : ∀ {l m : List α}, l.Nodup → (∀ x ∈ l, x ∈ m) → l.length ≤ m.length
  | [], _, _, _ => Nat.zero_le _
  | a :: l, m, h, k => by
    rw [List.nodup_cons] at h
    have ha := k a List.mem_cons_self
    have h1 : l.length ≤ (m.erase a).length := nodup_le h.2 fun x hx => (List.mem_erase_of_ne (by rintro rfl; exact h.1 hx)).mpr (k x (List.mem_cons_of_mem _ hx))
    have h2 := List.length_erase_of_mem ha
    have h3 := List.length_pos_of_mem ha
    rw [List.length_cons]
    omega
/-- rows of one size, of bits, each once -/
def RowsG (n : Nat) (rows : List (List Int)) : Prop := rows.Nodup ∧ ∀ r ∈ rows, r.length = n ∧ bitRow r
theorem RowsG.len {n : Nat} {rows : List (List Int)} (h : RowsG n rows) (hn : n ≤ 4) : rows.length ≤ 16 := by
  have h1 := nodup_le h.1 fun r hr => (mem_allRows n r).mpr (h.2 r hr)
  rw [allRows_len] at h1
  exact Nat.le_trans h1 (Nat.le_trans (Nat.pow_le_pow_right (by decide) hn) (by decide))
theorem RowsG.snoc {n : Nat} {rows : List (List Int)} {r : List Int} (h : RowsG n rows) (hr : r ∉ rows) (h1 : r.length = n) (h2 : bitRow r) : RowsG n (rows ++ [r]) := by
  refine ⟨List.nodup_append.mpr ⟨h.1, (by simp), fun a ha b hb => ?_⟩, fun q hq => ?_⟩
  · rw [List.mem_singleton.mp hb]
    rintro rfl
    exact hr ha
  · rcases List.mem_append.mp hq with z | z
    · exact h.2 q z
    · rw [List.mem_singleton.mp z]
      exact ⟨h1, h2⟩
section
variable {P : Program} {w : World} {K : PySem.W.Frag} {mg : Str → Option Value} {base : Heap}
/-! ### _law_closed -/
def spClosed (K : PySem.W.Frag) : Sp := fun vs H Q _ => ∃ (l t : Addr) (tb : List Int) (xs : List V) (rows : List (List Int)) (n : Nat), vs = [.ref l, .ref t] ∧ H l = some (.lst xs) ∧ RowsP H xs rows ∧ rows ≠ [] ∧ RowsG n rows ∧ n ≤ 4 ∧ H t = some (.tup (tb.map V.int)) ∧ TbOk tb ∧
  ∀ H' L xs' rows', Same H H' → H L = none → H' L = some (.lst xs') → RowsP H' xs' rows' → RowsG n rows' → (∀ r ∈ rows, r ∈ rows') → Q (.ref L) H'
theorem ok_law_closed (T : Txt K mg) : Ok P w K mg base 2 d_law_closed ["_law_rows", "_law_table_here"] (spClosed K) := by
  have G_law_all_rows : Ok P w K mg base 1 d_law_all_rows ["_law_many"] (spAllRows K) := ok_law_all_rows T
  have G_law_chosen : Ok P w K mg base 1 d_law_chosen ["_law_rows", "_law_table_here"] (spChosen K) := ok_law_chosen T
  have G_law_made : Ok P w K mg base 1 d_law_made ["_law_table_here", "_law_rows"] (spMade K) := ok_law_made T
  refine T.F_law_closed.ok sc_law_closed (fun vs H Q E h => ?_) (fun cdv A outer s H vs Q E hr h => ?_)
  · obtain ⟨l, t, tb, xs, rows, n, rfl, _⟩ := h
    rfl
  obtain ⟨l, t, tb, xs, rows, n, rfl, hl, hR, hne, hG, hn, ht, htb, q⟩ := h
  refine ⟨_, PSs.nox (
  (pss_cons (ps_set (i := 2) sc_law_closed.nd rfl (Or.inr rfl) (pe_callTy call_list_of (by rfl) T.z_list (by decide +kernel) (pa_cons (pv 0) pa_nil)))
    (pss_cons (ps_set (i := 3) sc_law_closed.nd rfl (Or.inl rfl) pe_int)
    (pss_cons (ps_set (i := 4) sc_law_closed.nd rfl (Or.inl rfl) (pe_callB call_len_seq (by rfl) T.z_len PySem.boot_len (pa_cons (pe_call G_law_all_rows (hr.mono (by omega)) (by rfl) T.g_law_all_rows T.F_law_all_rows.kp T.b_law_all_rows .nil pass0 (pa_cons (pe_callB call_len_seq (by rfl) T.z_len PySem.boot_len (pa_cons (pe_ix ix_list (pv 0) pe_int (fun _ _ => rfl)) pa_nil)) pa_nil)) pa_nil)))
    (pss_cons (ps_for PassesOwn.never rfl (pi_range1 (by rfl) T.z_range (pa_cons pe_int pa_nil)) (pg_name (i := 5) sc_law_closed.nd rfl (Or.inl rfl))
      (pss_cons (ps_set (i := 6) sc_law_closed.nd rfl (Or.inl rfl) (pe_lst pa_nil))
      (pss_cons (ps_for PassesOwn.never rfl (pi_list (pe_call G_law_chosen (hr.mono (by omega)) (by rfl) T.g_law_chosen T.F_law_chosen.kp T.b_law_chosen .nil pass0 (pa_cons (pe_lc (own := [("_law_k", 9)]) rfl sc_law_closed.nd (pi_range1 (by rfl) T.z_range (pa_cons (pe_callB call_len_seq (by rfl) T.z_len PySem.boot_len (pa_cons (pv 2) pa_nil)) pa_nil)) (blkOk_by (own := [("_law_k", 9)]) (N := ["_law_rows", "_law_table_here", "_law_found", "_law_known", "_law_every", "_law_turn", "_law_more", "_law_some", "_law_row", "_law_k"]) (sc := defScope s_law_closed) (by decide +kernel)) (fun _ _ _ _ _ => (pg_name (i := 9) sc_law_closed.nd rfl (Or.inl rfl))) (fun _ _ _ _ _ => pts_nil) (fun _ _ _ _ _ => (pv 9))) (pa_cons (pv 1) pa_nil)))) (pg_name (i := 7) sc_law_closed.nd rfl (Or.inl rfl))
        (pss_one (ps_if (pt_cmpR op_ge (pe_ix ix_tup (pv 7) (pe_un un_neg pe_int) (fun _ _ => rfl)) (pv 3) (nomark _))
          (pss_cons (ps_set (i := 8) sc_law_closed.nd rfl (Or.inl rfl) (pe_call G_law_made (hr.mono (by omega)) (by rfl) T.g_law_made T.F_law_made.kp T.b_law_made .nil pass0 (pa_cons (pv 1) (pa_cons (pe_lc (own := [("_law_k", 9)]) rfl sc_law_closed.nd (pi_tup (pv 7)) (blkOk_by (own := [("_law_k", 9)]) (N := ["_law_rows", "_law_table_here", "_law_found", "_law_known", "_law_every", "_law_turn", "_law_more", "_law_some", "_law_row", "_law_k"]) (sc := defScope s_law_closed) (by decide +kernel)) (fun _ _ _ _ _ => (pg_name (i := 9) sc_law_closed.nd rfl (Or.inl rfl))) (fun _ _ _ _ _ => pts_nil) (fun _ _ _ _ _ => (pe_ix (ix_listK (K := K) rfl) (pv 2) (pv 9) (fun _ _ => rfl)))) pa_nil))))
          (pss_one (ps_if (PW.pt (pw_and (pt_cmpR (op_notInD (u65 hr)) (pv 8) (pv 2) (by rfl)) (pw_and1 (pt_cmpR (op_notInD (u65 hr)) (pv 8) (pv 6) (by rfl)))))
            (pss_one (ps_expr (pe_bm PySem.F.plainAttrs_list PySem.F.slot_list_append PySem.F.type_list_append mt_append (pv 6) (pa_cons (pv 8) pa_nil))))
            pss_nil)))
          pss_nil)))
      (pss_cons (ps_set (i := 3) sc_law_closed.nd rfl (Or.inl rfl) (pe_callB call_len_seq (by rfl) T.z_len PySem.boot_len (pa_cons (pv 2) pa_nil)))
      (pss_cons (ps_set (i := 2) sc_law_closed.nd rfl (Or.inr rfl) (pe_op op_cat (pv 2) (pv 6)))
      (pss_one (ps_if (PW.pt (pw_or (pt_cmpR op_eq (pe_callB call_len_seq (by rfl) T.z_len PySem.boot_len (pa_cons (pv 6) pa_nil)) pe_int (nomark _)) (pw_or1 (pt_cmpR op_eq (pe_callB call_len_seq (by rfl) T.z_len PySem.boot_len (pa_cons (pv 2) pa_nil)) (pv 4) (nomark _)))))
        (pss_one (ps_ret (pv 2)))
        pss_nil)))))))
    (pss_one (ps_ret (pv 2)))))))
  ), ?_⟩
  have hxl := hR.1
  obtain ⟨ar, har⟩ : ∃ ar, Arity tb ar := by
    rcases htb.1 with h | h | h
    · exact ⟨1, .inl ⟨h, rfl⟩⟩
    · exact ⟨2, .inr (.inl ⟨h, rfl⟩)⟩
    · exact ⟨3, .inr (.inr ⟨h, rfl⟩)⟩
  refine ⟨_, rfl, l, xs, rfl, .inl (.inl (.inl hl)), fun F0 hF0 => ?_⟩
  have s1 : Same H (upd H F0 (.lst xs)) := same_new _ hF0
  have hF0l : upd H F0 (.lst xs) F0 = some (.lst xs) := upd_same
  generalize upd H F0 (.lst xs) = H1 at s1 hF0l ⊢
  obtain ⟨r0, rest, erows⟩ : ∃ r0 rest, rows = r0 :: rest := by
    cases rows with
    | nil => exact absurd rfl hne
    | cons r0 rest => exact ⟨r0, rest, rfl⟩
  obtain ⟨b0, hb01, hb02⟩ := hR.2 0 r0 (by rw [erows]; rfl)
  have hr0 := hG.2 r0 (by rw [erows]; exact List.mem_cons_self)
  refine ⟨_, rfl, l, _, 0, _, rfl, rfl, .inl (.inl (s1 _ _ hl)), at_nn (by decide) hb01, b0, _, rfl, .inr (.inl (.inl (s1 _ _ hb02))), (r0.map V.int).length, rfl, by rw [List.length_map]; omega, fun H2 A ys s2 hAn hAl _ => ?_⟩
  have s12 := s1.trans s2
  refine ⟨A, ys, rfl, .inl (.inl (.inl hAl)), ?_⟩
  have hF0n : H F0 = none := hF0
  refine ⟨_, rfl, by decide, by decide, for_range (n := 16) (fun i σ H' => ∃ (o5 o6 o7 o8 : Option V) (F : Addr) (kn : Int) (fs : List V) (rows' : List (List Int)), σ = [some (.ref l), some (.ref t), some (.ref F), some (.int kn), some (.int ys.length), o5, o6, o7, o8, none] ∧ Same H H' ∧ H F = none ∧ H' F = some (.lst fs) ∧ RowsP H' fs rows' ∧ RowsG n rows' ∧ ∀ r ∈ rows, r ∈ rows')
    ⟨_, _, _, _, F0, 0, xs, rows, rfl, s12, hF0n, s2 _ _ hF0l, hR.im (im_same s12), hG, fun r h => h⟩ ?_ ?_⟩
  · rintro i σ H3 hi ⟨o5, o6, o7, o8, F, kn, fs, rows', rfl, s3, hFn, hF, hR', hG', hsub⟩
    have hfl := hR'.1
    have hf16 := hG'.len hn
    refine ⟨(by show 0 ≤ sizeLine; exact Nat.zero_le _), fun M hM => ?_⟩
    have hMn : H M = none := same_free s3 hM
    have hMF : M ≠ F := by
      rintro rfl
      rw [hF] at hM
      cases hM
    have s4 : Same H3 (upd H3 M (.lst [])) := same_new _ hM
    have hMl : upd H3 M (.lst []) M = some (.lst []) := upd_same
    generalize upd H3 M (.lst []) = H4 at s4 hMl ⊢
    have hF4 := s4 _ _ hF
    refine ⟨_, rfl, F, fs, rfl, .inl (.inl (.inl hF4)), _, rfl, by omega, by omega, fun D hD => lc_range (n := ((fs.length : Int)).toNat) (fun g H' => Same H4 H' ∧ H' D = some (.lst ((List.range g).map fun i : Nat => V.int (i : Int))))
      ⟨same_new _ hD, upd_same⟩ ?_ ?_⟩
    · rintro g H5 hg ⟨s5, hD5⟩
      refine ⟨rfl, _, rfl, _, hD5, small1000 (by rw [List.length_map, List.length_range]; omega), same_mut _ s5 hD, ?_⟩
      rw [upd_same, List.range_succ, List.map_append]
      simp
    rintro H5 ⟨s5, hD5⟩
    have s35 := s4.trans s5
    have ht5 := (s3.trans s35) _ _ ht
    refine ⟨_, rfl, D, t, tb, fs.length, ar, rfl, hD5, by omega, ht5, har, fun H6 C cs ts s6 hCn hC hRc hts => ?_⟩
    have hcl := hRc.1
    have s46 := s5.trans s6
    have s36 := s4.trans s46
    have hM6 := s46 _ _ hMl
    refine ⟨C, rfl, ⟨_, .inl (.inl hC)⟩, for_list (xs := cs) (fun j σ H' => ∃ (o7 o8 : Option V) (ms : List V) (more : List (List Int)), σ = [some (.ref l), some (.ref t), some (.ref F), some (.int kn), some (.int ys.length), some (.int (0 + (i : Nat))), some (.ref M), o7, o8, none] ∧ Same H3 H' ∧ Same (upd H6 M (.lst [])) (upd H' M (.lst [])) ∧ H' M = some (.lst ms) ∧ RowsP H' ms more ∧ RowsG n (rows' ++ more) ∧ H' C = some (.lst cs))
      ⟨_, _, [], [], rfl, s36, .refl _, hM6, RowsP.nil, by rw [List.append_nil]; exact hG', hC⟩ (fun j σ H' _ h => by obtain ⟨_, _, _, _, _, _, _, _, _, _, e⟩ := h; exact .inl (.inl e)) ?_ ?_⟩
    · rintro j x σ H7 hj ⟨o7, o8, ms, more, rfl, s7, s7', hM7, hRm, hGm, hC7⟩
      have hjl := (List.getElem?_eq_some_iff.mp hj).1
      have hjr : j < ts.length := by omega
      have hrj := List.getElem?_eq_getElem hjr
      obtain ⟨hc1, hc2⟩ := hts _ (List.getElem_mem hjr)
      obtain ⟨b, hb1, hb2⟩ := hRc.2 j _ hrj
      rw [hj] at hb1
      cases hb1
      generalize ts[j] = c at hrj hc1 hc2 hb2
      have hCM : b ≠ M := by
        rintro rfl
        rw [hM6] at hb2
        cases hb2
      have hb7 : H7 b = some (.tup (c.map V.int)) := by
        have h1 : (upd H6 M (.lst [])) b = some (.tup (c.map V.int)) := by rw [upd_ne hCM]; exact hb2
        have h2 := s7' _ _ h1
        rwa [upd_ne hCM] at h2
      have har0 : 1 ≤ ar ∧ ar ≤ 3 := by
        rcases har with ⟨_, h⟩ | ⟨_, h⟩ | ⟨_, h⟩ <;> omega
      have hne : c ≠ [] := fun e => by rw [e] at hc1; simp at hc1; omega
      have hsz := hGm.len hn
      rw [List.length_append] at hsz
      have hml := hRm.1
      refine ⟨_, rfl, _, rfl, b, _, _, _, rfl, rfl, .inl (.inl hb7), at_last hne, _, rfl, _, _, rfl, rfl, _, rfl, ?_⟩
      by_cases hkn : kn ≤ c.getLast hne
      · refine ifT (decide_eq_true hkn) ?_
        have hF7 := s7 _ _ hF
        have hR7 := hR'.im (im_same s7)
        refine ⟨_, rfl, _, rfl, b, rfl, ⟨_, .inl (.inl hb7)⟩, fun D2 hD2 => lc_tup (xs := c.map V.int) (fun g H' => Same H7 H' ∧ ∃ (acc : List V) (ws : List (List Int)), H' D2 = some (.lst acc) ∧ RowsP H' acc ws ∧ (∀ r ∈ ws, r ∈ rows') ∧ ws.length = g)
          ⟨same_new _ hD2, [], [], upd_same, RowsP.nil, fun r h => (nomatch h), rfl⟩ (fun g H' _ h => .inl (.inl (h.1 _ _ hb7))) ?_ ?_⟩
        · rintro g x H8 hg ⟨s8, acc, ws, hacc, hRw, hws, hwl⟩
          rw [List.getElem?_map] at hg
          obtain ⟨k, hk, rfl⟩ := Option.map_eq_some_iff.mp hg
          have hgl := (List.getElem?_eq_some_iff.mp hk).1
          obtain ⟨k0, k1⟩ := hc2 k (List.mem_of_getElem? hk)
          have hkl : k.toNat < rows'.length := by omega
          obtain ⟨rb, hr1, hr2⟩ := hR7.2 k.toNat _ (List.getElem?_eq_getElem hkl)
          have hwa := hRw.1
          have im : Im H8 (upd H8 D2 (.lst (acc ++ [.ref rb]))) := im_mut _ hacc rfl
          refine ⟨rfl, _, rfl, _, rfl, F, _, _, _, rfl, rfl, .inl (.inl (s8 _ _ hF7)), at_nn k0 hr1, acc, hacc, small1000 (by omega), same_mut _ s8 hD2, _, ws ++ [rows'[k.toNat]], upd_same, (hRw.im im).snoc (im _ _ rfl (s8 _ _ hr2)), fun r hr => ?_, by rw [List.length_append, hwl]; rfl⟩
          rcases List.mem_append.mp hr with z | z
          · exact hws r z
          · rw [List.mem_singleton.mp z]
            exact List.getElem_mem hkl
        rintro H8 ⟨s8, acc, ws, hacc, hRw, hws, hwl⟩
        rw [List.length_map] at hwl
        have ht8 := (s3.trans (s7.trans s8)) _ _ ht
        refine ⟨t, D2, tb, acc, ws, n, rfl, ht8, htb.2, hacc, hRw, ?_, fun r hr => hG'.2 r (hws r hr), by omega, fun H9 p r s9 hp hrl hrb => ?_⟩
        · rw [hwl, hc1]
          rcases har with ⟨h1, h2⟩ | ⟨h1, h2⟩ | ⟨h1, h2⟩
          · exact .inl ⟨h2, h1⟩
          · exact .inr (.inl ⟨h2, h1⟩)
          · exact .inr (.inr ⟨h2, h1⟩)
        have s79 := s8.trans s9
        have hF9 := s79 _ _ hF7
        have hM9 := s79 _ _ hM7
        have hR9 := hR7.im (im_same s79)
        have hRm9 := hRm.im (im_same s79)
        have hdr : Dp K H9 (.ref p) (eI r) := eI_mk (.inl (.inl hp))
        have hsr : SeqAt.shaped (eI r) = true := shaped_row (by omega)
        have hl100 : ∀ q ∈ rows' ++ more, q.length ≤ 100 := fun q hq => by
          have := (hGm.2 q hq).1
          omega
        refine ⟨_, rfl, _, rfl, eI r, rows'.map eI, hdr, .lst (.inl (.inl hF9)) hR9.dp, hsr, shaped_rows (by omega) (fun q hq => hl100 q (List.mem_append_left _ hq)), _, rfl, ?_⟩
        rw [any_rows]
        have next : (∃ (o7 o8 : Option V) (ms : List V) (more : List (List Int)), [some (V.ref l), some (.ref t), some (.ref F), some (.int kn), some (.int ys.length), some (.int (0 + (i : Nat))), some (.ref M), some (.ref b), some (.ref p), none] = [some (.ref l), some (.ref t), some (.ref F), some (.int kn), some (.int ys.length), some (.int (0 + (i : Nat))), some (.ref M), o7, o8, none] ∧ Same H3 H9 ∧ Same (upd H6 M (.lst [])) (upd H9 M (.lst [])) ∧ H9 M = some (.lst ms) ∧ RowsP H9 ms more ∧ RowsG n (rows' ++ more) ∧ H9 C = some (.lst cs)) := ⟨_, _, ms, more, rfl, s7.trans s79, fun u o e => by
            by_cases hu : u = M
            · subst hu
              rw [upd_same] at e ⊢
              exact e
            · have := s7' _ _ e
              rw [upd_ne hu] at this ⊢
              exact s79 _ _ this, hM9, hRm9, hGm, s79 _ _ hC7⟩
        by_cases hin : r ∈ rows'
        · rw [decide_eq_true hin]
          exact iteF next
        · rw [decide_eq_false hin]
          refine iteT ⟨_, rfl, _, rfl, eI r, more.map eI, hdr, .lst (.inl (.inl hM9)) hRm9.dp, hsr, shaped_rows (by omega) (fun q hq => hl100 q (List.mem_append_right _ hq)), _, rfl, ?_⟩
          rw [any_rows]
          by_cases hin2 : r ∈ more
          · rw [decide_eq_true hin2]
            exact iteF next
          · rw [decide_eq_false hin2]
            have im : Im H9 (upd H9 M (.lst (ms ++ [.ref p]))) := im_mut _ hM9 rfl
            refine iteT ⟨_, rfl, .inl ⟨rfl, _, .inl (.inl hM9)⟩, _, rfl, M, ms, _, rfl, rfl, hM9, small1000 (by omega), ?_⟩
            have hCM2 : C ≠ M := by
              rintro rfl
              rw [hM6] at hC
              have e1 : cs = [] := (HO.lst.inj (Option.some.inj hC)).symm
              rw [e1] at hj
              cases hj
            refine ⟨_, _, ms ++ [.ref p], more ++ [r], rfl, same_mut _ (s7.trans s79) hM, fun u o e => ?_, upd_same, (hRm9.im im).snoc (im _ _ rfl hp), ?_, by rw [upd_ne hCM2]; exact s79 _ _ hC7⟩
            · by_cases hu : u = M
              · subst hu
                rw [upd_same] at e ⊢
                exact e
              · have := s7' _ _ e
                rw [upd_ne hu] at this ⊢
                rw [upd_ne hu]
                exact s79 _ _ this
            · rw [← List.append_assoc]
              refine hGm.snoc (fun z => ?_) hrl hrb
              rcases List.mem_append.mp z with z | z
              · exact hin z
              · exact hin2 z
      · refine ifF (decide_eq_false hkn) ?_
        exact ⟨_, _, ms, more, rfl, s7, s7', hM7, hRm, hGm, hC7⟩
    · rintro σ H7 ⟨o7, o8, ms, more, rfl, s7, s7', hM7, hRm, hGm, hC7⟩
      have hF7 := s7 _ _ hF
      have hR7 := hR'.im (im_same s7)
      have hsz := hGm.len hn
      rw [List.length_append] at hsz
      have hml := hRm.1
      refine ⟨_, rfl, F, fs, rfl, .inl (.inl (.inl hF7)), ?_⟩
      refine ⟨_, rfl, _, rfl, F, M, fs, ms, rfl, rfl, hF7, hM7, Nat.le_of_lt (small1000 (by omega)), fun F2 hF2 => ?_⟩
      have s8 : Same H7 (upd H7 F2 (.lst (fs ++ ms))) := same_new _ hF2
      have hF2n : H F2 = none := same_free (s3.trans s7) hF2
      have hF2l : upd H7 F2 (.lst (fs ++ ms)) F2 = some (.lst (fs ++ ms)) := upd_same
      have hR8 := (hR7.append hRm).im (im_same s8)
      have hM8 := s8 _ _ hM7
      generalize upd H7 F2 (.lst (fs ++ ms)) = H8 at s8 hF2l hR8 hM8 ⊢
      have s38 := s3.trans (s7.trans s8)
      have hsub' : ∀ r ∈ rows, r ∈ rows' ++ more := fun r hr => List.mem_append_left _ (hsub r hr)
      refine ⟨_, rfl, M, ms, rfl, .inl (.inl (.inl hM8)), rfl, _, rfl, ?_⟩
      have fin := q H8 F2 _ (rows' ++ more) s38 hF2n hF2l hR8 hGm hsub'
      by_cases hm0 : V.int (ms.length : Nat) = V.int 0
      · refine ifT (decide_eq_true hm0) ?_
        exact iteT ⟨_, rfl, fin⟩
      · refine ifF (decide_eq_false hm0) ?_
        refine ⟨_, rfl, F2, _, rfl, .inl (.inl (.inl hF2l)), _, rfl, rfl, _, rfl, ?_⟩
        exact ifB (fun _ => ⟨_, rfl, fin⟩) fun _ => ⟨_, _, _, _, F2, _, _, rows' ++ more, rfl, s38, hF2n, hF2l, hR8, hGm, hsub'⟩
  · rintro σ H3 ⟨o5, o6, o7, o8, F, kn, fs, rows', rfl, s3, hFn, hF, hR', hG', hsub⟩
    exact ⟨_, rfl, q _ F fs rows' s3 hFn hF hR' hG' hsub⟩
end
end EC


set_option Elab.async false
set_option linter.all false
set_option maxRecDepth 100000
set_option maxHeartbeats 4000000
namespace EC
open PySem PySem.Spec PyProof.Rows L2
theorem allRows_nodup (n : Nat) : (allRows n).Nodup := by
  induction n with
  | zero => show ([[]] : List (List Int)).Nodup; simp
  | succ n ih =>
    show ((allRows n).flatMap fun r => [r ++ [0], r ++ [1]]).Nodup
    have key : ∀ l : List (List Int), l.Nodup → (l.flatMap fun r => [r ++ [(0 : Int)], r ++ [1]]).Nodup := by
      intro l
      induction l with
      | nil => intro _; simp
      | cons a l ih2 =>
        intro h
        rw [List.nodup_cons] at h
        rw [List.flatMap_cons]
        refine List.nodup_append.mpr ⟨?_, ih2 h.2, fun x hx y hy e => ?_⟩
        · simp
        · subst e
          obtain ⟨b, hb, hy2⟩ := List.mem_flatMap.mp hy
          have hab : a = b := by
            have h1 : x = a ++ [0] ∨ x = a ++ [1] := by simpa using hx
            have h2 : x = b ++ [0] ∨ x = b ++ [1] := by simpa using hy2
            rcases h1 with rfl | rfl <;> rcases h2 with e | e
            · exact List.append_cancel_right e
            · exact (List.append_inj_left' e rfl)
            · exact (List.append_inj_left' e rfl)
            · exact List.append_cancel_right e
          rw [hab] at h
          exact h.1 hb
    exact key _ ih
theorem some_out {n : Nat} {rows : List (List Int)} (h : rows.length < (allRows n).length) : ∃ r ∈ allRows n, r ∉ rows := by
  refine Classical.byContradiction fun k => ?_
  have h1 : ∀ r ∈ allRows n, r ∈ rows := fun r hr => Classical.byContradiction fun z => k ⟨r, hr, z⟩
  have := nodup_le (allRows_nodup n) h1
  omega
theorem at6 {k : Int} (h0 : 0 ≤ k) (h1 : k < 6) : ∃ s : Nat, atI [V.int 1, .int 2, .int 2, .int 3, .int 3, .int 4] k = some (.int (s : Int)) ∧ 1 ≤ s ∧ s ≤ 4 := by
  have : k = 0 ∨ k = 1 ∨ k = 2 ∨ k = 3 ∨ k = 4 ∨ k = 5 := by omega
  rcases this with rfl | rfl | rfl | rfl | rfl | rfl
  · exact ⟨1, rfl, by decide, by decide⟩
  · exact ⟨2, rfl, by decide, by decide⟩
  · exact ⟨2, rfl, by decide, by decide⟩
  · exact ⟨3, rfl, by decide, by decide⟩
  · exact ⟨3, rfl, by decide, by decide⟩
  · exact ⟨4, rfl, by decide, by decide⟩
theorem at4 {k : Int} (h0 : 0 ≤ k) (h1 : k < 4) : ∃ s : Nat, atI [V.int 1, .int 2, .int 3, .int 3] k = some (.int (s : Int)) ∧ 1 ≤ s ∧ s ≤ 3 := by
  have : k = 0 ∨ k = 1 ∨ k = 2 ∨ k = 3 := by omega
  rcases this with rfl | rfl | rfl | rfl
  · exact ⟨1, rfl, by decide, by decide⟩
  · exact ⟨2, rfl, by decide, by decide⟩
  · exact ⟨3, rfl, by decide, by decide⟩
  · exact ⟨3, rfl, by decide, by decide⟩
section
variable {P : Program} {w : World} {K : PySem.W.Frag} {mg : Str → Option Value} {base : Heap}
/-! ### _law_relation -/
def spRelation (K : PySem.W.Frag) : Sp := fun vs H Q _ => ∃ (hd dr : Addr) (x : Str), vs = [.ref hd, .str x] ∧ HandAt H hd dr ∧ (x = "" ∨ x ∈ words) ∧
  ∀ H' t v (rel : Rel), HX hd dr H H' → H' t = some (.tup [.int rel.1, v]) → RowsU K H' v rel.2 → RelG rel → Q (.ref t) H'
theorem ok_law_relation (T : Txt K mg) : Ok P w K mg base 3 d_law_relation ["_law_hand", "_law_word"] (spRelation K) := by
  have G_law_take : Ok P w K mg base 1 d_law_take ["_law_hand", "_law_many"] (spTake K) := ok_law_take T
  have G_law_all_rows : Ok P w K mg base 1 d_law_all_rows ["_law_many"] (spAllRows K) := ok_law_all_rows T
  have G_law_table : Ok P w K mg base 1 d_law_table ["_law_word"] (spTable K) := ok_law_table T
  have G_law_closed : Ok P w K mg base 2 d_law_closed ["_law_rows", "_law_table_here"] (spClosed K) := ok_law_closed T
  refine T.F_law_relation.ok sc_law_relation (fun vs H Q E h => ?_) (fun cdv A outer s H vs Q E hr h => ?_)
  · obtain ⟨hd, dr, x, rfl, _⟩ := h
    rfl
  obtain ⟨hd, dr, x, rfl, hh, hx, q⟩ := h
  refine ⟨_, PSs.nox (
  (pss_cons (ps_set (i := 2) sc_law_relation.nd rfl (Or.inl rfl) (pe_ix ix_list (pe_lst (pa_cons pe_int (pa_cons pe_int (pa_cons pe_int (pa_cons pe_int (pa_cons pe_int (pa_cons pe_int pa_nil))))))) (pe_call G_law_take (hr.mono (by omega)) (by rfl) T.g_law_take T.F_law_take.kp T.b_law_take .nil pass0 (pa_cons (pv 0) (pa_cons pe_int pa_nil))) (fun _ _ => rfl)))
    (pss_cons (ps_set (i := 3) sc_law_relation.nd rfl (Or.inl rfl) (pe_call G_law_all_rows (hr.mono (by omega)) (by rfl) T.g_law_all_rows T.F_law_all_rows.kp T.b_law_all_rows .nil pass0 (pa_cons (pv 2) pa_nil)))
    (pss_cons (ps_set (i := 4) sc_law_relation.nd rfl (Or.inr rfl) (pe_lst pa_nil))
    (pss_cons (ps_for PassesOwn.never rfl (pi_range1 (by rfl) T.z_range (pa_cons (pe_ix ix_list (pe_lst (pa_cons pe_int (pa_cons pe_int (pa_cons pe_int (pa_cons pe_int pa_nil))))) (pe_call G_law_take (hr.mono (by omega)) (by rfl) T.g_law_take T.F_law_take.kp T.b_law_take .nil pass0 (pa_cons (pv 0) (pa_cons pe_int pa_nil))) (fun _ _ => rfl)) pa_nil)) (pg_name (i := 5) sc_law_relation.nd rfl (Or.inl rfl))
      (pss_cons (ps_set (i := 6) sc_law_relation.nd rfl (Or.inl rfl) (pe_ix ix_list (pv 3) (pe_call G_law_take (hr.mono (by omega)) (by rfl) T.g_law_take T.F_law_take.kp T.b_law_take .nil pass0 (pa_cons (pv 0) (pa_cons (pe_callB call_len_seq (by rfl) T.z_len PySem.boot_len (pa_cons (pv 3) pa_nil)) pa_nil))) (fun _ _ => rfl)))
      (pss_one (ps_if (pt_cmpR (op_notInDK (K := K) rfl (u65 hr)) (pv 6) (pv 4) (by rfl))
        (pss_one (ps_expr (pe_bm PySem.F.plainAttrs_list PySem.F.slot_list_append PySem.F.type_list_append mt_append (pv 4) (pa_cons (pv 6) pa_nil))))
        pss_nil))))
    (C8.pss_cut (ps_if (pt_cmpR op_ne (pv 1) pe_str (nomark _))
      (pss_one (ps_set (i := 4) sc_law_relation.nd rfl (Or.inr rfl) (pe_call G_law_closed (hr.mono (by omega)) (by rfl) T.g_law_closed T.F_law_closed.kp T.b_law_closed .nil pass0 (pa_cons (pv 4) (pa_cons (pe_call G_law_table (hr.mono (by omega)) (by rfl) T.g_law_table T.F_law_table.kp T.b_law_table .nil pass0 (pa_cons (pv 1) pa_nil)) pa_nil)))))
      (pss_one (ps_if (PW.pt (pw_and (pt_cmpR op_lt (pv 2) pe_int (nomark _)) (pw_and (pt_cmpR op_lt (pe_callB call_len_seq (by rfl) T.z_len PySem.boot_len (pa_cons (pv 4) pa_nil)) (pe_callB call_len_seq (by rfl) T.z_len PySem.boot_len (pa_cons (pv 3) pa_nil)) (nomark _)) (pw_and1 (pt_cmpR op_eq (pe_call G_law_take (hr.mono (by omega)) (by rfl) T.g_law_take T.F_law_take.kp T.b_law_take .nil pass0 (pa_cons (pv 0) (pa_cons pe_int pa_nil))) pe_int (nomark _))))))
        (pss_one (ps_set (i := 4) sc_law_relation.nd rfl (Or.inr rfl) (pe_lc (own := [("_law_row", 6)]) rfl sc_law_relation.nd (pi_list (pv 3)) (blkOk_by (own := [("_law_row", 6)]) (N := ["_law_hand", "_law_word", "_law_size", "_law_every", "_law_rows", "_law_k", "_law_row"]) (sc := defScope s_law_relation) (by decide +kernel)) (fun _ _ _ _ _ => (pg_name (i := 6) sc_law_relation.nd rfl (Or.inl rfl))) (fun _ _ _ _ _ => pts_one (pt_cmpR (op_notInDK (K := K) rfl (u65 hr)) (pv 6) (pv 4) (by rfl))) (fun _ _ _ _ _ => (pv 6)))))
        pss_nil)))
    (pss_one (ps_ret (pe_tup (pa_cons (pv 2) (pa_cons (pe_callTy call_tuple_of (by rfl) T.z_tuple (by decide +kernel) (pa_cons (pe_lc (own := [("_law_row", 6)]) rfl sc_law_relation.nd (pi_list (pv 3)) (blkOk_by (own := [("_law_row", 6)]) (N := ["_law_hand", "_law_word", "_law_size", "_law_every", "_law_rows", "_law_k", "_law_row"]) (sc := defScope s_law_relation) (by decide +kernel)) (fun _ _ _ _ _ => (pg_name (i := 6) sc_law_relation.nd rfl (Or.inl rfl))) (fun _ _ _ _ _ => pts_one (pt_cmpR (op_inDK (K := K) rfl (u65 hr)) (pv 6) (pv 4) (by rfl))) (fun _ _ _ _ _ => (pv 6))) pa_nil)) pa_nil))))))))))
  ), ?_⟩
  refine ⟨(by show 6 ≤ sizeLine; decide), fun L0 hL0 => ?_⟩
  have x0 := HX.of hh (same_new (.lst [V.int 1, .int 2, .int 2, .int 3, .int 3, .int 4]) hL0)
  have hL0l : upd H L0 (.lst [V.int 1, .int 2, .int 2, .int 3, .int 3, .int 4]) L0 = some (.lst [V.int 1, .int 2, .int 2, .int 3, .int 3, .int 4]) := upd_same
  have nL0 := (hh.ne hL0).1
  generalize upd H L0 (.lst [V.int 1, .int 2, .int 2, .int 3, .int 3, .int 4]) = H0 at x0 hL0l ⊢
  refine ⟨_, rfl, hd, dr, 6, rfl, x0.hand, by decide, fun H1 k x1 k0 k1 => ?_⟩
  obtain ⟨n, hn, hn1, hn4⟩ := at6 k0 k1
  have x01 := x0.trans x1
  refine ⟨L0, _, k, _, rfl, rfl, .inl (.inl (x1.at nL0 hL0l)), hn, ?_⟩
  refine ⟨_, rfl, n, rfl, by omega, fun H2 E es s2 hEn hE hRe => ?_⟩
  have x2 := x01.same s2
  have nE := (x01.hand.ne hEn).1
  have hEn0 := x01.free hEn
  have hel := hRe.1
  have hal : (allRows n).length ≤ 16 := by
    rw [allRows_len]
    exact Nat.le_trans (Nat.pow_le_pow_right (by decide) hn4) (by decide)
  have hal0 : 0 < (allRows n).length := by
    rw [allRows_len]
    exact Nat.pow_pos (by decide)
  refine ⟨(by show 0 ≤ sizeLine; exact Nat.zero_le _), fun R hR => ?_⟩
  have x3 := x2.new (.lst []) hR
  have hRl : upd H2 R (.lst []) R = some (.lst []) := upd_same
  have hRn : H R = none := x2.free hR
  have nR := (hh.ne hRn).1
  have hE3 : upd H2 R (.lst []) E = some (.lst es) := same_new _ hR _ _ hE
  have hRe3 := hRe.im (im_same (same_new (.lst []) hR))
  generalize upd H2 R (.lst []) = H3 at x3 hRl hE3 hRe3 ⊢
  refine ⟨(by show 4 ≤ sizeLine; decide), fun L1 hL1 => ?_⟩
  have s34 : Same H3 (upd H3 L1 (.lst [V.int 1, .int 2, .int 3, .int 3])) := same_new _ hL1
  have hL1l : upd H3 L1 (.lst [V.int 1, .int 2, .int 3, .int 3]) L1 = some (.lst [V.int 1, .int 2, .int 3, .int 3]) := upd_same
  have nL1 := (x3.hand.ne hL1).1
  generalize upd H3 L1 (.lst [V.int 1, .int 2, .int 3, .int 3]) = H4 at s34 hL1l ⊢
  have x4 := x3.same s34
  refine ⟨_, rfl, hd, dr, 4, rfl, x4.hand, by decide, fun H5 k' x5 k0' k1' => ?_⟩
  obtain ⟨c, hc, hc1, hc3⟩ := at4 k0' k1'
  refine ⟨L1, _, k', _, rfl, rfl, .inl (.inl (x5.at nL1 hL1l)), hc, ?_⟩
  have x05 := x4.trans x5
  have hE5 := x5.at nE (s34 _ _ hE3)
  have hR5 := x5.at nR (s34 _ _ hRl)
  have hRe5 := (hRe3.im (im_same s34)).im (x5.im x4.hand)
  have hER : E ≠ R := by
    rintro rfl
    rw [hRl] at hE3
    have e1 : es = [] := (HO.lst.inj (Option.some.inj hE3)).symm
    rw [e1] at hel
    simp at hel
    omega
  refine ⟨_, rfl, by omega, by omega, for_range (n := ((c : Int)).toNat) (fun i σ H' => ∃ (o5 o6 : Option V) (rs : List V) (rows : List (List Int)), σ = [some (.ref hd), some (.str x), some (.int n), some (.ref E), some (.ref R), o5, o6] ∧ HX hd dr H H' ∧ H' E = some (.lst es) ∧ RowsP H' es (allRows n) ∧ H' R = some (.lst rs) ∧ RowsP H' rs rows ∧ RowsG n rows ∧ (0 < i → rows ≠ []))
    ⟨_, _, [], [], rfl, x05, hE5, hRe5, hR5, RowsP.nil, ⟨by simp, fun r h => (nomatch h)⟩, fun h => absurd h (Nat.lt_irrefl 0)⟩ ?_ ?_⟩
  · rintro i σ H6 hi ⟨o5, o6, rs, rows, rfl, x6, hE6, hRe6, hR6, hRr6, hGr, hpos⟩
    have hr16 := hGr.len hn4
    have hrl := hRr6.1
    refine ⟨_, rfl, _, rfl, _, rfl, E, es, rfl, .inl (.inl (.inl hE6)), hd, dr, _, rfl, x6.hand, by omega, fun H7 k x7 k0 k1 => ?_⟩
    have hkl : k.toNat < (allRows n).length := by omega
    have hRe7 := hRe6.im (x7.im x6.hand)
    have hE7 := x7.at nE hE6
    have hR7 := x7.at nR hR6
    have hRr7 := hRr6.im (x7.im x6.hand)
    have x07 := x6.trans x7
    obtain ⟨b, hb1, hb2⟩ := hRe7.2 _ _ (List.getElem?_eq_getElem hkl)
    have hmem := (mem_allRows n _).mp (List.getElem_mem hkl)
    generalize (allRows n)[k.toNat] = r at hb2 hmem
    have hdr : Dp K H7 (.ref b) (eI r) := eI_mk (.inl (.inl hb2))
    refine ⟨E, _, _, _, rfl, rfl, .inl (.inl hE7), at_nn k0 hb1, ?_⟩
    refine ⟨_, rfl, _, rfl, eI r, rows.map eI, hdr, .lst (.inl (.inl hR7)) hRr7.dp, shaped_row (by omega), shaped_rows (by omega) (fun q hq => by have := (hGr.2 q hq).1; omega), _, rfl, ?_⟩
    rw [any_rows]
    by_cases hin : r ∈ rows
    · rw [decide_eq_true hin]
      exact iteF ⟨_, _, rs, rows, rfl, x07, hE7, hRe7, hR7, hRr7, hGr, fun _ e => by rw [e] at hin; cases hin⟩
    · rw [decide_eq_false hin]
      have im : Im H7 (upd H7 R (.lst (rs ++ [.ref b]))) := im_mut _ hR7 rfl
      refine iteT ⟨_, rfl, .inl ⟨rfl, _, .inl (.inl hR7)⟩, _, rfl, R, rs, _, rfl, rfl, hR7, small1000 (by omega), ?_⟩
      exact ⟨_, _, rs ++ [.ref b], rows ++ [r], rfl, x07.mut _ hh hRn, by rw [upd_ne hER]; exact hE7, hRe7.im im, upd_same, (hRr7.im im).snoc (im _ _ rfl hb2), hGr.snoc hin hmem.1 hmem.2, fun _ e => by simp at e⟩
  rintro σ H6 ⟨o5, o6, rs, rows, rfl, x6, hE6, hRe6, hR6, hRr6, hGr, hpos⟩
  have hne := hpos (by omega)
  have hr16 := hGr.len hn4
  have hrl := hRr6.1
  refine ⟨fun σ H' => ∃ (o5 o6 : Option V) (R : Addr) (rs : List V) (rows : List (List Int)), σ = [some (.ref hd), some (.str x), some (.int n), some (.ref E), some (.ref R), o5, o6] ∧ HX hd dr H H' ∧ H' E = some (.lst es) ∧ RowsP H' es (allRows n) ∧ H' R = some (.lst rs) ∧ RowsP H' rs rows ∧ (∃ r ∈ allRows n, r ∈ rows) ∧ rows.length ≤ 16 ∧ ∀ r ∈ rows, r.length ≤ 100, ?_, ?_⟩
  · have h100 : ∀ r ∈ rows, r.length ≤ 100 := fun q hq => by
      have := (hGr.2 q hq).1
      omega
    have hsome : ∃ r ∈ allRows n, r ∈ rows := by
      obtain ⟨r, hr⟩ := List.exists_mem_of_ne_nil _ hne
      exact ⟨r, (mem_allRows n r).mpr (hGr.2 r hr), hr⟩
    have keep : ∀ (o5 o6 : Option V) H', HX hd dr H6 H' → ∃ (o5' o6' : Option V) (R' : Addr) (rs : List V) (rows : List (List Int)), [some (V.ref hd), some (.str x), some (.int n), some (.ref E), some (.ref R), o5, o6] = [some (V.ref hd), some (.str x), some (.int n), some (.ref E), some (.ref R'), o5', o6'] ∧ HX hd dr H H' ∧ H' E = some (.lst es) ∧ RowsP H' es (allRows n) ∧ H' R' = some (.lst rs) ∧ RowsP H' rs rows ∧ (∃ r ∈ allRows n, r ∈ rows) ∧ rows.length ≤ 16 ∧ ∀ r ∈ rows, r.length ≤ 100 := fun o5 o6 H' x' =>
      ⟨_, _, R, rs, rows, rfl, x6.trans x', x'.at nE hE6, hRe6.im (x'.im x6.hand), x'.at nR hR6, hRr6.im (x'.im x6.hand), hsome, hr16, h100⟩
    refine ⟨_, rfl, rfl, _, rfl, ?_⟩
    by_cases hx0 : V.str x = V.str ""
    · refine ifNT (decide_eq_true hx0) ?_
      refine ⟨_, rfl, _, _, rfl, rfl, _, rfl, ?_⟩
      by_cases hn3 : (n : Int) < 4
      · refine ifT (decide_eq_true hn3) ?_
        refine ⟨_, rfl, R, rs, rfl, .inl (.inl (.inl hR6)), _, rfl, E, es, rfl, .inl (.inl (.inl hE6)), _, _, rfl, rfl, _, rfl, ?_⟩
        by_cases hlt : (rs.length : Int) < (es.length : Int)
        · refine ifT (decide_eq_true hlt) ?_
          refine ⟨_, rfl, hd, dr, 4, rfl, x6.hand, by decide, fun H7 k x7 k0 k1 => ⟨rfl, _, rfl, ?_⟩⟩
          refine ifB (fun _ => ?_) fun _ => keep _ _ _ x7
          have hE7 := x7.at nE hE6
          have hR7 := x7.at nR hR6
          have hRe7 := hRe6.im (x7.im x6.hand)
          have hRr7 := hRr6.im (x7.im x6.hand)
          refine ⟨_, rfl, E, rfl, ⟨_, .inl (.inl hE7)⟩, fun D hD => lc_list (xs := es) (fun j H' => Same H7 H' ∧ ∃ acc : List V, H' D = some (.lst acc) ∧ RowsP H' acc (((allRows n).take j).filter fun r => !decide (r ∈ rows)))
            ⟨same_new _ hD, [], upd_same, RowsP.nil⟩ (fun j H' _ h => .inl (.inl (h.1 _ _ hE7))) ?_ ?_⟩
          · rintro j y H8 hj ⟨s8, acc, hacc, hRa⟩
            have hjl := (List.getElem?_eq_some_iff.mp hj).1
            have hjr : j < (allRows n).length := by omega
            have hrj := List.getElem?_eq_getElem hjr
            obtain ⟨b, hb1, hb2⟩ := hRe7.2 j _ hrj
            rw [hj] at hb1
            cases hb1
            have hmem := (mem_allRows n _).mp (List.getElem_mem hjr)
            generalize (allRows n)[j] = r at hrj hb2 hmem
            have hb8 := s8 _ _ hb2
            have hnext := take_filter (fun r => !decide (r ∈ rows)) _ hrj
            have hal2 : acc.length ≤ 16 := by
              rw [hRa.1]
              exact Nat.le_trans (List.length_filter_le _ _) (Nat.le_trans (by rw [List.length_take]; omega) hal)
            refine ⟨rfl, _, rfl, _, rfl, eI r, rows.map eI, eI_mk (.inl (.inl hb8)), .lst (.inl (.inl (s8 _ _ hR7))) (hRr7.im (im_same s8)).dp, shaped_row (by omega), shaped_rows (by omega) h100, _, rfl, ?_⟩
            rw [any_rows]
            by_cases hin : r ∈ rows
            · rw [decide_eq_true hin]
              rw [if_neg (by rw [decide_eq_true hin]; decide), List.append_nil] at hnext
              exact iteF ⟨s8, acc, hacc, by rw [hnext]; exact hRa⟩
            · rw [decide_eq_false hin]
              rw [if_pos (by rw [decide_eq_false hin]; rfl)] at hnext
              have im : Im H8 (upd H8 D (.lst (acc ++ [.ref b]))) := im_mut _ hacc rfl
              refine iteT ⟨_, rfl, acc, hacc, small1000 (by omega), same_mut _ s8 hD, _, upd_same, ?_⟩
              rw [hnext]
              exact (hRa.im im).snoc (im _ _ rfl hb8)
          · rintro H8 ⟨s8, acc, hacc, hRa⟩
            rw [List.take_of_length_le (by omega)] at hRa
            obtain ⟨r, hr1, hr2⟩ := some_out (n := n) (rows := rows) (by omega)
            refine ⟨_, _, D, acc, _, rfl, (x6.trans x7).same s8, s8 _ _ hE7, hRe7.im (im_same s8), hacc, hRa, ⟨r, hr1, List.mem_filter.mpr ⟨hr1, by rw [decide_eq_false hr2]; rfl⟩⟩, Nat.le_trans (List.length_filter_le _ _) hal, fun r hr => ?_⟩
            have := ((mem_allRows n r).mp (List.mem_filter.mp hr).1).1
            omega
        · exact ifF (decide_eq_false hlt) (keep _ _ _ (HX.refl x6.hand))
      · exact ifF (decide_eq_false hn3) (keep _ _ _ (HX.refl x6.hand))
    · refine ifNF (decide_eq_false hx0) ?_
      have hxw : x ∈ words := hx.elim (fun e => absurd (by rw [e]) hx0) id
      refine ⟨_, rfl, _, rfl, x, rfl, hxw, fun H7 t tb s7 ht htb => ?_⟩
      refine ⟨R, t, tb, rs, rows, n, rfl, s7 _ _ hR6, hRr6.im (im_same s7), hne, hGr, hn4, ht, htb, fun H8 L xs' rows' s8 hLn hL hRL hGL hsub => ?_⟩
      have s68 := s7.trans s8
      refine ⟨_, _, L, xs', rows', rfl, x6.same s68, s68 _ _ hE6, hRe6.im (im_same s68), hL, hRL, ?_, hGL.len hn4, fun r hr => by have := (hGL.2 r hr).1; omega⟩
      obtain ⟨r, hr1, hr2⟩ := hsome
      exact ⟨r, hr1, hsub r hr2⟩
  · rintro σ H7 ⟨o5, o6, R, rs, rows, rfl, x7, hE7, hRe7, hR7, hRr7, ⟨r1, hr11, hr12⟩, hrl16, h100⟩
    have hrl := hRr7.1
    refine ⟨_, rfl, _, rfl, E, rfl, ⟨_, .inl (.inl hE7)⟩, fun D hD => lc_list (xs := es) (fun j H' => Same H7 H' ∧ ∃ acc : List V, H' D = some (.lst acc) ∧ RowsP H' acc (((allRows n).take j).filter fun r => decide (r ∈ rows)))
      ⟨same_new _ hD, [], upd_same, RowsP.nil⟩ (fun j H' _ h => .inl (.inl (h.1 _ _ hE7))) ?_ ?_⟩
    · rintro j y H8 hj ⟨s8, acc, hacc, hRa⟩
      have hjl := (List.getElem?_eq_some_iff.mp hj).1
      have hjr : j < (allRows n).length := by omega
      have hrj := List.getElem?_eq_getElem hjr
      obtain ⟨b, hb1, hb2⟩ := hRe7.2 j _ hrj
      rw [hj] at hb1
      cases hb1
      have hmem := (mem_allRows n _).mp (List.getElem_mem hjr)
      generalize (allRows n)[j] = r at hrj hb2 hmem
      have hb8 := s8 _ _ hb2
      have hnext := take_filter (fun r => decide (r ∈ rows)) _ hrj
      have hal2 : acc.length ≤ 16 := by
        rw [hRa.1]
        exact Nat.le_trans (List.length_filter_le _ _) (Nat.le_trans (by rw [List.length_take]; omega) hal)
      refine ⟨rfl, _, rfl, _, rfl, eI r, rows.map eI, eI_mk (.inl (.inl hb8)), .lst (.inl (.inl (s8 _ _ hR7))) (hRr7.im (im_same s8)).dp, shaped_row (by omega), shaped_rows (by omega) h100, _, rfl, ?_⟩
      rw [any_rows]
      by_cases hin : r ∈ rows
      · rw [decide_eq_true hin]
        rw [if_pos (decide_eq_true hin)] at hnext
        have im : Im H8 (upd H8 D (.lst (acc ++ [.ref b]))) := im_mut _ hacc rfl
        refine iteT ⟨_, rfl, acc, hacc, small1000 (by omega), same_mut _ s8 hD, _, upd_same, ?_⟩
        rw [hnext]
        exact (hRa.im im).snoc (im _ _ rfl hb8)
      · rw [decide_eq_false hin]
        rw [if_neg (by rw [decide_eq_false hin]; exact Bool.false_ne_true), List.append_nil] at hnext
        exact iteF ⟨s8, acc, hacc, by rw [hnext]; exact hRa⟩
    · rintro H8 ⟨s8, acc, hacc, hRa⟩
      rw [List.take_of_length_le (by omega)] at hRa
      refine ⟨D, acc, rfl, .inl ⟨.inl (.inl hacc), fun u hu => ?_⟩⟩
      have s9 : Same H8 (upd H8 u (.tup acc)) := same_new _ hu
      have hu9 : upd H8 u (.tup acc) u = some (.tup acc) := upd_same
      generalize upd H8 u (.tup acc) = H9 at s9 hu9 ⊢
      refine ⟨(by show 2 ≤ sizeLine; decide), fun t ht => ?_⟩
      have s10 : Same H9 (upd H9 t (.tup [.int n, .ref u])) := same_new _ ht
      refine q _ t (.ref u) ((n : Int), (allRows n).filter fun r => decide (r ∈ rows)) (x7.same ((s8.trans s9).trans s10)) upd_same ⟨u, acc, rfl, .inl (.inl (s10 _ _ hu9)), hRa.1, fun i r hr => ?_⟩ ⟨by show (1 : Int) ≤ n; omega, by show (n : Int) ≤ 4; omega, ?_, Nat.le_trans (List.length_filter_le _ _) hal, fun r hr => ?_⟩
      · obtain ⟨b, h1, h2⟩ := hRa.2 i r hr
        exact ⟨b, h1, s10 _ _ (s9 _ _ h2)⟩
      · intro e
        have : r1 ∈ (allRows n).filter (fun r => decide (r ∈ rows)) := List.mem_filter.mpr ⟨hr11, decide_eq_true hr12⟩
        rw [show (allRows n).filter (fun r => decide (r ∈ rows)) = [] from e] at this
        cases this
      · exact (mem_allRows n r).mp (List.mem_filter.mp hr).1
end
end EC


set_option Elab.async false
set_option linter.all false
set_option maxRecDepth 100000
set_option maxHeartbeats 4000000
namespace EC
open PySem PySem.Spec PyProof.Rows L2
/-! ### the law's book, ties -/
def RelLAt (K : PySem.W.Frag) (H : Hp) (x : V) (rel : Rel) : Prop := ∃ t v, x = .ref t ∧ H t = some (.tup [.int rel.1, v]) ∧ RowsU K H v rel.2
def BookL (K : PySem.W.Frag) (H : Hp) (L : Addr) (bk : List Rel) : Prop := ∃ xs, H L = some (.lst xs) ∧ xs.length = bk.length ∧ ∀ (i : Nat) (rel : Rel), bk[i]? = some rel → ∃ x, xs[i]? = some x ∧ RelLAt K H x rel
theorem RelLAt.im {K : PySem.W.Frag} {H H' : Hp} {x : V} {rel : Rel} (e : Im H H') (h : RelLAt K H x rel) : RelLAt K H' x rel := by
  obtain ⟨t, v, h1, h2, h3⟩ := h
  exact ⟨t, v, h1, e _ _ rfl h2, h3.im e⟩
theorem BookL.same {K : PySem.W.Frag} {H H' : Hp} {L : Addr} {bk : List Rel} (e : Same H H') (h : BookL K H L bk) : BookL K H' L bk := by
  obtain ⟨xs, h1, h2, h3⟩ := h
  exact ⟨xs, e _ _ h1, h2, fun i rel hr => let ⟨x, q1, q2⟩ := h3 i rel hr; ⟨x, q1, q2.im (im_same e)⟩⟩
theorem BookL.hx {K : PySem.W.Frag} {hd dr : Addr} {H H' : Hp} {L : Addr} {bk : List Rel} (e : HX hd dr H H') (hh : HandAt H hd dr) (n : L ≠ hd) (h : BookL K H L bk) : BookL K H' L bk := by
  obtain ⟨xs, h1, h2, h3⟩ := h
  exact ⟨xs, e.at n h1, h2, fun i rel hr => let ⟨x, q1, q2⟩ := h3 i rel hr; ⟨x, q1, q2.im (e.im hh)⟩⟩
theorem at10 {k : Int} (h0 : 0 ≤ k) (h1 : k < 10) : ∃ s : Nat, atI [V.int 1, .int 1, .int 1, .int 2, .int 2, .int 2, .int 2, .int 3, .int 3, .int 6] k = some (.int (s : Int)) ∧ 1 ≤ s ∧ s ≤ 6 := by
  have : k = 0 ∨ k = 1 ∨ k = 2 ∨ k = 3 ∨ k = 4 ∨ k = 5 ∨ k = 6 ∨ k = 7 ∨ k = 8 ∨ k = 9 := by omega
  rcases this with rfl | rfl | rfl | rfl | rfl | rfl | rfl | rfl | rfl | rfl
  · exact ⟨1, rfl, by decide, by decide⟩
  · exact ⟨1, rfl, by decide, by decide⟩
  · exact ⟨1, rfl, by decide, by decide⟩
  · exact ⟨2, rfl, by decide, by decide⟩
  · exact ⟨2, rfl, by decide, by decide⟩
  · exact ⟨2, rfl, by decide, by decide⟩
  · exact ⟨2, rfl, by decide, by decide⟩
  · exact ⟨3, rfl, by decide, by decide⟩
  · exact ⟨3, rfl, by decide, by decide⟩
  · exact ⟨6, rfl, by decide, by decide⟩
theorem TieAt.mk {K : PySem.W.Frag} {H : Hp} {a c : Addr} {tie : Tie} (h : SqT K H a [.int tie.1, .ref c]) (hc : FrT H c (tie.2.map V.int)) : TieAt K H (.ref a) tie := ⟨a, c, rfl, h, hc⟩
section
variable {P : Program} {w : World} {K : PySem.W.Frag} {mg : Str → Option Value} {base : Heap}
/-! ### _law_book -/
def spBook (K : PySem.W.Frag) : Sp := fun vs H Q _ => ∃ (hd dr : Addr) (x : Str), vs = [.ref hd, .str x] ∧ HandAt H hd dr ∧ (x = "" ∨ x ∈ words) ∧
  ∀ H' L (bk : List Rel), HX hd dr H H' → H L = none → BookL K H' L bk → 1 ≤ bk.length → bk.length ≤ 6 → (∀ rel ∈ bk, RelG rel) → Q (.ref L) H'
theorem ok_law_book (T : Txt K mg) : Ok P w K mg base 4 d_law_book ["_law_hand", "_law_word"] (spBook K) := by
  have G_law_take : Ok P w K mg base 1 d_law_take ["_law_hand", "_law_many"] (spTake K) := ok_law_take T
  have G_law_relation : Ok P w K mg base 3 d_law_relation ["_law_hand", "_law_word"] (spRelation K) := ok_law_relation T
  refine T.F_law_book.ok sc_law_book (fun vs H Q E h => ?_) (fun cdv A outer s H vs Q E hr h => ?_)
  · obtain ⟨hd, dr, x, rfl, _⟩ := h
    rfl
  obtain ⟨hd, dr, x, rfl, hh, hx, q⟩ := h
  refine ⟨_, PSs.nox (
  (pss_one (ps_ret (pe_lc (own := [("_law_k", 2)]) rfl sc_law_book.nd (pi_range1 (by rfl) T.z_range (pa_cons (pe_ix ix_list (pe_lst (pa_cons pe_int (pa_cons pe_int (pa_cons pe_int (pa_cons pe_int (pa_cons pe_int (pa_cons pe_int (pa_cons pe_int (pa_cons pe_int (pa_cons pe_int (pa_cons pe_int pa_nil))))))))))) (pe_call G_law_take (hr.mono (by omega)) (by rfl) T.g_law_take T.F_law_take.kp T.b_law_take .nil pass0 (pa_cons (pv 0) (pa_cons pe_int pa_nil))) (fun _ _ => rfl)) pa_nil)) (blkOk_by (own := [("_law_k", 2)]) (N := ["_law_hand", "_law_word", "_law_k"]) (sc := defScope s_law_book) (by decide +kernel)) (fun _ _ _ _ _ => (pg_name (i := 2) sc_law_book.nd rfl (Or.inl rfl))) (fun _ _ _ _ _ => pts_nil) (fun _ _ _ _ _ => (pe_call G_law_relation (hr.mono (by omega)) (by rfl) T.g_law_relation T.F_law_relation.kp T.b_law_relation .nil pass0 (pa_cons (pv 0) (pa_cons (pv 1) pa_nil)))))))
  ), ?_⟩
  refine ⟨(by show 10 ≤ sizeLine; decide), fun L0 hL0 => ?_⟩
  have x0 := HX.of hh (same_new (.lst [V.int 1, .int 1, .int 1, .int 2, .int 2, .int 2, .int 2, .int 3, .int 3, .int 6]) hL0)
  have hL0l : upd H L0 (.lst [V.int 1, .int 1, .int 1, .int 2, .int 2, .int 2, .int 2, .int 3, .int 3, .int 6]) L0 = some (.lst [V.int 1, .int 1, .int 1, .int 2, .int 2, .int 2, .int 2, .int 3, .int 3, .int 6]) := upd_same
  have nL0 := (hh.ne hL0).1
  generalize upd H L0 (.lst [V.int 1, .int 1, .int 1, .int 2, .int 2, .int 2, .int 2, .int 3, .int 3, .int 6]) = H0 at x0 hL0l ⊢
  refine ⟨_, rfl, hd, dr, 10, rfl, x0.hand, by decide, fun H1 k x1 k0 k1 => ?_⟩
  obtain ⟨c, hc, hc1, hc6⟩ := at10 k0 k1
  have x01 := x0.trans x1
  refine ⟨L0, _, k, _, rfl, rfl, .inl (.inl (x1.at nL0 hL0l)), hc, _, rfl, by omega, by omega, fun D hD => lc_range (n := ((c : Int)).toNat) (fun i H' => HX hd dr H H' ∧ ∃ (acc : List V) (bk : List Rel), H' D = some (.lst acc) ∧ acc.length = i ∧ bk.length = i ∧ (∀ (j : Nat) (rel : Rel), bk[j]? = some rel → ∃ x, acc[j]? = some x ∧ RelLAt K H' x rel) ∧ ∀ rel ∈ bk, RelG rel)
    ⟨x01.new _ hD, [], [], upd_same, rfl, rfl, fun j rel h => by simp at h, fun rel h => (nomatch h)⟩ ?_ ?_⟩
  · rintro i H2 hi ⟨x2, acc, bk, hacc, hal, hbl, hrel, hG⟩
    have hDn := x01.free hD
    have nD := (hh.ne hDn).1
    refine ⟨rfl, _, rfl, _, rfl, hd, dr, x, rfl, x2.hand, hx, fun H3 t v rel x3 ht hv hg => ?_⟩
    have hacc3 := x3.at nD hacc
    have im3 := x3.im x2.hand
    have im4 : Im H3 (upd H3 D (.lst (acc ++ [.ref t]))) := im_mut _ hacc3 rfl
    refine ⟨acc, hacc3, small1000 (by omega), (x2.trans x3).mut _ hh hDn, acc ++ [.ref t], bk ++ [rel], upd_same, by rw [List.length_append, hal]; rfl, by rw [List.length_append, hbl]; rfl, fun j r hr => ?_, fun r hr => ?_⟩
    · by_cases e : j < bk.length
      · rw [List.getElem?_append_left e] at hr
        obtain ⟨y, h1, h2⟩ := hrel j r hr
        exact ⟨y, by rw [List.getElem?_append_left (by omega)]; exact h1, (h2.im im3).im im4⟩
      · have e2 : j = bk.length := by
          have := (List.getElem?_eq_some_iff.mp hr).1
          rw [List.length_append, List.length_singleton] at this
          omega
        subst e2
        rw [List.getElem?_append_right (Nat.le_refl _), Nat.sub_self] at hr
        have e3 : rel = r := Option.some.inj hr
        subst e3
        refine ⟨.ref t, ?_, t, v, rfl, im4 _ _ rfl ht, hv.im im4⟩
        rw [hbl, ← hal, List.getElem?_append_right (Nat.le_refl _), Nat.sub_self]
        rfl
    · rcases List.mem_append.mp hr with z | z
      · exact hG r z
      · rw [List.mem_singleton.mp z]
        exact hg
  · rintro H2 ⟨x2, acc, bk, hacc, hal, hbl, hrel, hG⟩
    exact q _ D bk x2 (x01.free hD) ⟨acc, hacc, by omega, hrel⟩ (by omega) (by omega) hG
/-! ### _law_ties -/
def spTies (K : PySem.W.Frag) : Sp := fun vs H Q _ => ∃ (hd dr L : Addr) (n m : Nat) (bk : List Rel), vs = [.ref hd, .ref L, .int n, .int m] ∧ HandAt H hd dr ∧ L ≠ hd ∧ BookL K H L bk ∧ 1 ≤ bk.length ∧ bk.length ≤ 6 ∧ (∀ rel ∈ bk, RelG rel) ∧ 1 ≤ n ∧ n ≤ 5 ∧ m ≤ 6 ∧
  ∀ H' v (ties : List Tie), HX hd dr H H' → TiesAt K H' v ties → ties.length = m → (∀ tie ∈ ties, TieG bk n tie) → Q v H'
theorem ok_law_ties (T : Txt K mg) : Ok P w K mg base 2 d_law_ties ["_law_hand", "_law_book_here", "_law_cells", "_law_many"] (spTies K) := by
  have G_law_take : Ok P w K mg base 1 d_law_take ["_law_hand", "_law_many"] (spTake K) := ok_law_take T
  refine T.F_law_ties.ok sc_law_ties (fun vs H Q E h => ?_) (fun cdv A outer s H vs Q E hr h => ?_)
  · obtain ⟨hd, dr, L, n, m, bk, rfl, _⟩ := h
    rfl
  obtain ⟨hd, dr, L, n, m, bk, rfl, hh, nL, hB, hb1, hb6, hG, hn1, hn5, hm, q⟩ := h
  refine ⟨_, PSs.nox (
  (pss_cons (ps_set (i := 4) sc_law_ties.nd rfl (Or.inl rfl) (pe_lst pa_nil))
    (pss_cons (ps_for PassesOwn.never rfl (pi_range1 (by rfl) T.z_range (pa_cons (pv 3) pa_nil)) (pg_name (i := 5) sc_law_ties.nd rfl (Or.inl rfl))
      (pss_cons (ps_set (i := 6) sc_law_ties.nd rfl (Or.inl rfl) (pe_call G_law_take (hr.mono (by omega)) (by rfl) T.g_law_take T.F_law_take.kp T.b_law_take .nil pass0 (pa_cons (pv 0) (pa_cons (pe_callB call_len_seq (by rfl) T.z_len PySem.boot_len (pa_cons (pv 1) pa_nil)) pa_nil))))
      (pss_one (ps_expr (pe_bm PySem.F.plainAttrs_list PySem.F.slot_list_append PySem.F.type_list_append mt_append (pv 4) (pa_cons (pe_tup (pa_cons (pv 6) (pa_cons (pe_callTy call_tupF (by rfl) T.z_tuple (by decide +kernel) (pa_cons (pe_lc (own := [("_law_place", 7)]) rfl sc_law_ties.nd (pi_range1 (by rfl) T.z_range (pa_cons (pe_ix ix_tup (pe_ix ix_list (pv 1) (pv 6) (fun _ _ => rfl)) pe_int (fun _ _ => rfl)) pa_nil)) (blkOk_by (own := [("_law_place", 7)]) (N := ["_law_hand", "_law_book_here", "_law_cells", "_law_many", "_law_ties_here", "_law_k", "_law_number", "_law_place"]) (sc := defScope s_law_ties) (by decide +kernel)) (fun _ _ _ _ _ => (pg_name (i := 7) sc_law_ties.nd rfl (Or.inl rfl))) (fun _ _ _ _ _ => pts_nil) (fun _ _ _ _ _ => (pe_call G_law_take (hr.mono (by omega)) (by rfl) T.g_law_take T.F_law_take.kp T.b_law_take .nil pass0 (pa_cons (pv 0) (pa_cons (pv 2) pa_nil))))) pa_nil)) pa_nil))) pa_nil))))))
    (pss_one (ps_ret (pe_callTy call_tuple_of (by rfl) T.z_tuple (by decide +kernel) (pa_cons (pv 4) pa_nil))))))
  ), ?_⟩
  refine ⟨(by show 0 ≤ sizeLine; exact Nat.zero_le _), fun R hR => ?_⟩
  have nR := (hh.ne hR).1
  have x0 := HX.of hh (same_new (.lst []) hR)
  refine ⟨_, rfl, m, rfl, by omega, by omega, for_range (n := ((m : Int)).toNat) (fun i σ H' => ∃ (o5 o6 : Option V) (acc : List V) (ties : List Tie), σ = [some (.ref hd), some (.ref L), some (.int n), some (.int m), some (.ref R), o5, o6, none] ∧ HX hd dr H H' ∧ H' R = some (.lst acc) ∧ acc.length = i ∧ ties.length = i ∧ (∀ (j : Nat) (tie : Tie), ties[j]? = some tie → ∃ x, acc[j]? = some x ∧ TieAt K H' x tie) ∧ ∀ tie ∈ ties, TieG bk n tie)
    ⟨_, _, [], [], rfl, x0, upd_same, rfl, rfl, fun j tie h => by simp at h, fun tie h => (nomatch h)⟩ ?_ ?_⟩
  · rintro i σ H1 hi ⟨o5, o6, acc, ties, rfl, x1, hacc, hal, htl, htie, hTG⟩
    have hB1 := hB.hx x1 hh nL
    obtain ⟨xs, hL1, hxl, hrel⟩ := hB1
    refine ⟨_, rfl, _, rfl, L, xs, rfl, .inl (.inl (.inl hL1)), hd, dr, _, rfl, x1.hand, by omega, fun H2 k x2 k0 k1 => ?_⟩
    have hkl : k.toNat < bk.length := by omega
    have hbk := List.getElem?_eq_getElem hkl
    have hrg := hG _ (List.getElem_mem hkl)
    obtain ⟨y, hy, t, v, rfl, ht, hv⟩ := hrel _ _ hbk
    generalize bk[k.toNat] = rel at hbk hrg ht hv
    have hlo := hrg.lo
    have hhi := hrg.hi
    have im2 := x2.im x1.hand
    have x12 := x1.trans x2
    refine ⟨_, rfl, .inl ⟨rfl, _, .inl (.inl (x2.at nR hacc))⟩, _, rfl, _, rfl, _, rfl, L, _, k, _, rfl, rfl, .inl (.inl (x2.at nL hL1)), at_nn k0 hy, t, _, _, _, rfl, rfl, .inl (.inl (im2 _ _ rfl ht)), rfl, _, rfl, by omega, by omega, fun D hD => lc_range (n := rel.1.toNat) (fun j H' => HX hd dr H2 H' ∧ ∃ cs : List Int, H' D = some (.lst (cs.map V.int)) ∧ cs.length = j ∧ ∀ c ∈ cs, 0 ≤ c ∧ c < (n : Int))
      ⟨(HX.refl x2.hand).new _ hD, [], upd_same, rfl, fun c h => (nomatch h)⟩ ?_ ?_⟩
    · rintro j H3 hj ⟨x3, cs, hD3, hcl, hcs⟩
      have nD := (x2.hand.ne hD).1
      refine ⟨rfl, _, rfl, _, rfl, hd, dr, n, rfl, x3.hand, by omega, fun H4 c x4 c0 c1 => ?_⟩
      refine ⟨_, x4.at nD hD3, small1000 (by rw [List.length_map]; omega), (x3.trans x4).mut _ x2.hand hD, cs ++ [c], ?_, by rw [List.length_append, hcl]; rfl, fun d hd' => ?_⟩
      · rw [upd_same, List.map_append]
        rfl
      · rcases List.mem_append.mp hd' with z | z
        · exact hcs d z
        · rw [List.mem_singleton.mp z]
          exact ⟨c0, c1⟩
    rintro H3 ⟨x3, cs, hD3, hcl, hcs⟩
    refine ⟨D, _, rfl, .inl (.inl hD3), fun c o hc ho => ?_⟩
    have s4 : Same H3 (upd H3 c (.frz o (.tup (cs.map V.int)))) := same_new _ hc
    have hcF : FrT (upd H3 c (.frz o (.tup (cs.map V.int)))) c (cs.map V.int) := ⟨o, upd_same, ho⟩
    generalize upd H3 c (.frz o (.tup (cs.map V.int))) = H4 at s4 hcF ⊢
    refine ⟨(by show 2 ≤ sizeLine; decide), fun u hu => ?_⟩
    have s5 : Same H4 (upd H4 u (.tup [.int k, .ref c])) := same_new _ hu
    have hu5 : upd H4 u (.tup [.int k, .ref c]) u = some (.tup [.int k, .ref c]) := upd_same
    generalize upd H4 u (.tup [.int k, .ref c]) = H5 at s5 hu5 ⊢
    have x25 := x3.same (s4.trans s5)
    have hR5 := x25.at nR (x2.at nR hacc)
    have im15 := (x2.trans x25).im x1.hand
    have im6 : Im H5 (upd H5 R (.lst (acc ++ [.ref u]))) := im_mut _ hR5 rfl
    have hRn : H R = none := hR
    refine ⟨R, acc, _, rfl, rfl, hR5, small1000 (by omega), ?_⟩
    refine ⟨_, _, acc ++ [.ref u], ties ++ [(k, cs)], rfl, (x12.trans x25).mut _ hh hRn, upd_same, by rw [List.length_append, hal]; rfl, by rw [List.length_append, htl]; rfl, fun j tie htj => ?_, fun tie htm => ?_⟩
    · by_cases e : j < ties.length
      · rw [List.getElem?_append_left e] at htj
        obtain ⟨y, h1, h2⟩ := htie j tie htj
        exact ⟨y, by rw [List.getElem?_append_left (by omega)]; exact h1, (h2.im im15).im im6⟩
      · have e2 : j = ties.length := by
          have := (List.getElem?_eq_some_iff.mp htj).1
          rw [List.length_append, List.length_singleton] at this
          omega
        subst e2
        rw [List.getElem?_append_right (Nat.le_refl _), Nat.sub_self] at htj
        have e3 : (k, cs) = tie := Option.some.inj htj
        subst e3
        refine ⟨.ref u, ?_, u, c, rfl, .inl (.inl (im6 _ _ rfl hu5)), (hcF.same s5).im im6⟩
        rw [htl, ← hal, List.getElem?_append_right (Nat.le_refl _), Nat.sub_self]
        rfl
    · rcases List.mem_append.mp htm with z | z
      · exact hTG tie z
      · rw [List.mem_singleton.mp z]
        exact ⟨k0, ⟨rel, hbk, hcl⟩, hcs⟩
  · rintro σ H1 ⟨o5, o6, acc, ties, rfl, x1, hacc, hal, htl, htie, hTG⟩
    refine ⟨_, rfl, R, acc, rfl, .inl ⟨.inl (.inl hacc), fun u hu => ?_⟩⟩
    have s2 : Same H1 (upd H1 u (.tup acc)) := same_new _ hu
    refine q _ _ ties (x1.same s2) ⟨u, acc, rfl, .inl (.inl upd_same), by omega, fun j tie h => ?_⟩ (by omega) hTG
    obtain ⟨y, h1, h2⟩ := htie j tie h
    exact ⟨y, h1, h2.im (im_same s2)⟩
/-! ### _law_start -/
def spStartL (K : PySem.W.Frag) : Sp := fun vs H Q _ => ∃ (hd dr : Addr) (n : Nat) (m : Int), vs = [.ref hd, .int n, .int m] ∧ HandAt H hd dr ∧ n ≤ 5 ∧ 0 < m ∧
  ∀ H' a (st : List (Int × Int)), HX hd dr H H' → StAt K H' a st → StartG n st → Q (.ref a) H'
theorem ok_law_start (T : Txt K mg) : Ok P w K mg base 2 d_law_start ["_law_hand", "_law_cells", "_law_share"] (spStartL K) := by
  have G_law_take : Ok P w K mg base 1 d_law_take ["_law_hand", "_law_many"] (spTake K) := ok_law_take T
  refine T.F_law_start.ok sc_law_start (fun vs H Q E h => ?_) (fun cdv A outer s H vs Q E hr h => ?_)
  · obtain ⟨hd, dr, n, m, rfl, _⟩ := h
    rfl
  obtain ⟨hd, dr, n, m, rfl, hh, hn5, hm, q⟩ := h
  refine ⟨_, PSs.nox (
  (pss_cons (ps_set (i := 3) sc_law_start.nd rfl (Or.inl rfl) (pe_lst pa_nil))
    (pss_cons (ps_for PassesOwn.never rfl (pi_range1 (by rfl) T.z_range (pa_cons (pv 1) pa_nil)) (pg_name (i := 4) sc_law_start.nd rfl (Or.inl rfl))
      (pss_one (ps_if (pt_cmpR op_eq (pe_call G_law_take (hr.mono (by omega)) (by rfl) T.g_law_take T.F_law_take.kp T.b_law_take .nil pass0 (pa_cons (pv 0) (pa_cons (pv 2) pa_nil))) pe_int (nomark _))
        (pss_one (ps_expr (pe_bm PySem.F.plainAttrs_list PySem.F.slot_list_append PySem.F.type_list_append mt_append (pv 3) (pa_cons (pe_tup (pa_cons (pv 4) (pa_cons (pe_call G_law_take (hr.mono (by omega)) (by rfl) T.g_law_take T.F_law_take.kp T.b_law_take .nil pass0 (pa_cons (pv 0) (pa_cons pe_int pa_nil))) pa_nil))) pa_nil))))
        pss_nil)))
    (pss_one (ps_ret (pe_callTy call_tupF (by rfl) T.z_tuple (by decide +kernel) (pa_cons (pv 3) pa_nil))))))
  ), ?_⟩
  refine ⟨(by show 0 ≤ sizeLine; exact Nat.zero_le _), fun R hR => ?_⟩
  have nR := (hh.ne hR).1
  have x0 := HX.of hh (same_new (.lst []) hR)
  have hRn : H R = none := hR
  refine ⟨_, rfl, n, rfl, by omega, by omega, for_range (n := ((n : Int)).toNat) (fun i σ H' => ∃ (o4 : Option V) (ps : List Addr) (st : List (Int × Int)), σ = [some (.ref hd), some (.int n), some (.int m), some (.ref R), o4] ∧ HX hd dr H H' ∧ H' R = some (.lst (ps.map V.ref)) ∧ Paired (fun p (q : Int × Int) => SqT K H' p [.int q.1, .int q.2]) ps st ∧ st.Pairwise (fun p q => p.1 < q.1) ∧ (∀ p ∈ st, 0 ≤ p.1 ∧ p.1 < (i : Int) ∧ (p.2 = 0 ∨ p.2 = 1)) ∧ st.length ≤ i)
    ⟨_, [], [], rfl, x0, upd_same, .nil, .nil, fun p h => (nomatch h), Nat.le_refl _⟩ ?_ ?_⟩
  · rintro i σ H1 hi ⟨o4, ps, st, rfl, x1, hacc, hpr, hup, hok, hsl⟩
    have hpl := hpr.length
    refine ⟨_, rfl, _, rfl, hd, dr, m, rfl, x1.hand, hm, fun H2 k x2 k0 k1 => ⟨rfl, _, rfl, ?_⟩⟩
    have im2 := x2.im x1.hand
    refine ifB (fun _ => ?_) fun _ => ?_
    · refine ⟨_, rfl, .inl ⟨rfl, _, .inl (.inl (x2.at nR hacc))⟩, _, rfl, _, rfl, hd, dr, 2, rfl, x2.hand, by decide, fun H3 v x3 v0 v1 => ?_⟩
      have im3 := x3.im x2.hand
      refine ⟨(by show 2 ≤ sizeLine; decide), fun u hu => ?_⟩
      have s4 : Same H3 (upd H3 u (.tup [.int (0 + (i : Nat)), .int v])) := same_new _ hu
      have hu4 : upd H3 u (.tup [.int (0 + (i : Nat)), .int v]) u = some (.tup [.int (0 + (i : Nat)), .int v]) := upd_same
      have hR3 := x3.at nR (x2.at nR hacc)
      generalize upd H3 u (.tup [.int (0 + (i : Nat)), .int v]) = H4 at s4 hu4 ⊢
      have hR4 := s4 _ _ hR3
      have im5 : Im H4 (upd H4 R (.lst (ps.map V.ref ++ [.ref u]))) := im_mut _ hR4 rfl
      refine ⟨R, _, _, rfl, rfl, hR4, small1000 (by rw [List.length_map]; omega), ?_⟩
      refine ⟨_, ps ++ [u], st ++ [((0 : Int) + ((i : Nat) : Int), v)], rfl, (((x1.trans x2).trans x3).same s4).mut _ hh hRn, by rw [upd_same, List.map_append]; rfl, ?_, ?_, fun p hp => ?_, by rw [List.length_append]; exact Nat.succ_le_succ hsl⟩
      · exact PySem.Paired.snoc (L2.Paired.mapP hpr fun p q h => sqT_im im5 (sqT_same s4 (sqT_im im3 (sqT_im im2 h)))) (.inl (.inl (im5 _ _ rfl hu4)))
      · refine List.pairwise_append.mpr ⟨hup, List.pairwise_singleton _ _, fun a ha b hb => ?_⟩
        rw [List.mem_singleton.mp hb]
        have := (hok a ha).2.1
        show a.1 < 0 + (i : Int)
        omega
      · rcases List.mem_append.mp hp with z | z
        · have := hok p z
          exact ⟨this.1, by omega, this.2.2⟩
        · rw [List.mem_singleton.mp z]
          refine ⟨by show (0 : Int) ≤ 0 + (i : Int); omega, by show 0 + (i : Int) < _; omega, ?_⟩
          show v = 0 ∨ v = 1
          omega
    · exact ⟨_, ps, st, rfl, x1.trans x2, x2.at nR hacc, L2.Paired.mapP hpr fun p q h => sqT_im im2 h, hup, fun p hp => by have := hok p hp; exact ⟨this.1, by omega, this.2.2⟩, by omega⟩
  · rintro σ H1 ⟨o4, ps, st, rfl, x1, hacc, hpr, hup, hok, hsl⟩
    refine ⟨_, rfl, R, _, rfl, .inl (.inl hacc), fun a o ha ho => ?_⟩
    have s2 : Same H1 (upd H1 a (.frz o (.tup (ps.map V.ref)))) := same_new _ ha
    refine q _ a st (x1.same s2) ⟨ps, ⟨o, upd_same, ho⟩, L2.Paired.mapP hpr fun p q h => sqT_same s2 h⟩ ⟨hup, fun p hp => ?_⟩
    have := hok p hp
    exact ⟨this.1, by omega, this.2.2⟩
end
end EC


set_option Elab.async false
set_option linter.all false
set_option maxRecDepth 100000
set_option maxHeartbeats 4000000
namespace EC
open PySem PySem.Spec PyProof.Rows L2
/-! ### the program's book is like the law's -/
def Like (bk bk' : List Rel) : Prop := bk'.length = bk.length ∧ ∀ (i : Nat) (rel' : Rel), bk'[i]? = some rel' → ∃ rel, bk[i]? = some rel ∧ rel'.1 = rel.1 ∧ ∀ r, r ∈ rel'.2 ↔ r ∈ rel.2
theorem Like.rows {bk bk' : List Rel} (h : Like bk bk') (r : Int) (row : List Int) : row ∈ rowsAt bk' r ↔ row ∈ rowsAt bk r := by
  unfold rowsAt
  cases e : bk'[r.toNat]? with
  | none =>
    have e2 : bk[r.toNat]? = none := by
      rw [List.getElem?_eq_none_iff] at e ⊢
      rw [← h.1]
      exact e
    rw [e2]
  | some rel' =>
    obtain ⟨rel, h1, _, h3⟩ := h.2 _ rel' e
    rw [h1]
    exact h3 row
theorem Like.va {bk bk' : List Rel} (h : Like bk bk') : vaOf bk' = vaOf bk := by
  funext tie f p
  show (views bk' tie f).all p = (views bk tie f).all p
  rw [Bool.eq_iff_iff, List.all_eq_true, List.all_eq_true]
  unfold views
  constructor
  · intro k x hx
    obtain ⟨h1, h2⟩ := List.mem_filter.mp hx
    exact k x (List.mem_filter.mpr ⟨(h.rows _ _).mpr h1, h2⟩)
  · intro k x hx
    obtain ⟨h1, h2⟩ := List.mem_filter.mp hx
    exact k x (List.mem_filter.mpr ⟨(h.rows _ _).mp h1, h2⟩)
theorem Like.tie {bk bk' : List Rel} {n : Nat} {tie : Tie} (h : Like bk bk') (t : TieG bk n tie) : TieG bk' n tie := by
  obtain ⟨rel, h1, h2⟩ := t.rel
  have hl : tie.1.toNat < bk'.length := by
    rw [h.1]
    exact (List.getElem?_eq_some_iff.mp h1).1
  have e := List.getElem?_eq_getElem hl
  obtain ⟨rel2, h3, h4, _⟩ := h.2 _ _ e
  rw [h1] at h3
  cases h3
  exact ⟨t.lo, ⟨_, e, by rw [h4]; exact h2⟩, t.cells⟩
theorem Like.good {bk bk' : List Rel} {ties : List Tie} {n : Nat} (h : Like bk bk') (g : Good bk ties n) (r : ∀ rel ∈ bk', RelG rel) : Good bk' ties n :=
  ⟨by rw [h.1]; exact g.b1, by rw [h.1]; exact g.b6, r, g.n1, g.n5, g.t1, g.t6, fun tie ht => h.tie (g.tie tie ht)⟩
theorem make_same {H H' : Hp} {x dx : Addr} {o1 o2 : HO} (hx : H x = none) (hdx : H dx = none) (sx : SX x (upd (upd H dx o1) x o2) H') : Same H H' := fun b u e => by
  have n1 : b ≠ x := ne_of_none e hx
  refine sx b u n1 ?_
  rw [upd_ne n1, upd_ne (ne_of_none e hdx)]
  exact e
theorem make_new {H : Hp} {x dx : Addr} (o1 o2 : HO) (hx : H x = none) (hdx : H dx = none) (hne : dx ≠ x) : Same H (upd (upd H dx o1) x o2) :=
  same_nw _ (same_new _ hdx) (by rw [upd_ne hne.symm]; exact hx)
theorem RelsAt.snoc {K : PySem.W.Frag} {H : Hp} {xs : List V} {bk : List Rel} {p : Addr} {rel : Rel} (h : RelsAt K H xs bk) (hp : RelAt K H p rel) : RelsAt K H (xs ++ [.ref p]) (bk ++ [rel]) := by
  refine ⟨by rw [List.length_append, List.length_append, h.1]; rfl, fun i q hq => ?_⟩
  by_cases e : i < bk.length
  · rw [List.getElem?_append_left e] at hq
    obtain ⟨b', q1, q2⟩ := h.2 i q hq
    exact ⟨b', by rw [List.getElem?_append_left (by rw [h.1]; exact e)]; exact q1, q2⟩
  · have e2 : i = bk.length := by
      have := (List.getElem?_eq_some_iff.mp hq).1
      rw [List.length_append, List.length_singleton] at this
      omega
    subst e2
    rw [List.getElem?_append_right (Nat.le_refl _), Nat.sub_self] at hq
    have e3 : rel = q := Option.some.inj hq
    subst e3
    refine ⟨p, ?_, hp⟩
    rw [← h.1, List.getElem?_append_right (Nat.le_refl _), Nat.sub_self]
    rfl
section
variable {P : Program} {w : World} {K : PySem.W.Frag} {mg : Str → Option Value} {base : Heap}
/-! ### _law_puzzle -/
def spPuzzle (K : PySem.W.Frag) : Sp := fun vs H Q _ => ∃ (L : Addr) (n : Nat) (v : V) (bk : List Rel) (ties : List Tie), vs = [.ref L, .int n, v] ∧ BookL K H L bk ∧ Good bk ties n ∧ TiesAt K H v ties ∧
  ∀ H' p bk', Same H H' → PuzAt K H' p bk' ties n → Like bk bk' → Good bk' ties n → Q (.ref p) H'
theorem ok_law_puzzle (T : Txt K mg) : Ok P w K mg base 6 d_law_puzzle ["_law_book_here", "_law_cells", "_law_ties_here"] (spPuzzle K) := by
  have G_Relation_init : Ok P w K mg base 4 d_Relation_init ["self", "size", "rows"] (spRelInit K) := ok_Relation_init T
  have G_Book_init : Ok P w K mg base 2 d_Book_init ["self", "relations"] (spBookInit K) := ok_Book_init T
  have G_Puzzle_init : Ok P w K mg base 4 d_Puzzle_init ["self", "book", "cell_count", "ties"] (spPuzInit K) := ok_Puzzle_init T
  refine T.F_law_puzzle.ok sc_law_puzzle (fun vs H Q E h => ?_) (fun cdv A outer s H vs Q E hr h => ?_)
  · obtain ⟨L, n, v, bk, ties, rfl, _⟩ := h
    rfl
  obtain ⟨L, n, v, bk, ties, rfl, ⟨xs, hL, hxl, hrel⟩, hG, hT, q⟩ := h
  refine ⟨_, PSs.nox (
  (pss_one (ps_ret (pe_make T.m_Puzzle G_Puzzle_init (hr.mono (by omega)) (by rfl) T.g_Puzzle T.b_Puzzle_init .nil pass0 (pa_cons (pe_make T.m_Book G_Book_init (hr.mono (by omega)) (by rfl) T.g_Book T.b_Book_init .nil pass0 (pa_cons (pe_lc (own := [("_law_one", 3)]) rfl sc_law_puzzle.nd (pi_list (pv 0)) (blkOk_by (own := [("_law_one", 3)]) (N := ["_law_book_here", "_law_cells", "_law_ties_here", "_law_one"]) (sc := defScope s_law_puzzle) (by decide +kernel)) (fun _ _ _ _ _ => (pg_name (i := 3) sc_law_puzzle.nd rfl (Or.inl rfl))) (fun _ _ _ _ _ => pts_nil) (fun _ _ _ _ _ => (pe_make T.m_Relation G_Relation_init (hr.mono (by omega)) (by rfl) T.g_Relation T.b_Relation_init .nil pass0 (pa_cons (pe_ix (ix_tupK (K := K) rfl) (pv 3) pe_int (fun _ _ => rfl)) (pa_cons (pe_ix (ix_tupK (K := K) rfl) (pv 3) pe_int (fun _ _ => rfl)) pa_nil))))) pa_nil)) (pa_cons (pv 1) (pa_cons (pv 2) pa_nil))))))
  ), ?_⟩
  have hb1 := hG.b1
  have hb6 := hG.b6
  refine ⟨_, rfl, L, rfl, ⟨_, .inl (.inl hL)⟩, fun D hD => lc_list (xs := xs) (fun j H' => Same H H' ∧ ∃ (acc : List V) (bk' : List Rel), H' D = some (.lst acc) ∧ RelsAt K H' acc bk' ∧ bk'.length = j ∧ (∀ (i : Nat) (rel' : Rel), bk'[i]? = some rel' → ∃ rel, bk[i]? = some rel ∧ rel'.1 = rel.1 ∧ ∀ r, r ∈ rel'.2 ↔ r ∈ rel.2) ∧ ∀ rel ∈ bk', RelG rel)
    ⟨same_new _ hD, [], [], upd_same, ⟨rfl, fun i rel h => by simp at h⟩, rfl, fun i rel h => by simp at h, fun rel h => (nomatch h)⟩ (fun j H' _ h => .inl (.inl (h.1 _ _ hL))) ?_ ?_⟩
  · rintro j y H1 hj ⟨s1, acc, bk', hacc, hRA, hbl, hlike, hgood⟩
    have hjl := (List.getElem?_eq_some_iff.mp hj).1
    have hjb : j < bk.length := by omega
    have hbj := List.getElem?_eq_getElem hjb
    have hgj := hG.rel _ (List.getElem_mem hjb)
    obtain ⟨y', hy, t, v1, rfl, ht, hv⟩ := hrel j _ hbj
    rw [hj] at hy
    cases hy
    generalize bk[j] = rel at hbj hgj ht hv
    have ht1 := s1 _ _ ht
    have hal := hRA.1
    refine ⟨rfl, _, rfl, t, _, _, _, rfl, rfl, .inl (.inl ht1), rfl, _, rfl, t, _, _, _, rfl, rfl, .inl (.inl ht1), rfl, fun x dx hx hdx hne => ?_⟩
    have sn := make_new (.own x) (.ins (He.ga K "Relation") dx []) hx hdx hne
    refine ⟨x, dx, rel.1, v1, rel.2, rfl, upd_same, hv.im (im_same (s1.trans sn)), hgj, fun H' rows' sx hra hrg hmem => ⟨rfl, ?_⟩⟩
    have s2 := make_same hx hdx sx
    have hacc2 := s2 _ _ hacc
    have im : Im H' (upd H' D (.lst (acc ++ [.ref x]))) := im_mut _ hacc2 rfl
    refine ⟨acc, hacc2, small1000 (by omega), same_mut _ (s1.trans s2) hD, acc ++ [.ref x], bk' ++ [(rel.1, rows')], upd_same, ((hRA.im (im_same s2)).im im).snoc (hra.im im), by rw [List.length_append, hbl]; rfl, fun i r hr => ?_, fun r hr => ?_⟩
    · by_cases e : i < bk'.length
      · rw [List.getElem?_append_left e] at hr
        exact hlike i r hr
      · have e2 : i = bk'.length := by
          have := (List.getElem?_eq_some_iff.mp hr).1
          rw [List.length_append, List.length_singleton] at this
          omega
        subst e2
        rw [List.getElem?_append_right (Nat.le_refl _), Nat.sub_self] at hr
        have e3 : (rel.1, rows') = r := Option.some.inj hr
        subst e3
        exact ⟨rel, by rw [hbl]; exact hbj, rfl, hmem⟩
    · rcases List.mem_append.mp hr with z | z
      · exact hgood r z
      · rw [List.mem_singleton.mp z]
        exact hrg
  rintro H1 ⟨s1, acc, bk', hacc, hRA, hbl, hlike, hgood⟩
  have lk : Like bk bk' := ⟨by omega, hlike⟩
  refine fun x dx hx hdx hne => ?_
  have sn := make_new (.own x) (.ins (He.ga K "Book") dx []) hx hdx hne
  refine ⟨x, dx, D, acc, bk', H1, rfl, upd_same, hx, sn, hacc, hRA, by omega, by omega, fun H2 s2 hB => ⟨rfl, ?_⟩⟩
  refine ⟨_, rfl, _, rfl, fun x2 dx2 hx2 hdx2 hne2 => ?_⟩
  have sn2 := make_new (.own x2) (.ins (He.ga K "Puzzle") dx2 []) hx2 hdx2 hne2
  have s12 := s1.trans s2
  have hT2 : TiesAt K H2 v ties := hT.im (im_same s12)
  refine ⟨x2, dx2, x, n, v, H2, bk', ties, rfl, upd_same, hx2, sn2, hB, by omega, hgood, hT2, fun tie ht => lk.tie (hG.tie tie ht), fun H3 s3 hP => ⟨rfl, ?_⟩⟩
  exact q H3 x2 bk' (s12.trans s3) hP lk (lk.good hG hgood)
end
end EC


set_option Elab.async false
set_option linter.all false
set_option maxRecDepth 100000
set_option maxHeartbeats 4000000
namespace EC
open PySem PySem.Spec PyProof.Rows L2
theorem fits_drop {f : Fx} {cs r : List Int} {j : Nat} {c v : Int} (hc : cs[j]? = some c) (hv : r[j]? = some v) : fits f (cs.drop j) (r.drop j) = (decide ((f c).getD v = v) && fits (put f c v) (cs.drop (j + 1)) (r.drop (j + 1))) := by
  obtain ⟨h1, h2⟩ := List.getElem?_eq_some_iff.mp hc
  obtain ⟨h3, h4⟩ := List.getElem?_eq_some_iff.mp hv
  rw [List.drop_eq_getElem_cons h1, List.drop_eq_getElem_cons h3, h2, h4]
  rfl
section
variable {P : Program} {w : World} {K : PySem.W.Frag} {mg : Str → Option Value} {base : Heap}
/-! ### _law_views -/
def spViews (K : PySem.W.Frag) : Sp := fun vs H Q _ => ∃ (L fx : Addr) (x : V) (bk : List Rel) (n m : Nat) (tie : Tie) (f : Fx), vs = [.ref L, x, .ref fx] ∧ BookL K H L bk ∧ (∀ rel ∈ bk, RelG rel) ∧ TieAt K H x tie ∧ TieG bk n tie ∧ FxD H fx f m ∧ m ≤ 200 ∧
  ∀ H' R xs, Same H H' → H R = none → H' R = some (.lst xs) → RowsL K H' xs (views bk tie f) → Q (.ref R) H'
theorem ok_law_views (T : Txt K mg) : Ok P w K mg base 1 d_law_views ["_law_book_here", "_law_tie", "_law_fixed"] (spViews K) := by
  refine T.F_law_views.ok sc_law_views (fun vs H Q E h => ?_) (fun cdv A outer s H vs Q E hr h => ?_)
  · obtain ⟨L, fx, x, bk, n, m, tie, f, rfl, _⟩ := h
    rfl
  obtain ⟨L, fx, x, bk, n, m, tie, f, rfl, ⟨xs, hL, hxl, hrel⟩, hG, ⟨t, c, rfl, ht, hc⟩, tg, ⟨kvs, hk, hkl, hkv⟩, hm, q⟩ := h
  refine ⟨_, PSs.nox (
  (pss_cons (ps_set (i := 3) sc_law_views.nd rfl (Or.inl rfl) (pe_lst pa_nil))
    (pss_cons (ps_for PassesOwn.never rfl (pi_tup (pe_ix ix_tup (pe_ix ix_list (pv 0) (pe_ix ix_tup (pv 1) pe_int (fun _ _ => rfl)) (fun _ _ => rfl)) pe_int (fun _ _ => rfl))) (pg_name (i := 4) sc_law_views.nd rfl (Or.inl rfl))
      (pss_cons (ps_set (i := 5) sc_law_views.nd rfl (Or.inl rfl) (pe_callTy call_dictD (by rfl) T.z_dict (by decide +kernel) (pa_cons (pv 2) pa_nil)))
      (pss_cons (ps_for PassesOwn.never rfl (RZ.pi_zipA (by rfl) T.z_zip (pa_cons (pe_ix ix_tup (pv 1) pe_int (fun _ _ => rfl)) (pa_cons (pv 4) pa_nil))) (pg_tup rfl (pgs_cons (pg_name (i := 6) sc_law_views.nd rfl (Or.inl rfl)) (pgs_cons (pg_name (i := 7) sc_law_views.nd rfl (Or.inl rfl)) pgs_nil)))
        (pss_cons (ps_if (pt_cmpR op_ne (pe_dget2 (hu_of hr) (pv 5) (pv 6) (pv 7) ⟨rfl, rfl, rfl, rfl⟩) (pv 7) (nomark _))
          (pss_cons (ps_set (i := 5) sc_law_views.nd rfl (Or.inl rfl) pe_non)
          (pss_one ps_break))
          pss_nil)
        (pss_one (ps_dput (hu_of hr) (pv 5) (pv 6) (pv 7) rfl))))
      (pss_one (ps_if (pt_cmpR op_notN (pv 5) pe_non (nomark _))
        (pss_one (ps_expr (pe_bm PySem.F.plainAttrs_list PySem.F.slot_list_append PySem.F.type_list_append mt_append (pv 3) (pa_cons (pv 4) pa_nil))))
        pss_nil)))))
    (pss_one (ps_ret (pv 3)))))
  ), ?_⟩
  have tlo := tg.lo
  obtain ⟨rel, hbr, hlen⟩ := tg.rel
  have rg := hG rel (List.mem_of_getElem? hbr)
  obtain ⟨y, hy, bt, bv, rfl, hbt, hbv⟩ := hrel _ rel hbr
  obtain ⟨ra, rws, rfl, hra, hrl, hrx⟩ := hbv
  have hro : rowsAt bk tie.1 = rel.2 := by
    unfold rowsAt
    rw [hbr]
  have hcl : tie.2.length ≤ 4 := by
    have := rg.hi
    have := rg.lo
    omega
  have h16 := rg.len
  refine ⟨(by show 0 ≤ sizeLine; exact Nat.zero_le _), fun R hR => ?_⟩
  have s1 : Same H (upd H R (.lst [])) := same_new _ hR
  have hRn : H R = none := hR
  refine ⟨_, rfl, _, rfl, t, _, 0, _, rfl, rfl, sqT_same s1 ht, rfl, L, _, _, _, rfl, rfl, .inl (.inl (s1 _ _ hL)), at_nn tlo hy, bt, _, 1, _, rfl, rfl, .inl (.inl (s1 _ _ hbt)), rfl, ?_⟩
  refine ⟨ra, rfl, ⟨rws, sqT_same s1 hra⟩, for_tup (xs := rws) (fun i σ H' => ∃ (o4 o5 o6 o7 : Option V) (acc : List V), σ = [some (.ref L), some (.ref t), some (.ref fx), some (.ref R), o4, o5, o6, o7] ∧ Same H H' ∧ H' R = some (.lst acc) ∧ acc.length ≤ i ∧ RowsL K H' acc ((rel.2.take i).filter fun r => fits f tie.2 r))
    ⟨_, _, _, _, [], rfl, s1, upd_same, Nat.le_refl _, RowsL.nil⟩ (fun i σ H' _ h => by obtain ⟨_, _, _, _, _, _, e, _⟩ := h; exact sqT_same e hra) ?_ ?_⟩
  · rintro i x σ H1 hi ⟨o4, o5, o6, o7, acc, rfl, sm1, hacc, haccl, hrows⟩
    have hlt := (List.getElem?_eq_some_iff.mp hi).1
    have hlt2 : i < rel.2.length := by omega
    have hrow := List.getElem?_eq_getElem hlt2
    have hrl2 := (rg.rows _ (List.getElem_mem hlt2)).1
    obtain ⟨rr, hx1, hx2⟩ := hrx i rel.2[i] hrow
    rw [hi] at hx1
    cases hx1
    generalize rel.2[i] = row at hrow hx2 hrl2
    have hnext : (rel.2.take (i + 1)).filter (fun r => fits f tie.2 r) = (rel.2.take i).filter (fun r => fits f tie.2 r) ++ (if fits f tie.2 row then [row] else []) := take_filter _ _ hrow
    refine ⟨_, rfl, fx, kvs, rfl, .inl (sm1 _ _ hk), fun S hS => ?_⟩
    have s2 : Same H1 (upd H1 S (.dK kvs)) := same_new _ hS
    have hS1 : H1 S = none := hS
    have hSx : FxD (upd H1 S (.dK kvs)) S f m := ⟨kvs, upd_same, hkl, hkv⟩
    generalize upd H1 S (.dK kvs) = H2 at s2 hSx ⊢
    have sm2 := sm1.trans s2
    have hzl : tie.2.length = min (tie.2.map V.int).length (row.map V.int).length := by
      rw [List.length_map, List.length_map]
      omega
    have hr2 : SqT K H2 rr (row.map V.int) := .inl (.inl (sm2 _ _ hx2))
    refine ⟨_, rfl, t, _, 1, _, rfl, rfl, sqT_same sm2 ht, rfl, _, rfl, c, rr, _, _, rfl, .inr ⟨sqT_same sm2 hc.sq, hr2, for_it (walk_zipT hzl)
      (fun j σ H' => ∃ (o6 o7 : Option V) (g : Fx), σ = [some (.ref L), some (.ref t), some (.ref fx), some (.ref R), some (.ref rr), some (.ref S), o6, o7] ∧ Same H1 H' ∧ FxD H' S g (m + j) ∧ fits f tie.2 row = fits g (tie.2.drop j) (row.drop j))
      ⟨_, _, f, rfl, s2, hSx, by rw [List.drop_zero, List.drop_zero]⟩ (fun j σ H' _ h => by obtain ⟨_, _, _, _, e, _⟩ := h; exact ⟨sqT_same (sm1.trans e) hc.sq, .inl (.inl ((sm1.trans e) _ _ hx2))⟩) ?_ ?_⟩⟩
    · rintro j x σ H3 H4 hj ⟨o6, o7, g, rfl, s3, hg, hfit⟩ ⟨T1, x1, x2, rfl, hT1, rfl, e1, e2⟩
      change (tie.2.map V.int)[j]? = some x1 at e1
      change (row.map V.int)[j]? = some x2 at e2
      rw [List.getElem?_map] at e1 e2
      obtain ⟨z, hz, rfl⟩ := Option.map_eq_some_iff.mp e1
      obtain ⟨v, hv, rfl⟩ := Option.map_eq_some_iff.mp e2
      have s4 : Same H3 (upd H3 T1 (.tup [.int z, .int v])) := same_new _ hT1
      refine ⟨T1, _, rfl, .inl (.inl upd_same), rfl, _, _, rfl, _, _, rfl, rfl, ?_⟩
      generalize upd H3 T1 (.tup [.int z, .int v]) = H4 at s4 ⊢
      have hg4 := hg.same s4
      have hgz := hg4.get z
      have hfd := fits_drop (f := g) hz hv
      have hIsD : IsD H4 S := by
        obtain ⟨kk, h1, _⟩ := hg4
        exact .inl ⟨kk, .inl h1⟩
      refine ⟨_, rfl, S, rfl, hIsD, _, rfl, _, rfl, _, hgz, _, rfl, ?_⟩
      have hval : (((g z).map V.int).getD (.int v)) = .int ((g z).getD v) := by
        cases g z <;> rfl
      rw [hval]
      refine ⟨rfl, _, rfl, ?_⟩
      rw [dec_ne]
      by_cases e : (g z).getD v = v
      · refine ifNT (decide_eq_true e) ?_
        obtain ⟨H5, hput, hg5, o, rfl⟩ := hg4.put (by omega) z v
        refine ⟨_, rfl, _, rfl, _, rfl, S, _, rfl, hput, _, _, put g z v, rfl, same_mut _ (s3.trans s4) hS1, hg5, ?_⟩
        rw [hfit, hfd, decide_eq_true e, Bool.true_and]
      · refine ifNF (decide_eq_false e) ?_
        have hff : fits f tie.2 row = false := by
          rw [hfit, hfd, decide_eq_false e, Bool.false_and]
        have s14 := s3.trans s4
        refine ⟨_, rfl, rfl, _, rfl, ?_⟩
        rw [if_neg (by rw [hff]; exact Bool.false_ne_true), List.append_nil] at hnext
        refine iteF ⟨_, _, _, _, acc, rfl, sm1.trans s14, s14 _ _ hacc, by omega, ?_⟩
        rw [hnext]
        exact hrows.im (im_same s14)
    · rintro σ H3 ⟨o6, o7, g, rfl, s3, hg, hfit⟩
      have hff : fits f tie.2 row = true := by
        rw [hfit, List.drop_length]
        rfl
      rw [if_pos hff] at hnext
      have hacc3 := s3 _ _ hacc
      refine ⟨_, rfl, rfl, _, rfl, ?_⟩
      refine iteT ⟨_, rfl, .inl ⟨rfl, _, .inl (.inl hacc3)⟩, _, rfl, R, acc, _, rfl, rfl, hacc3, small1000 (by omega), ?_⟩
      have im : Im H3 (upd H3 R (.lst (acc ++ [.ref rr]))) := im_mut _ hacc3 rfl
      refine ⟨_, _, _, _, _, rfl, same_mut _ (sm1.trans s3) hRn, upd_same, by rw [List.length_append]; exact Nat.succ_le_succ haccl, ?_⟩
      rw [hnext]
      exact (hrows.im ((im_same s3).trans im)).snoc (.inl (.inl (im _ _ rfl (s3 _ _ (sm1 _ _ hx2)))))
  · rintro σ H1 ⟨o4, o5, o6, o7, acc, rfl, sm1, hacc, haccl, hrows⟩
    refine ⟨_, rfl, q H1 R acc sm1 hRn hacc ?_⟩
    unfold views
    rw [hro]
    rw [List.take_of_length_le (by omega)] at hrows
    exact hrows
end
end EC


set_option Elab.async false
set_option linter.all false
set_option maxRecDepth 100000
set_option maxHeartbeats 4000000
namespace EC
open PySem PySem.Spec PyProof.Rows L2
theorem filter_some {α : Type} (p : α → Bool) (l : List α) : decide (0 < (l.filter p).length) = l.any p := by
  cases e : l.any p with
  | true =>
    obtain ⟨x, hx, hp⟩ := List.any_eq_true.mp e
    exact decide_eq_true (List.length_pos_of_mem (List.mem_filter.mpr ⟨hx, hp⟩))
  | false =>
    refine decide_eq_false fun h => ?_
    obtain ⟨x, hx⟩ := List.exists_mem_of_length_pos h
    obtain ⟨h1, h2⟩ := List.mem_filter.mp hx
    rw [List.any_eq_true.mpr ⟨x, h1, h2⟩] at e
    cases e
theorem filter_none {α : Type} (p : α → Bool) (l : List α) : decide (0 < (l.filter fun x => !p x).length) = !l.all p := by
  rw [filter_some]
  cases e : l.all p with
  | true =>
    refine Bool.eq_false_iff.mpr fun h => ?_
    obtain ⟨x, hx, hp⟩ := List.any_eq_true.mp h
    rw [List.all_eq_true.mp e x hx] at hp
    cases hp
  | false =>
    obtain ⟨x, hx, hp⟩ := List.all_eq_false.mp e
    exact List.any_eq_true.mpr ⟨x, hx, by simpa using hp⟩
theorem at_rd {row : List Int} {c : Int} (h0 : 0 ≤ c) (h1 : c < (row.length : Int)) : atI (row.map V.int) c = some (.int (rd row c)) := by
  have hl : c.toNat < row.length := by omega
  refine at_nn h0 ?_
  rw [List.getElem?_map, List.getElem?_eq_getElem hl]
  unfold rd
  rw [List.getD_eq_getElem?_getD, List.getElem?_eq_getElem hl]
  rfl
section
variable {P : Program} {w : World} {K : PySem.W.Frag} {mg : Str → Option Value} {base : Heap}
/-! ### _law_fillings -/
def spFillings (K : PySem.W.Frag) : Sp := fun vs H Q _ => ∃ (L a : Addr) (n : Nat) (v : V) (bk : List Rel) (ties : List Tie) (st : List (Int × Int)), vs = [.ref L, .int n, v, .ref a] ∧ BookL K H L bk ∧ Good bk ties n ∧ TiesAt K H v ties ∧ StAt K H a st ∧ StartG n st ∧
  ∀ H' R xs, Same H H' → H R = none → H' R = some (.lst xs) → decide (0 < xs.length) = filled bk ties n st → Q (.ref R) H'
theorem ok_law_fillings (T : Txt K mg) : Ok P w K mg base 2 d_law_fillings ["_law_book_here", "_law_cells", "_law_ties_here", "_law_start_here"] (spFillings K) := by
  have G_law_all_rows : Ok P w K mg base 1 d_law_all_rows ["_law_many"] (spAllRows K) := ok_law_all_rows T
  refine T.F_law_fillings.ok sc_law_fillings (fun vs H Q E h => ?_) (fun cdv A outer s H vs Q E hr h => ?_)
  · obtain ⟨L, a, n, v, bk, ties, st, rfl, _⟩ := h
    rfl
  obtain ⟨L, a, n, v, bk, ties, st, rfl, ⟨bxs, hL, hbl, hrel⟩, hG, ⟨ta, ts, rfl, ht1, ht2, ht3⟩, hS, S, q⟩ := h
  refine ⟨_, PSs.nox (
  (pss_cons (ps_set (i := 4) sc_law_fillings.nd rfl (Or.inl rfl) (pe_lst pa_nil))
    (pss_cons (ps_for PassesOwn.never rfl (pi_list (pe_call G_law_all_rows (hr.mono (by omega)) (by rfl) T.g_law_all_rows T.F_law_all_rows.kp T.b_law_all_rows .nil pass0 (pa_cons (pv 1) pa_nil))) (pg_name (i := 5) sc_law_fillings.nd rfl (Or.inr rfl))
      (pss_cons (ps_if (pt_cmpR op_gt (pe_callB call_len_seq (by rfl) T.z_len PySem.boot_len (pa_cons (pe_lc (own := [("_law_cell", 9), ("_law_value", 10)]) rfl sc_law_fillings.nd (pi_tup (pv 3)) (blkOk_by (own := [("_law_cell", 9), ("_law_value", 10)]) (N := ["_law_book_here", "_law_cells", "_law_ties_here", "_law_start_here", "_law_found", "_law_row", "_law_good", "_law_number", "_law_places", "_law_cell", "_law_value"]) (sc := defScope s_law_fillings) (by decide +kernel)) (fun _ _ _ _ _ => (pg_tupK (n := 2) (K := K) rfl rfl (pgs_cons (pg_name (i := 9) sc_law_fillings.nd rfl (Or.inl rfl)) (pgs_cons (pg_name (i := 10) sc_law_fillings.nd rfl (Or.inl rfl)) pgs_nil)))) (fun _ _ _ _ _ => pts_one (pt_cmpR op_ne (pe_ix (ix_tupK (K := K) rfl) (pv 5) (pv 9) (fun _ _ => rfl)) (pv 10) (nomark _))) (fun _ _ _ _ _ => pe_int)) pa_nil)) pe_int (nomark _))
        (pss_one ps_continue)
        pss_nil)
      (pss_cons (ps_set (i := 6) sc_law_fillings.nd rfl (Or.inl rfl) pe_bl)
      (pss_cons (ps_for PassesOwn.never rfl (pi_tup (pv 2)) (pg_tup rfl (pgs_cons (pg_name (i := 7) sc_law_fillings.nd rfl (Or.inl rfl)) (pgs_cons (pg_name (i := 8) sc_law_fillings.nd rfl (Or.inl rfl)) pgs_nil)))
        (pss_one (ps_if (pt_cmpR (op_ninT (u65 hr)) (pe_callTy call_tuple_of (by rfl) T.z_tuple (by decide +kernel) (pa_cons (pe_lc (own := [("_law_cell", 9)]) rfl sc_law_fillings.nd (pi_tup (pv 8)) (blkOk_by (own := [("_law_cell", 9)]) (N := ["_law_book_here", "_law_cells", "_law_ties_here", "_law_start_here", "_law_found", "_law_row", "_law_good", "_law_number", "_law_places", "_law_cell", "_law_value"]) (sc := defScope s_law_fillings) (by decide +kernel)) (fun _ _ _ _ _ => (pg_name (i := 9) sc_law_fillings.nd rfl (Or.inl rfl))) (fun _ _ _ _ _ => pts_nil) (fun _ _ _ _ _ => (pe_ix (ix_tupK (K := K) rfl) (pv 5) (pv 9) (fun _ _ => rfl)))) pa_nil)) (pe_ix ix_tup (pe_ix ix_list (pv 0) (pv 7) (fun _ _ => rfl)) pe_int (fun _ _ => rfl)) (by rfl))
          (pss_cons (ps_set (i := 6) sc_law_fillings.nd rfl (Or.inl rfl) pe_bl)
          (pss_one ps_break))
          pss_nil)))
      (pss_one (ps_if (pt_val (pv 6))
        (pss_one (ps_expr (pe_bm PySem.F.plainAttrs_list PySem.F.slot_list_append PySem.F.type_list_append mt_append (pv 4) (pa_cons (pv 5) pa_nil))))
        pss_nil))))))
    (pss_one (ps_ret (pv 4)))))
  ), ?_⟩
  obtain ⟨sxs, hs, hsl, hsx⟩ := hS.sq
  have hn5 := hG.n5
  have hst5 := start_len S
  refine ⟨(by show 0 ≤ sizeLine; exact Nat.zero_le _), fun R hR => ?_⟩
  have s1 : Same H (upd H R (.lst [])) := same_new _ hR
  have hRn : H R = none := hR
  have hRl : upd H R (.lst []) R = some (.lst []) := upd_same
  generalize upd H R (.lst []) = H1 at s1 hRl ⊢
  refine ⟨_, rfl, n, rfl, hn5, fun H2 A rws s2 hAn hA hRw => ?_⟩
  have hrl := hRw.1
  have hal : (allRows n).length ≤ 32 := by
    rw [allRows_len]
    exact Nat.le_trans (Nat.pow_le_pow_right (by decide) hn5) (by decide)
  have s12 := s1.trans s2
  have hRA : A ≠ R := by
    rintro rfl
    rw [hRl] at hAn
    cases hAn
  have hA0 : H A = none := same_free s1 hAn
  refine ⟨A, rfl, ⟨_, .inl (.inl hA)⟩, for_list (xs := rws) (fun i σ H' => ∃ (o5 o6 o7 o8 : Option V) (acc : List V), σ = [some (.ref L), some (.int n), some (.ref ta), some (.ref a), some (.ref R), o5, o6, o7, o8, none, none] ∧ Same H H' ∧ H' A = some (.lst rws) ∧ RowsP H' rws (allRows n) ∧ H' R = some (.lst acc) ∧ acc.length ≤ i ∧ acc.length = (((allRows n).take i).filter fun row => keepsB st row && tiesB bk ties row).length)
    ⟨_, _, _, _, [], rfl, s12, hA, hRw, s2 _ _ hRl, Nat.le_refl _, rfl⟩ (fun i σ H' _ h => by obtain ⟨_, _, _, _, _, _, _, e, _⟩ := h; exact .inl (.inl e)) ?_ ?_⟩
  · rintro i x σ H3 hi ⟨o5, o6, o7, o8, acc, rfl, s3, hA3, hRw3, hacc, haccl, hlen⟩
    have hil := (List.getElem?_eq_some_iff.mp hi).1
    have hir : i < (allRows n).length := by omega
    have hrow := List.getElem?_eq_getElem hir
    have hmem := (mem_allRows n _).mp (List.getElem_mem hir)
    obtain ⟨b, hb1, hb2⟩ := hRw3.2 i _ hrow
    rw [hi] at hb1
    cases hb1
    have hnext := take_filter (fun row => keepsB st row && tiesB bk ties row) _ hrow
    generalize (allRows n)[i] = row at hrow hb2 hmem hnext
    have hs3 := sqT_same s3 hs
    refine ⟨_, rfl, a, rfl, ⟨_, hs3⟩, fun D hD => lc_tup (xs := sxs) (fun j H' => Same H3 H' ∧ ∃ out : List V, H' D = some (.lst out) ∧ out.length = ((st.take j).filter fun p => !decide (rd row p.1 = p.2)).length ∧ out.length ≤ j)
      ⟨same_new _ hD, [], upd_same, rfl, Nat.le_refl _⟩ (fun j H' _ h => sqT_same h.1 hs3) ?_ ?_⟩
    · rintro j y H4 hj ⟨s4, out, hout, hol, holj⟩
      have hjl := (List.getElem?_eq_some_iff.mp hj).1
      have hjs : j < st.length := by omega
      have hsj := List.getElem?_eq_getElem hjs
      obtain ⟨p, hp1, hp2⟩ := hsx j _ hsj
      rw [hj] at hp1
      cases hp1
      have hok := S.ok _ (List.getElem_mem hjs)
      generalize st[j] = pr at hsj hp2 hok
      have hn := take_filter (fun p : Int × Int => !decide (rd row p.1 = p.2)) _ hsj
      refine ⟨p, _, rfl, sqT_same (s3.trans s4) hp2, rfl, _, _, rfl, _, _, rfl, rfl, rfl, ?_⟩
      refine ⟨_, rfl, _, rfl, b, _, _, _, rfl, rfl, .inl (.inl (s4 _ _ hb2)), at_rd (row := row) (c := pr.1) hok.1 (by omega), _, rfl, rfl, _, rfl, ?_⟩
      rw [dec_ne]
      cases e : decide (rd row pr.1 = pr.2) with
      | true =>
        rw [if_neg (by rw [e]; decide), List.append_nil] at hn
        exact iteF ⟨s4, out, hout, by rw [hn]; exact hol, by omega⟩
      | false =>
        rw [if_pos (by rw [e]; rfl)] at hn
        exact iteT ⟨out, hout, small1000 (by omega), same_mut _ s4 hD, _, upd_same, by rw [hn, List.length_append, List.length_append, hol]; rfl, by rw [List.length_append]; exact Nat.succ_le_succ holj⟩
    rintro H4 ⟨s4, out, hout, hol, holj⟩
    rw [List.take_of_length_le (by omega)] at hol
    have s34 := s3.trans s4
    have hacc4 := s4 _ _ hacc
    have hRw4 := hRw3.im (im_same s4)
    refine ⟨D, out, rfl, .inl (.inl (.inl hout)), _, _, rfl, rfl, _, rfl, ?_⟩
    have ek : decide ((0 : Int) < (out.length : Int)) = !keepsB st row := by
      have h1 := filter_none (fun p : Int × Int => decide (rd row p.1 = p.2)) st
      rw [← hol] at h1
      rw [show keepsB st row = st.all (fun p : Int × Int => decide (rd row p.1 = p.2)) from rfl, ← h1, decide_eq_decide]
      omega
    rw [ek]
    cases e : keepsB st row with
    | false =>
      rw [if_neg (by rw [e]; exact Bool.false_ne_true), List.append_nil] at hnext
      exact iteT ⟨_, _, _, _, acc, rfl, s34, s4 _ _ hA3, hRw4, hacc4, by omega, by rw [hnext]; exact hlen⟩
    | true =>
    rw [e, Bool.true_and] at hnext
    refine iteF ?_
    have ht4 := sqT_same s34 ht1
    have hb4 := s4 _ _ hb2
    refine ⟨_, rfl, ta, rfl, ⟨_, ht4⟩, for_tup (xs := ts) (fun j σ H' => ∃ (o7 o8 : Option V), σ = [some (.ref L), some (.int n), some (.ref ta), some (.ref a), some (.ref R), some (.ref b), some (.bl true), o7, o8, none, none] ∧ Same H4 H' ∧ tiesB bk ties row = tiesB bk (ties.drop j) row)
      ⟨_, _, rfl, .refl _, rfl⟩ (fun j σ H' _ h => by obtain ⟨_, _, _, e, _⟩ := h; exact sqT_same e ht4) ?_ ?_⟩
    · rintro j y σ H5 hj ⟨o7, o8, rfl, s5, htb⟩
      have hjl := (List.getElem?_eq_some_iff.mp hj).1
      have hjt : j < ties.length := by omega
      have htj := List.getElem?_eq_getElem hjt
      obtain ⟨y', hy', u, c, rfl, hu, hc⟩ := ht3 j _ htj
      rw [hj] at hy'
      cases hy'
      have tg := hG.tie _ (List.getElem_mem hjt)
      have hdrop : ties.drop j = ties[j] :: ties.drop (j + 1) := List.drop_eq_getElem_cons hjt
      rw [hdrop] at htb
      have htb2 : tiesB bk (ties[j] :: ties.drop (j + 1)) row = (decide (ties[j].2.map (rd row) ∈ rowsAt bk ties[j].1) && tiesB bk (ties.drop (j + 1)) row) := rfl
      rw [htb2] at htb
      clear htb2 hdrop
      generalize ties[j] = tie at tg hu hc htb
      have s35 := s34.trans s5
      have tlo := tg.lo
      obtain ⟨rel, hbr, htl⟩ := tg.rel
      have rg := hG.rel rel (List.mem_of_getElem? hbr)
      have hro : rowsAt bk tie.1 = rel.2 := by
        unfold rowsAt
        rw [hbr]
      have hcl : tie.2.length ≤ 4 := by
        have := rg.hi
        have := rg.lo
        omega
      obtain ⟨z, hz, bt, bv, rfl, hbt, hbv⟩ := hrel _ rel hbr
      refine ⟨u, _, rfl, sqT_same s35 hu, rfl, _, _, rfl, _, _, rfl, rfl, ?_⟩
      have hc5 := (hc.same s35).sq (K := K)
      refine ⟨_, rfl, c, rfl, ⟨_, hc5⟩, fun D2 hD2 => lc_tup (xs := tie.2.map V.int) (fun g H' => Same H5 H' ∧ H' D2 = some (.lst (((tie.2.take g).map (rd row)).map V.int)))
        ⟨same_new _ hD2, upd_same⟩ (fun g H' _ h => sqT_same h.1 hc5) ?_ ?_⟩
      · rintro g y H6 hg ⟨s6, hD6⟩
        rw [List.getElem?_map] at hg
        obtain ⟨z, hz, rfl⟩ := Option.map_eq_some_iff.mp hg
        have hzc := tg.cells z (List.mem_of_getElem? hz)
        refine ⟨rfl, _, rfl, _, rfl, b, _, _, _, rfl, rfl, .inl (.inl ((s5.trans s6) _ _ hb4)), at_rd hzc.1 (by omega), _, hD6, small1000 (by rw [List.length_map, List.length_map, List.length_take]; omega), same_mut _ s6 hD2, ?_⟩
        rw [upd_same, List.take_succ, hz]
        simp
      rintro H6 ⟨s6, hD6⟩
      rw [List.length_map, List.take_length] at hD6
      refine ⟨D2, _, rfl, .inl ⟨.inl (.inl hD6), fun p hp => ?_⟩⟩
      have s7 : Same H6 (upd H6 p (.tup ((tie.2.map (rd row)).map V.int))) := same_new _ hp
      have hp7 : upd H6 p (.tup ((tie.2.map (rd row)).map V.int)) p = some (.tup ((tie.2.map (rd row)).map V.int)) := upd_same
      generalize upd H6 p (.tup ((tie.2.map (rd row)).map V.int)) = H7 at s7 hp7 ⊢
      have s57 := s6.trans s7
      have s37 := s35.trans s57
      have hbv7 := (hbv.im (im_same s37)).dp
      have h16 := rg.len
      refine ⟨_, rfl, _, rfl, L, _, _, _, rfl, rfl, .inl (.inl (s37 _ _ hL)), at_nn tlo hz, bt, _, 1, _, rfl, rfl, .inl (.inl (s37 _ _ hbt)), rfl, ?_⟩
      refine ⟨eI (tie.2.map (rd row)), rel.2.map eI, eI_mk (.inl (.inl hp7)), hbv7, shaped_row (by rw [List.length_map]; omega), ?_, _, rfl, ?_⟩
      · refine fine_shaped (n := 2) ⟨by rw [List.length_map]; omega, fun d hd => ?_⟩ (by decide)
        obtain ⟨r, hr, rfl⟩ := List.mem_map.mp hd
        refine fine_ints ?_ 0
        have := (rg.rows r hr).1
        have := rg.hi
        omega
      · rw [any_rows, ← hro]
        have s47 := s5.trans s57
        cases e2 : decide (tie.2.map (rd row) ∈ rowsAt bk tie.1) with
        | true =>
          rw [e2, Bool.true_and] at htb
          exact iteF ⟨_, _, rfl, s47, htb⟩
        | false =>
          rw [e2, Bool.false_and] at htb
          refine iteT ⟨_, rfl, _, rfl, iteF ?_⟩
          rw [if_neg (by rw [htb]; exact Bool.false_ne_true), List.append_nil] at hnext
          exact ⟨_, _, _, _, acc, rfl, s34.trans s47, (s4.trans s47) _ _ hA3, hRw4.im (im_same s47), s47 _ _ hacc4, by omega, by rw [hnext]; exact hlen⟩
    · rintro σ H5 ⟨o7, o8, rfl, s5, htb⟩
      rw [List.drop_eq_nil_of_le (by omega)] at htb
      have htb' : tiesB bk ties row = true := htb
      rw [if_pos htb'] at hnext
      have hacc5 := s5 _ _ hacc4
      refine ⟨_, rfl, _, rfl, iteT ⟨_, rfl, .inl ⟨rfl, _, .inl (.inl hacc5)⟩, _, rfl, R, acc, _, rfl, rfl, hacc5, small1000 (by omega), ?_⟩⟩
      have im : Im H5 (upd H5 R (.lst (acc ++ [.ref b]))) := im_mut _ hacc5 rfl
      exact ⟨_, _, _, _, _, rfl, same_mut _ (s34.trans s5) hRn, by rw [upd_ne hRA]; exact (s4.trans s5) _ _ hA3, (hRw4.im (im_same s5)).im im, upd_same, by rw [List.length_append]; exact Nat.succ_le_succ haccl, by rw [hnext, List.length_append, List.length_append, hlen]; rfl⟩
  · rintro σ H3 ⟨o5, o6, o7, o8, acc, rfl, s3, hA3, hRw3, hacc, haccl, hlen⟩
    rw [List.take_of_length_le (by omega)] at hlen
    refine ⟨_, rfl, q H3 R acc s3 hRn hacc ?_⟩
    rw [hlen]
    exact filter_some _ _
end
end EC


set_option Elab.async false
set_option linter.all false
set_option maxRecDepth 100000
set_option maxHeartbeats 4000000
namespace EC
open PySem PySem.Spec PyProof.Rows L2
theorem step_inv {ties : List Tie} {s : PyData} {tie : Tie} {i v : Int} (h : stepOf ties s = some (tie, i, v)) : ∃ t : Int, s = .tuple [.int t, .int i, .int v] ∧ 0 ≤ t ∧ ties[t.toNat]? = some tie ∧ i ∈ tie.2 ∧ 0 ≤ v ∧ v < 2 := by
  cases e : areB s 3 with
  | false =>
    rw [stepOf_len e] at h
    cases h
  | true =>
    obtain ⟨a, b, c, rfl⟩ := areB3 e
    obtain ⟨t, rfl, h0, h1, rfl, rfl, h2⟩ := stepOf_inv h
    exact ⟨t, rfl, h0, h1, h2⟩
theorem are_tup (d : PyData) : areB d (-1) = isTupD d := by
  cases d <;> rfl
section
variable {P : Program} {w : World} {K : PySem.W.Frag} {mg : Str → Option Value} {base : Heap}
theorem TiesAt.get {H : Hp} {a : Addr} {ties : List Tie} {t : Int} {tie : Tie} (h : TiesAt K H (.ref a) ties) (h0 : 0 ≤ t) (ht : ties[t.toNat]? = some tie) : ∃ (ts : List V) (u c : Addr), SqT K H a ts ∧ ts.length = ties.length ∧ atI ts t = some (.ref u) ∧ SqT K H u [.int tie.1, .ref c] ∧ FrT H c (tie.2.map V.int) := by
  obtain ⟨a', ts, e, h1, h2, h3⟩ := h
  cases e
  obtain ⟨x, hx, u, c, rfl, hu, hc⟩ := h3 _ _ ht
  exact ⟨ts, u, c, h1, h2, at_nn h0 hx, hu, hc⟩
/-! ### _law_is_step -/
def spStepL (K : PySem.W.Frag) : Sp := fun vs H Q _ => ∃ (a : Addr) (x y : V) (d : PyData) (bk : List Rel) (ties : List Tie) (n : Nat), vs = [.ref a, x, y] ∧ TiesAt K H (.ref a) ties ∧ Good bk ties n ∧ Dp K H x d ∧ Q (.bl (stepOf ties d).isSome) H
theorem ok_law_is_step (T : Txt K mg) : Ok P w K mg base 2 d_law_is_step ["_law_ties_here", "_law_step", "_law_fixed"] (spStepL K) := by
  have G_law_are : Ok P w K mg base 1 d_law_are ["_law_value", "_law_many"] (spAre K) := ok_law_are T
  have G_law_is_number : Ok P w K mg base 1 d_law_is_number ["_law_value", "_law_most"] (spNum K) := ok_law_is_number T
  refine T.F_law_is_step.ok sc_law_is_step (fun vs H Q E h => ?_) (fun cdv A outer s H vs Q E hr h => ?_)
  · obtain ⟨a, x, y, d, bk, ties, n, rfl, _⟩ := h
    rfl
  obtain ⟨a, x, y, d, bk, ties, n, rfl, hT, hG, hd, q⟩ := h
  refine ⟨_, PSs.nox (
  (pss_cons (ps_if (PW.pt (pw_or (pt_not (pt_val (pe_call G_law_are (hr.mono (by omega)) (by rfl) T.g_law_are T.F_law_are.kp T.b_law_are .nil pass0 (pa_cons (pv 1) (pa_cons pe_int pa_nil))))) (pw_or (pt_not (pt_val (pe_call G_law_is_number (hr.mono (by omega)) (by rfl) T.g_law_is_number T.F_law_is_number.kp T.b_law_is_number .nil pass0 (pa_cons (pe_ix ix_tup (pv 1) pe_int (fun _ _ => rfl)) (pa_cons (pe_callB call_len_seq (by rfl) T.z_len PySem.boot_len (pa_cons (pv 0) pa_nil)) pa_nil))))) (pw_or1 (pt_not (pt_val (pe_call G_law_is_number (hr.mono (by omega)) (by rfl) T.g_law_is_number T.F_law_is_number.kp T.b_law_is_number .nil pass0 (pa_cons (pe_ix ix_tup (pv 1) pe_int (fun _ _ => rfl)) (pa_cons pe_int pa_nil)))))))))
      (pss_one (ps_ret pe_bl))
      pss_nil)
    (pss_one (ps_ret (pe_and (pe_call G_law_is_number (hr.mono (by omega)) (by rfl) T.g_law_is_number T.F_law_is_number.kp T.b_law_is_number .nil pass0 (pa_cons (pe_ix ix_tup (pv 1) pe_int (fun _ _ => rfl)) (pa_cons (pe_op op_pow pe_int pe_int) pa_nil))) (pe_one (pe_cmpR op_in_seq (pe_ix ix_tup (pv 1) pe_int (fun _ _ => rfl)) (pe_ix ix_tup (pe_ix ix_tup (pv 0) (pe_ix ix_tup (pv 1) pe_int (fun _ _ => rfl)) (fun _ _ => rfl)) pe_int (fun _ _ => rfl)) (by rfl)))))))
  ), ?_⟩
  refine ⟨_, rfl, x, d, 3, rfl, hd, _, rfl, ?_⟩
  cases e : areB d 3 with
  | false =>
    rw [stepOf_len e] at q
    exact iteT q
  | true =>
  obtain ⟨da, db, dc, rfl⟩ := areB3 e
  obtain ⟨sa, ys, rfl, hys, hds⟩ := dp_tup hd
  cases hds with
  | cons hxa r1 =>
  cases r1 with
  | cons hxb r2 =>
  cases r2 with
  | cons hxc r3 =>
  cases r3
  have hT' := hT
  obtain ⟨a', ts, ea, ht1, ht2, ht3⟩ := hT
  cases ea
  refine iteF ⟨_, rfl, sa, _, 0, _, rfl, rfl, hys, rfl, _, rfl, a, ts, rfl, .inr ht1, _, da, _, rfl, hxa, _, rfl, ?_⟩
  rw [ht2, ← tieAt_numB]
  cases e1 : tieAt ties da with
  | none =>
    rw [stepOf_tie e1] at q
    exact iteT q
  | some tie =>
  obtain ⟨t, rfl, ht0, hti⟩ := tieAt_int e1
  have ev1 := dp_int hxa
  subst ev1
  refine iteF ⟨_, rfl, sa, _, 2, _, rfl, rfl, hys, rfl, _, dc, 2, rfl, hxc, _, rfl, ?_⟩
  cases e2 : numB dc 2 with
  | false =>
    rw [stepOf_c e2] at q
    exact iteT q
  | true =>
  obtain ⟨v, rfl, hv0, hv1⟩ := numB_int e2
  refine iteF ⟨_, rfl, sa, _, 1, _, rfl, rfl, hys, rfl, _, _, rfl, rfl, ⟨by decide, by decide, by decide⟩, _, db, _, rfl, hxb, _, rfl, ?_⟩
  have tg := hG.tie tie (List.mem_of_getElem? hti)
  have hn5 := hG.n5
  cases e3 : numB db ((10 : Int) ^ (9 : Int).toNat) with
  | false =>
    have e4 : stepOf ties (.tuple [.int t, db, .int v]) = none := by
      cases db <;> try rfl
      rename_i i
      refine stepOf_out e1 fun k => ?_
      have g := tg.cells i k
      have hb : i < (10 : Int) ^ (9 : Int).toNat := by
        show i < (10 : Int) ^ 9
        omega
      rw [numB_in g.1 hb] at e3
      cases e3
    rw [e4] at q
    exact iteF q
  | true =>
  obtain ⟨i, rfl, hi0, _⟩ := numB_int e3
  have ev2 := dp_int hxb
  subst ev2
  obtain ⟨ts', u, c, h1, h2, hat, hu, hc⟩ := hT'.get ht0 hti
  refine iteT ⟨_, rfl, sa, _, 1, _, rfl, rfl, hys, rfl, _, rfl, _, rfl, sa, _, 0, _, rfl, rfl, hys, rfl, a, _, t, _, rfl, rfl, h1, hat, u, _, 1, _, rfl, rfl, hu, rfl, c, _, rfl, .inr hc.sq, rfl, flat_ints _, ?_⟩
  have e4 : (if false = true then !inV (.int i) (tie.2.map V.int) else inV (.int i) (tie.2.map V.int)) = decide (i ∈ tie.2) := inV_int
  rw [e4]
  by_cases hm : i ∈ tie.2
  · rw [stepOf_in e1 hm hv0 hv1] at q
    rw [decide_eq_true hm]
    exact q
  · rw [stepOf_out e1 hm] at q
    rw [decide_eq_false hm]
    exact q
/-! ### _law_is_chain -/
def spChainL (K : PySem.W.Frag) : Sp := fun vs H Q _ => ∃ (L a s : Addr) (v y : V) (d e : PyData) (k n : Nat) (bk : List Rel) (ties : List Tie) (st : List (Int × Int)), vs = [.ref L, .ref a, .ref s, v, y] ∧ BookL K H L bk ∧ Good bk ties n ∧ TiesAt K H (.ref a) ties ∧ StAt K H s st ∧ StartG n st ∧ Dp K H v d ∧ fine k d ∧ Dp K H y e ∧
  ∀ H', Same H H' → Q (.bl (chainD bk ties (lookS st) d e)) H'
theorem ok_law_is_chain (T : Txt K mg) : Ok P w K mg base 3 d_law_is_chain ["_law_book_here", "_law_ties_here", "_law_start_here", "_law_steps_here", "_law_t"] (spChainL K) := by
  have G_law_are : Ok P w K mg base 1 d_law_are ["_law_value", "_law_many"] (spAre K) := ok_law_are T
  have G_law_is_number : Ok P w K mg base 1 d_law_is_number ["_law_value", "_law_most"] (spNum K) := ok_law_is_number T
  have G_law_is_step : Ok P w K mg base 2 d_law_is_step ["_law_ties_here", "_law_step", "_law_fixed"] (spStepL K) := ok_law_is_step T
  have G_law_views : Ok P w K mg base 1 d_law_views ["_law_book_here", "_law_tie", "_law_fixed"] (spViews K) := ok_law_views T
  refine T.F_law_is_chain.ok sc_law_is_chain (fun vs H Q E h => ?_) (fun cdv A outer s H vs Q E hr h => ?_)
  · obtain ⟨L, a, s, v, y, d, e, k, n, bk, ties, st, rfl, _⟩ := h
    rfl
  obtain ⟨L, a, so, v, y, d, e, k, n, bk, ties, st, rfl, hB, hG, hT, hS, S, hd, hf, he, q⟩ := h
  refine ⟨_, PSs.nox (
  (pss_cons (ps_set (i := 5) sc_law_is_chain.nd rfl (Or.inl rfl) (pe_callTy (call_dictT rfl) (by rfl) T.z_dict (by decide +kernel) (pa_cons (pv 2) pa_nil)))
    (pss_cons (ps_if (pt_not (pt_val (pe_call G_law_are (hr.mono (by omega)) (by rfl) T.g_law_are T.F_law_are.kp T.b_law_are .nil pass0 (pa_cons (pv 3) (pa_cons (pe_un un_neg pe_int) pa_nil)))))
      (pss_one (ps_ret pe_bl))
      pss_nil)
    (pss_cons (ps_for PassesOwn.never rfl (pi_tup (pv 3)) (pg_name (i := 6) sc_law_is_chain.nd rfl (Or.inr rfl))
      (pss_cons (ps_if (PW.pt (pw_or (pt_not (pt_val (pe_call G_law_is_step (hr.mono (by omega)) (by rfl) T.g_law_is_step T.F_law_is_step.kp T.b_law_is_step .nil pass0 (pa_cons (pv 1) (pa_cons (pv 6) (pa_cons (pv 5) pa_nil)))))) (pw_or1 (pt_cmp (pc_din (hu_of hr) (pe_ix ix_tup (pv 6) pe_int (fun _ _ => rfl)) (pv 5))))))
        (pss_one (ps_ret pe_bl))
        pss_nil)
      (pss_cons (ps_set (i := 7) sc_law_is_chain.nd rfl (Or.inr rfl) (pe_ix ix_tup (pv 1) (pe_ix ix_tup (pv 6) pe_int (fun _ _ => rfl)) (fun _ _ => rfl)))
      (pss_cons (ps_set (i := 8) sc_law_is_chain.nd rfl (Or.inl rfl) (pe_call G_law_views (hr.mono (by omega)) (by rfl) T.g_law_views T.F_law_views.kp T.b_law_views .nil pass0 (pa_cons (pv 0) (pa_cons (pv 7) (pa_cons (pv 5) pa_nil)))))
      (pss_cons (ps_if (PW.pt (pw_or (pt_cmpR op_eq (pe_callB call_len_seq (by rfl) T.z_len PySem.boot_len (pa_cons (pv 8) pa_nil)) pe_int (nomark _)) (pw_or1 (pt_cmpR op_gt (pe_callB call_len_seq (by rfl) T.z_len PySem.boot_len (pa_cons (pe_lc (own := [("_law_row", 9)]) rfl sc_law_is_chain.nd (pi_list (pv 8)) (blkOk_by (own := [("_law_row", 9)]) (N := ["_law_book_here", "_law_ties_here", "_law_start_here", "_law_steps_here", "_law_t", "_law_fixed", "_law_step", "_law_tie", "_law_views_here", "_law_row"]) (sc := defScope s_law_is_chain) (by decide +kernel)) (fun _ _ _ _ _ => (pg_name (i := 9) sc_law_is_chain.nd rfl (Or.inl rfl))) (fun _ _ _ _ _ => pts_one (pt_cmpR op_ne (pe_ix (ix_tupK (K := K) rfl) (pv 9) (pe_tix (pe_ix (ix_tupK (K := K) rfl) (pv 7) pe_int (fun _ _ => rfl)) (pa_cons (pe_ix (ix_tupK (K := K) rfl) (pv 6) pe_int (fun _ _ => rfl)) pa_nil)) (fun _ _ => rfl)) (pe_ix (ix_tupK (K := K) rfl) (pv 6) pe_int (fun _ _ => rfl)) (nomark _))) (fun _ _ _ _ _ => (pv 9))) pa_nil)) pe_int (nomark _)))))
        (pss_one (ps_ret pe_bl))
        pss_nil)
      (pss_one (ps_dput (hu_of hr) (pv 5) (pe_ix ix_tup (pv 6) pe_int (fun _ _ => rfl)) (pe_ix ix_tup (pv 6) pe_int (fun _ _ => rfl)) rfl)))))))
    (pss_one (ps_ret (pe_and (pe_call G_law_is_number (hr.mono (by omega)) (by rfl) T.g_law_is_number T.F_law_is_number.kp T.b_law_is_number .nil pass0 (pa_cons (pv 4) (pa_cons (pe_callB call_len_seq (by rfl) T.z_len PySem.boot_len (pa_cons (pv 1) pa_nil)) pa_nil))) (pe_one (pe_cmpR op_eq (pe_callB call_len_seq (by rfl) T.z_len PySem.boot_len (pa_cons (pe_call G_law_views (hr.mono (by omega)) (by rfl) T.g_law_views T.F_law_views.kp T.b_law_views .nil pass0 (pa_cons (pv 0) (pa_cons (pe_ix ix_tup (pv 1) (pv 4) (fun _ _ => rfl)) (pa_cons (pv 5) pa_nil)))) pa_nil)) pe_int (nomark _)))))))))
  ), ?_⟩
  obtain ⟨ps, hps1, hps2⟩ := hS.pairs
  have hn5 := hG.n5
  have hsl := start_len S
  refine ⟨_, rfl, so, ps, _, rfl, hps1, hps2, fun F hFn => ?_⟩
  have hFx := fxD_start (H := H) (D := F) (st := st)
  have s2 : Same H (upd H F (.dK (mergeK [] (st.map fun p => ((Sum.inl p.1 : Key), V.int p.2))))) := same_new _ hFn
  have hF0 : H F = none := hFn
  generalize upd H F (.dK (mergeK [] (st.map fun p => ((Sum.inl p.1 : Key), V.int p.2)))) = H2 at hFx s2 ⊢
  generalize hfe : lookS st = f at hFx q
  refine ⟨_, rfl, _, rfl, v, d, -1, rfl, dp_same s2 hd, _, rfl, ?_⟩
  rw [are_tup]
  cases e4 : isTupD d with
  | false =>
    have e5 : chainD bk ties f d e = false := by
      cases d <;> first | rfl | cases e4
    have := q _ s2
    rw [e5] at this
    exact iteT this
  | true =>
    refine iteF ?_
    obtain ⟨ss, rfl⟩ := tupD_yes e4
    obtain ⟨_, rfl, hlen, hff⟩ := fine_tup hf
    obtain ⟨sa0, xs, rfl, hs, hds⟩ := dp_tup hd
    have hxl := dpAll_len hds
    refine ⟨_, rfl, sa0, rfl, ⟨_, sqT_same s2 hs⟩, for_tup (xs := xs) (fun i σ H' => ∃ (o6 o7 o8 : Option V) (g : Fx), σ = [some (.ref L), some (.ref a), some (.ref so), some (.ref sa0), some y, some (.ref F), o6, o7, o8, none] ∧ Same H H' ∧ FxD H' F g (st.length + i) ∧ chainRun (vaOf bk) ties f (ss.take i) = some g)
      ⟨_, _, _, f, rfl, s2, hFx, rfl⟩ (fun i σ H' _ h => by obtain ⟨_, _, _, _, _, e, _⟩ := h; exact sqT_same e hs) ?_ ?_⟩
    · rintro i x σ H3 hi ⟨o6, o7, o8, g, rfl, s3, hg, hrun⟩
      have hlt := (List.getElem?_eq_some_iff.mp hi).1
      obtain ⟨sd, hst, hdx⟩ := dpAll_at hds hi
      have hnx := chainRun_next hst hrun
      have hdx3 := dp_same s3 hdx
      have hT3 := hT.im (im_same s3)
      have stop : chainRun (vaOf bk) ties f (ss.take (i + 1)) = none → ∀ H', Same H H' → Q (.bl false) H' := fun z H' s' => by
        have := q H' s'
        rw [show chainD bk ties f (.tuple ss) e = false from chainOk_stop (chainRun_stop z)] at this
        exact this
      refine ⟨_, rfl, _, rfl, _, rfl, a, x, _, sd, bk, ties, n, rfl, hT3, hG, hdx3, _, rfl, ?_⟩
      cases e5 : stepOf ties sd with
      | none =>
        refine iteT (stop ?_ _ s3)
        rw [hnx]
        unfold stepRun
        rw [e5]
      | some u =>
        obtain ⟨tie, c, vv⟩ := u
        obtain ⟨t, rfl, ht0, hti, hct, hv0, hv1⟩ := step_inv e5
        have htm : tie ∈ ties := List.mem_of_getElem? hti
        obtain ⟨sa, ys, rfl, hys, hds3⟩ := dp_tup hdx3
        cases hds3 with
        | cons hxa r1 =>
        cases r1 with
        | cons hxb r2 =>
        cases r2 with
        | cons hxc r3 =>
        cases r3
        have ev1 := dp_int hxa
        have ev2 := dp_int hxb
        have ev3 := dp_int hxc
        subst ev1 ev2 ev3
        refine iteF ?_
        refine ⟨_, rfl, sa, _, 1, _, rfl, rfl, hys, rfl, _, rfl, F, _, rfl, hg.get c, _, rfl, ?_⟩
        cases e6 : g c with
        | some w =>
          refine iteT (stop ?_ _ s3)
          rw [hnx]
          unfold stepRun
          rw [e5]
          exact if_neg fun k => by rw [e6] at k; cases k.1
        | none =>
          refine iteF ?_
          obtain ⟨ts, u, cc, h1, h2, hat, hu, hc⟩ := hT3.get ht0 hti
          refine ⟨_, rfl, _, rfl, sa, _, 0, _, rfl, rfl, hys, rfl, a, ts, t, _, rfl, rfl, h1, hat, ?_⟩
          refine ⟨_, rfl, _, rfl, _, rfl, L, F, _, bk, n, st.length + i, tie, g, rfl, hB.same s3, hG.rel, ⟨u, cc, rfl, hu, hc⟩, hG.tie tie htm, hg, by omega, fun H5 R rs s5 hR hRx hrows => ?_⟩
          have sm5 := s3.trans s5
          have hys5 := sqT_same s5 hys
          refine ⟨_, rfl, R, rs, rfl, .inl (.inl (.inl hRx)), rfl, _, rfl, ?_⟩
          rw [dec_len hrows.1]
          cases e7 : decide ((views bk tie g).length = 0) with
          | true =>
            refine iteT (stop ?_ _ sm5)
            rw [hnx]
            unfold stepRun
            rw [e5]
            exact if_neg fun k => by
              have := k.2.1
              rw [va_empty, e7] at this
              cases this
          | false =>
            have h16 := views_len (f := g) hG htm
            have hrl := hrows.1
            refine iteF ⟨_, rfl, R, rfl, ⟨_, .inl (.inl hRx)⟩, fun D hD => lc_list (xs := rs) (fun j H' => Same H5 H' ∧ ∃ acc : List V, H' D = some (.lst acc) ∧ acc.length = (((views bk tie g).take j).filter fun r => !decide (valAt tie.2 r c = vv)).length ∧ acc.length ≤ j)
              ⟨same_new _ hD, [], upd_same, rfl, Nat.le_refl _⟩ (fun j H' _ h => .inl (.inl (h.1 _ _ hRx))) ?_ ?_⟩
            · rintro j x H6 hj ⟨s6, acc, hacc, hal, halj⟩
              have hjl := (List.getElem?_eq_some_iff.mp hj).1
              have hjv : j < (views bk tie g).length := by omega
              have hvj := List.getElem?_eq_getElem hjv
              have hmem := List.getElem_mem hjv
              obtain ⟨rb, hb1, hb2⟩ := hrows.2 j _ hvj
              rw [hj] at hb1
              cases hb1
              have hn := take_filter (fun r => !decide (valAt tie.2 r c = vv)) _ hvj
              generalize (views bk tie g)[j] = r at hvj hmem hb2 hn
              have hrlen := view_len hG htm hmem
              have hc6 := (hc.same s5).same s6
              have hu6 := sqT_same s6 (sqT_same s5 hu)
              have hys6 := sqT_same s6 hys5
              refine ⟨rfl, _, rfl, _, rfl, u, _, 1, _, rfl, rfl, hu6, rfl, cc, _, rfl, hc6, _, rfl, sa, _, 1, _, rfl, rfl, hys6, rfl, .int c, tie.2.idxOf c, .int c, rfl, hc6, rfl, flat_ints _, tix_at hct, by rw [eqV_int]; exact decide_eq_true rfl, tix_no, rb, _, _, _, rfl, rfl, sqT_same s6 hb2, at_val hct hrlen, ?_⟩
              refine ⟨_, rfl, sa, _, 2, _, rfl, rfl, hys6, rfl, rfl, _, rfl, ?_⟩
              rw [dec_ne]
              cases e8 : decide (valAt tie.2 r c = vv) with
              | true =>
                rw [if_neg (by rw [e8]; decide), List.append_nil] at hn
                exact iteF ⟨s6, acc, hacc, by rw [hn]; exact hal, by omega⟩
              | false =>
                rw [if_pos (by rw [e8]; rfl)] at hn
                exact iteT ⟨_, rfl, acc, hacc, small1000 (by omega), same_mut _ s6 hD, _, upd_same, by rw [hn, List.length_append, List.length_append, hal]; rfl, by rw [List.length_append]; exact Nat.succ_le_succ halj⟩
            · rintro H6 ⟨s6, acc, hacc, hal, halj⟩
              rw [List.take_of_length_le (by omega)] at hal
              have sm6 := sm5.trans s6
              have hys6 := sqT_same s6 hys5
              refine ⟨D, _, rfl, .inl (.inl (.inl hacc)), _, _, rfl, rfl, _, rfl, ?_⟩
              have ek : decide ((0 : Int) < (acc.length : Int)) = !vaOf bk tie g (fun r => decide (valAt tie.2 r c = vv)) := by
                have h1 := filter_none (fun r => decide (valAt tie.2 r c = vv)) (views bk tie g)
                rw [← hal] at h1
                rw [show vaOf bk tie g (fun r => decide (valAt tie.2 r c = vv)) = (views bk tie g).all (fun r => decide (valAt tie.2 r c = vv)) from rfl, ← h1, decide_eq_decide]
                omega
              rw [ek]
              cases e9 : vaOf bk tie g (fun r => decide (valAt tie.2 r c = vv)) with
              | false =>
                refine iteT (stop ?_ _ sm6)
                rw [hnx]
                unfold stepRun
                rw [e5]
                exact if_neg fun k => by
                  have := k.2.2
                  rw [e9] at this
                  cases this
              | true =>
                obtain ⟨H7, hput, hg7, o, rfl⟩ := ((hg.same s5).same s6).put (by omega) c vv
                refine iteF ⟨_, rfl, sa, _, 2, _, rfl, rfl, hys6, rfl, _, rfl, _, rfl, sa, _, 1, _, rfl, rfl, hys6, rfl, F, _, rfl, hput, _, _, _, put g c vv, rfl, same_mut _ sm6 hF0, hg7, ?_⟩
                rw [hnx]
                unfold stepRun
                rw [e5]
                refine if_pos ⟨e6, ?_, e9⟩
                rw [va_empty, e7]
    · rintro σ H3 ⟨o6, o7, o8, g, rfl, s3, hg, hrun⟩
      rw [List.take_of_length_le (by omega)] at hrun
      have e5 : chainD bk ties f (.tuple ss) e = endOk (vaOf bk) ties g e := by
        show chainOk _ _ _ _ _ = _
        unfold chainOk
        rw [hrun]
      rw [e5] at q
      have hT3 := hT.im (im_same s3)
      have hT3' := hT3
      obtain ⟨a', ts, ea, ht1, ht2, ht3⟩ := hT3
      cases ea
      have he3 := dp_same s3 he
      refine ⟨_, rfl, _, rfl, a, ts, rfl, .inr ht1, y, e, _, rfl, he3, _, rfl, ?_⟩
      rw [ht2, ← tieAt_numB]
      unfold endOk at q
      cases e6 : tieAt ties e with
      | none =>
        rw [e6] at q
        exact iteF (q _ s3)
      | some tie =>
        rw [e6] at q
        obtain ⟨t, rfl, ht0, hti⟩ := tieAt_int e6
        have ev := dp_int he3
        subst ev
        obtain ⟨ts', u, cc, h1, h2, hat, hu, hc⟩ := hT3'.get ht0 hti
        refine iteT ⟨_, rfl, _, rfl, _, rfl, a, ts', t, _, rfl, rfl, h1, hat, _, rfl, L, F, _, bk, n, _, tie, g, rfl, hB.same s3, hG.rel, ⟨u, cc, rfl, hu, hc⟩, hG.tie tie (List.mem_of_getElem? hti), hg, by omega, fun H5 R rs s5 hR hRx hrows => ?_⟩
        refine ⟨R, rs, rfl, .inl (.inl (.inl hRx)), rfl, ?_⟩
        have := q _ (s3.trans s5)
        rw [dec_len hrows.1, ← va_empty]
        exact this
end
end EC


set_option Elab.async false
set_option linter.all false
set_option maxRecDepth 100000
set_option maxHeartbeats 4000000
namespace EC
open PySem PySem.Spec PyProof.Rows L2
def wayE (bk : List Rel) (ties : List Tie) (f : Fx) (c0 v0 e1 e2 : Int) : PyData → Bool
  | .tuple ss => !ss.isEmpty && wayOk (vaOf bk) ties f e1 e2 c0 v0 ss
  | _ => false
section
variable {P : Program} {w : World} {K : PySem.W.Frag} {mg : Str → Option Value} {base : Heap}
/-! ### _law_is_way -/
def spWayL (K : PySem.W.Frag) : Sp := fun vs H Q _ => ∃ (L a s et : Addr) (v : V) (c0 v0 e1 e2 : Int) (d : PyData) (k n : Nat) (bk : List Rel) (ties : List Tie) (st : List (Int × Int)), vs = [.ref L, .ref a, .ref s, v, .int c0, .int v0, .ref et] ∧ H et = some (.tup [.int e1, .int e2]) ∧ BookL K H L bk ∧ Good bk ties n ∧ TiesAt K H (.ref a) ties ∧ StAt K H s st ∧ StartG n st ∧ Dp K H v d ∧ fine k d ∧
  ∀ H', Same H H' → Q (.bl (wayE bk ties (lookS st) c0 v0 e1 e2 d)) H'
theorem ok_law_is_way (T : Txt K mg) : Ok P w K mg base 3 d_law_is_way ["_law_book_here", "_law_ties_here", "_law_start_here", "_law_way", "_law_cell", "_law_value", "_law_end"] (spWayL K) := by
  have G_law_are : Ok P w K mg base 1 d_law_are ["_law_value", "_law_many"] (spAre K) := ok_law_are T
  have G_law_is_step : Ok P w K mg base 2 d_law_is_step ["_law_ties_here", "_law_step", "_law_fixed"] (spStepL K) := ok_law_is_step T
  have G_law_views : Ok P w K mg base 1 d_law_views ["_law_book_here", "_law_tie", "_law_fixed"] (spViews K) := ok_law_views T
  refine T.F_law_is_way.ok sc_law_is_way (fun vs H Q E h => ?_) (fun cdv A outer s H vs Q E hr h => ?_)
  · obtain ⟨L, a, so, et, v, c0, v0, e1, e2, d, k, n, bk, ties, st, rfl, _⟩ := h
    rfl
  obtain ⟨L, a, so, et, v, c0, v0, e1, e2, d, k, n, bk, ties, st, rfl, het, hB, hG, hT, hS, S, hd, hf, q⟩ := h
  refine ⟨_, PSs.nox (
  (pss_cons (ps_if (PW.pt (pw_or (pt_not (pt_val (pe_call G_law_are (hr.mono (by omega)) (by rfl) T.g_law_are T.F_law_are.kp T.b_law_are .nil pass0 (pa_cons (pv 3) (pa_cons (pe_un un_neg pe_int) pa_nil))))) (pw_or1 (pt_cmpR op_eq (pe_callB call_len_seq (by rfl) T.z_len PySem.boot_len (pa_cons (pv 3) pa_nil)) pe_int (nomark _)))))
      (pss_one (ps_ret pe_bl))
      pss_nil)
    (pss_cons (ps_for PassesOwn.never rfl (pi_tup (pv 3)) (pg_name (i := 7) sc_law_is_way.nd rfl (Or.inl rfl))
      (pss_cons (ps_if (PW.pt (pw_or (pt_not (pt_val (pe_call G_law_is_step (hr.mono (by omega)) (by rfl) T.g_law_is_step T.F_law_is_step.kp T.b_law_is_step .nil pass0 (pa_cons (pv 1) (pa_cons (pv 7) (pa_cons pe_dnewK pa_nil)))))) (pw_or1 (pt_cmpR op_notIn_seq (pv 4) (pe_ix ix_tup (pe_ix ix_tup (pv 1) (pe_ix ix_tup (pv 7) pe_int (fun _ _ => rfl)) (fun _ _ => rfl)) pe_int (fun _ _ => rfl)) (by rfl)))))
        (pss_one (ps_ret pe_bl))
        pss_nil)
      (pss_cons (ps_set (i := 8) sc_law_is_way.nd rfl (Or.inl rfl) (pe_ix ix_tup (pe_ix ix_tup (pv 1) (pe_ix ix_tup (pv 7) pe_int (fun _ _ => rfl)) (fun _ _ => rfl)) pe_int (fun _ _ => rfl)))
      (pss_cons (ps_for PassesOwn.never rfl (pi_list (pe_call G_law_views (hr.mono (by omega)) (by rfl) T.g_law_views T.F_law_views.kp T.b_law_views .nil pass0 (pa_cons (pv 0) (pa_cons (pe_ix ix_tup (pv 1) (pe_ix ix_tup (pv 7) pe_int (fun _ _ => rfl)) (fun _ _ => rfl)) (pa_cons (pe_callTy (call_dictT rfl) (by rfl) T.z_dict (by decide +kernel) (pa_cons (pv 2) pa_nil)) pa_nil))))) (pg_name (i := 9) sc_law_is_way.nd rfl (Or.inl rfl))
        (pss_one (ps_if (PW.pt (pw_and (pt_cmpR op_eq (pe_ix ix_tup (pv 9) (pe_tix (pv 8) (pa_cons (pv 4) pa_nil)) (fun _ _ => rfl)) (pv 5) (nomark _)) (pw_and1 (pt_cmpR op_ne (pe_ix ix_tup (pv 9) (pe_tix (pv 8) (pa_cons (pe_ix ix_tup (pv 7) pe_int (fun _ _ => rfl)) pa_nil)) (fun _ _ => rfl)) (pe_ix ix_tup (pv 7) pe_int (fun _ _ => rfl)) (nomark _)))))
          (pss_one (ps_ret pe_bl))
          pss_nil)))
      (pss_one (ps_par (i := 4) (j := 5) (by rfl) sc_law_is_way.nd rfl rfl (by decide) rfl rfl (pa_cons (pe_ix ix_tup (pv 7) pe_int (fun _ _ => rfl)) (pa_cons (pe_ix ix_tup (pv 7) pe_int (fun _ _ => rfl)) pa_nil)) (by rfl)))))))
    (pss_one (ps_ret (pe_cmpR (op_eqD hr.units) (pe_tup (pa_cons (pv 4) (pa_cons (pv 5) pa_nil))) (pv 6) (nomark _))))))
  ), ?_⟩
  have hn5 := hG.n5
  have hsl := start_len S
  refine ⟨_, rfl, _, rfl, v, d, -1, rfl, hd, _, rfl, ?_⟩
  rw [are_tup]
  cases e4 : isTupD d with
  | false =>
    have e5 : wayE bk ties (lookS st) c0 v0 e1 e2 d = false := by
      cases d <;> first | rfl | cases e4
    have := q H (.refl H)
    rw [e5] at this
    exact iteT this
  | true =>
  obtain ⟨ss, rfl⟩ := tupD_yes e4
  obtain ⟨_, rfl, hlen, hff⟩ := fine_tup hf
  obtain ⟨sa0, xs, rfl, hs, hds⟩ := dp_tup hd
  have hxl := dpAll_len hds
  refine iteF ⟨_, rfl, sa0, xs, rfl, .inr hs, rfl, _, rfl, ?_⟩
  cases ess : ss with
  | nil =>
    subst ess
    have e5 : xs.length = 0 := hxl
    rw [e5]
    exact iteT (q H (.refl H))
  | cons s0 st0 =>
  have hwd : wayE bk ties (lookS st) c0 v0 e1 e2 (.tuple ss) = wayOk (vaOf bk) ties (lookS st) e1 e2 c0 v0 ss := by
    rw [ess]
    rfl
  rw [hwd] at q
  have hx0 : xs.length ≠ 0 := by
    rw [hxl, ess]
    exact Nat.succ_ne_zero _
  refine ifF (decide_eq_false fun z => hx0 (by have := V.int.inj z; omega)) ?_
  refine ⟨_, rfl, sa0, rfl, ⟨_, hs⟩, for_tup (xs := xs) (fun i σ H' => ∃ (o7 o8 o9 : Option V) (c v : Int), σ = [some (.ref L), some (.ref a), some (.ref so), some (.ref sa0), some (.int c), some (.int v), some (.ref et), o7, o8, o9] ∧ Same H H' ∧ wayOk (vaOf bk) ties (lookS st) e1 e2 c0 v0 ss = wayOk (vaOf bk) ties (lookS st) e1 e2 c v (ss.drop i))
    ⟨_, _, _, c0, v0, rfl, .refl H, rfl⟩ (fun i σ H' _ h => by obtain ⟨_, _, _, _, _, _, e, _⟩ := h; exact sqT_same e hs) ?_ ?_⟩
  · rintro i x σ H3 hi ⟨o7, o8, o9, c, v, rfl, s3, hway⟩
    have hlt := (List.getElem?_eq_some_iff.mp hi).1
    obtain ⟨sd, hst, hdx⟩ := dpAll_at hds hi
    have hdrop : ss.drop i = sd :: ss.drop (i + 1) := by
      have hl := (List.getElem?_eq_some_iff.mp hst)
      rw [List.drop_eq_getElem_cons hl.1, hl.2]
    rw [hdrop] at hway
    have hdx3 := dp_same s3 hdx
    refine ⟨_, rfl, _, rfl, fun D0 hD0 => ?_⟩
    have s4' : Same H3 (upd H3 D0 (.dK [])) := same_new _ hD0
    generalize upd H3 D0 (.dK []) = H4 at s4' ⊢
    have s4 := s3.trans s4'
    have hT4 := hT.im (im_same s4)
    have hdx4 := dp_same s4' hdx3
    refine ⟨a, x, _, sd, bk, ties, n, rfl, hT4, hG, hdx4, _, rfl, ?_⟩
    cases e5 : stepOf ties sd with
    | none =>
      have := q _ s4
      rw [hway] at this
      unfold wayOk at this
      rw [e5] at this
      exact iteT this
    | some u =>
    obtain ⟨tie, c', v'⟩ := u
    have hway2 : wayOk (vaOf bk) ties (lookS st) e1 e2 c0 v0 ss = (decide (c ∈ tie.2) && vaOf bk tie (lookS st) (fun r => !decide (valAt tie.2 r c = v) || decide (valAt tie.2 r c' = v')) && wayOk (vaOf bk) ties (lookS st) e1 e2 c' v' (ss.drop (i + 1))) := by
      rw [hway]
      conv => lhs; unfold wayOk
      rw [e5]
    obtain ⟨t, rfl, ht0, hti, hct, hv0, hv1⟩ := step_inv e5
    have htm : tie ∈ ties := List.mem_of_getElem? hti
    obtain ⟨sa, ys, rfl, hys, hds3⟩ := dp_tup hdx4
    cases hds3 with
    | cons hxa r1 =>
    cases r1 with
    | cons hxb r2 =>
    cases r2 with
    | cons hxc r3 =>
    cases r3
    have ev1 := dp_int hxa
    have ev2 := dp_int hxb
    have ev3 := dp_int hxc
    subst ev1 ev2 ev3
    obtain ⟨ts, u, cc, h1, h2, hat, hu, hc⟩ := hT4.get ht0 hti
    refine iteF ⟨_, rfl, _, rfl, _, rfl, sa, _, 0, _, rfl, rfl, hys, rfl, a, ts, t, _, rfl, rfl, h1, hat, u, _, 1, _, rfl, rfl, hu, rfl, cc, _, rfl, .inr hc.sq, rfl, flat_ints _, _, rfl, ?_⟩
    have e6 : (if true = true then !inV (.int c) (tie.2.map V.int) else inV (.int c) (tie.2.map V.int)) = !decide (c ∈ tie.2) := by
      rw [if_pos rfl, inV_int]
    rw [e6]
    by_cases hm1 : c ∈ tie.2
    · rw [decide_eq_true hm1] at hway2 ⊢
      rw [Bool.true_and] at hway2
      refine iteF ⟨_, rfl, _, rfl, sa, _, 0, _, rfl, rfl, hys, rfl, a, ts, t, _, rfl, rfl, h1, hat, u, _, 1, _, rfl, rfl, hu, rfl, ?_⟩
      obtain ⟨ps, hps1, hps2⟩ := (hS.im (im_same s4)).pairs
      refine ⟨_, rfl, _, rfl, _, rfl, sa, _, 0, _, rfl, rfl, hys, rfl, a, ts, t, _, rfl, rfl, h1, hat, _, rfl, so, ps, _, rfl, hps1, hps2, fun F hFn => ?_⟩
      have hFx := fxD_start (H := H4) (D := F) (st := st)
      have s5 : Same H4 (upd H4 F (.dK (mergeK [] (st.map fun p => ((Sum.inl p.1 : Key), V.int p.2))))) := same_new _ hFn
      generalize upd H4 F (.dK (mergeK [] (st.map fun p => ((Sum.inl p.1 : Key), V.int p.2)))) = H5 at hFx s5 ⊢
      have sm5 := s4.trans s5
      refine ⟨L, F, _, bk, n, st.length, tie, lookS st, rfl, hB.same sm5, hG.rel, ⟨u, cc, rfl, sqT_same s5 hu, hc.same s5⟩, hG.tie tie htm, hFx, by omega, fun H6 R rs s6 hR hRx hrows => ?_⟩
      have sm6 := sm5.trans s6
      have s46 := s5.trans s6
      have hys6 := sqT_same s46 hys
      have hc6 := hc.same s46
      have hrl := hrows.1
      refine ⟨R, rfl, ⟨_, .inl (.inl hRx)⟩, for_list (xs := rs) (fun j σ H' => ∃ (o9 : Option V), σ = [some (.ref L), some (.ref a), some (.ref so), some (.ref sa0), some (.int c), some (.int v), some (.ref et), some (.ref sa), some (.ref cc), o9] ∧ H' = H6 ∧ ((views bk tie (lookS st)).take j).all (fun r => !decide (valAt tie.2 r c = v) || decide (valAt tie.2 r c' = v')) = true)
        ⟨_, rfl, rfl, rfl⟩ (fun j σ H' _ h => by obtain ⟨_, _, rfl, _⟩ := h; exact .inl (.inl hRx)) ?_ ?_⟩
      · rintro j x σ H7 hj ⟨o9, rfl, rfl, hall⟩
        have hjl := (List.getElem?_eq_some_iff.mp hj).1
        have hjv : j < (views bk tie (lookS st)).length := by omega
        have hvj := List.getElem?_eq_getElem hjv
        have hmem := List.getElem_mem hjv
        obtain ⟨rb, hb1, hb2⟩ := hrows.2 j _ hvj
        rw [hj] at hb1
        cases hb1
        have htk : ((views bk tie (lookS st)).take (j + 1)).all (fun r => !decide (valAt tie.2 r c = v) || decide (valAt tie.2 r c' = v')) = (!decide (valAt tie.2 (views bk tie (lookS st))[j] c = v) || decide (valAt tie.2 (views bk tie (lookS st))[j] c' = v')) := by
          rw [List.take_succ, hvj, List.all_append, hall]
          simp
        have bad : (!decide (valAt tie.2 (views bk tie (lookS st))[j] c = v) || decide (valAt tie.2 (views bk tie (lookS st))[j] c' = v')) = false → Q (.bl false) H7 := fun hb => by
          have := q _ sm6
          rw [hway2, show vaOf bk tie (lookS st) (fun r => !decide (valAt tie.2 r c = v) || decide (valAt tie.2 r c' = v')) = false from ?_] at this
          · exact this
          · exact List.all_eq_false.mpr ⟨_, hmem, by rw [hb]; exact Bool.false_ne_true⟩
        generalize (views bk tie (lookS st))[j] = r at hvj hmem hb2 htk bad
        have hrlen := view_len hG htm hmem
        refine ⟨_, rfl, _, rfl, cc, _, rfl, hc6, _, rfl, .int c, tie.2.idxOf c, .int c, rfl, hc6, rfl, flat_ints _, tix_at hm1, by rw [eqV_int]; exact decide_eq_true rfl, tix_no, rb, _, _, _, rfl, rfl, hb2, at_val hm1 hrlen, _, rfl, rfl, _, rfl, ?_⟩
        rw [dec_eq]
        cases e7 : decide (valAt tie.2 r c = v) with
        | false => exact iteF ⟨_, rfl, rfl, by rw [htk, e7]; rfl⟩
        | true =>
          refine iteT ⟨_, rfl, _, rfl, cc, _, rfl, hc6, _, rfl, sa, _, 1, _, rfl, rfl, hys6, rfl, .int c', tie.2.idxOf c', .int c', rfl, hc6, rfl, flat_ints _, tix_at hct, by rw [eqV_int]; exact decide_eq_true rfl, tix_no, rb, _, _, _, rfl, rfl, hb2, at_val hct hrlen, ?_⟩
          refine ⟨_, rfl, sa, _, 2, _, rfl, rfl, hys6, rfl, rfl, _, rfl, ?_⟩
          rw [dec_ne]
          cases e8 : decide (valAt tie.2 r c' = v') with
          | true => exact iteF ⟨_, rfl, rfl, by rw [htk, e7, e8]; rfl⟩
          | false => exact iteT (bad (by rw [e7, e8]; rfl))
      · rintro σ H7 ⟨o9, rfl, rfl, hall⟩
        rw [List.take_of_length_le (by omega)] at hall
        have hva : vaOf bk tie (lookS st) (fun r => !decide (valAt tie.2 r c = v) || decide (valAt tie.2 r c' = v')) = true := hall
        rw [hva, Bool.true_and] at hway2
        refine ⟨_, rfl, sa, _, 1, _, rfl, rfl, hys6, rfl, _, rfl, sa, _, 2, _, rfl, rfl, hys6, rfl, _, _, rfl, ?_⟩
        exact ⟨_, _, _, c', v', rfl, sm6, hway2⟩
    · rw [decide_eq_false hm1] at hway2 ⊢
      have := q _ s4
      rw [hway2] at this
      exact iteT this
  · rintro σ H3 ⟨o7, o8, o9, c, v, rfl, s3, hway⟩
    rw [List.drop_eq_nil_of_le (by omega)] at hway
    have hw : wayOk (vaOf bk) ties (lookS st) e1 e2 c0 v0 ss = (decide (c = e1) && decide (v = e2)) := by
      rw [hway]
      rfl
    refine ⟨_, rfl, _, rfl, (by show 2 ≤ sizeLine; decide), fun T1 hT1 => ?_⟩
    have s4 : Same H3 (upd H3 T1 (.tup [.int c, .int v])) := same_new _ hT1
    have := q _ (s3.trans s4)
    rw [hw] at this
    refine ⟨_, rfl, eI [c, v], eI [e1, e2], eI_mk (.inl (.inl upd_same)), eI_mk (.inl (.inl ((s3.trans s4) _ _ het))), shaped_row (by simp), shaped_row (by simp), ?_⟩
    rw [eqv_rows]
    have e9 : decide ([c, v] = [e1, e2]) = (decide (c = e1) && decide (v = e2)) := by
      rw [← Bool.decide_and, decide_eq_decide]
      simp
    rw [e9]
    exact this
/-! ### _law_with -/
def spWithL (K : PySem.W.Frag) : Sp := fun vs H Q _ => ∃ (s : Addr) (c v : Int) (st : List (Int × Int)), vs = [.ref s, .int c, .int v] ∧ StAt K H s st ∧ st.length ≤ 100 ∧ ∀ H' a, Same H H' → StAt K H' a (withS st c v) → Q (.ref a) H'
theorem ok_law_with (T : Txt K mg) : Ok P w K mg base 1 d_law_with ["_law_start_here", "_law_cell", "_law_value"] (spWithL K) := by
  refine T.F_law_with.ok sc_law_with (fun vs H Q E h => ?_) (fun cdv A outer s H vs Q E hr h => ?_)
  · obtain ⟨so, c, v, st, rfl, _⟩ := h
    rfl
  obtain ⟨so, c, v, st, rfl, hS, hl, q⟩ := h
  refine ⟨_, PSs.nox (
  (pss_cons (ps_setLc (i := 3) (own := [("_law_pair", 4)]) (by rfl) sc_law_with.nd rfl rfl (sw_true rfl rfl rfl (by decide +kernel)) (pi_tup (pv 0)) (blkOk_by (own := [("_law_pair", 4)]) (N := ["_law_start_here", "_law_cell", "_law_value", "_law_ahead", "_law_pair"]) (sc := defScope s_law_with) (by decide +kernel)) (fun _ _ _ _ _ => (pg_name (i := 4) sc_law_with.nd rfl (Or.inl rfl))) (fun _ _ _ _ _ => pts_one (pt_cmpR op_lt (pe_ix (ix_tupK (K := K) rfl) (pv 4) pe_int (fun _ _ => rfl)) (pv 1) (nomark _))) (fun _ _ _ _ _ => (pv 4)))
    (pss_one (ps_ret (pe_callTy call_tupF (by rfl) T.z_tuple (by decide +kernel) (pa_cons (pe_op op_cat (pe_op op_cat (pv 3) (pe_lst (pa_cons (pe_tup (pa_cons (pv 1) (pa_cons (pv 2) pa_nil))) pa_nil))) (pe_lc (own := [("_law_pair", 4)]) rfl sc_law_with.nd (pi_tup (pv 0)) (blkOk_by (own := [("_law_pair", 4)]) (N := ["_law_start_here", "_law_cell", "_law_value", "_law_ahead", "_law_pair"]) (sc := defScope s_law_with) (by decide +kernel)) (fun _ _ _ _ _ => (pg_name (i := 4) sc_law_with.nd rfl (Or.inl rfl))) (fun _ _ _ _ _ => pts_one (pt_cmpR op_gt (pe_ix (ix_tupK (K := K) rfl) (pv 4) pe_int (fun _ _ => rfl)) (pv 1) (nomark _))) (fun _ _ _ _ _ => (pv 4)))) pa_nil)))))
  ), ?_⟩
  obtain ⟨xs, hs, hsl, hsx⟩ := hS.sq
  refine ⟨_, rfl, so, rfl, ⟨_, hs⟩, fun D hD => lc_tup (xs := xs) (fun j H' => Same H H' ∧ ∃ ps : List Addr, H' D = some (.lst (ps.map V.ref)) ∧ Paired (fun p (q : Int × Int) => SqT K H' p [.int q.1, .int q.2]) ps ((st.take j).filter fun p => decide (p.1 < c)) ∧ ps.length ≤ j)
    ⟨same_new _ hD, [], upd_same, .nil, Nat.le_refl _⟩ (fun j H' _ h => sqT_same h.1 hs) ?_ ?_⟩
  · rintro j x H1 hj ⟨s1, ps, hps, hpr, hpl⟩
    have hjl := (List.getElem?_eq_some_iff.mp hj).1
    have hjs : j < st.length := by omega
    have hsj := List.getElem?_eq_getElem hjs
    obtain ⟨p, hp1, hp2⟩ := hsx j _ hsj
    rw [hj] at hp1
    cases hp1
    have hn := take_filter (fun p : Int × Int => decide (p.1 < c)) _ hsj
    generalize st[j] = pr at hsj hp2 hn
    have hp3 := sqT_same s1 hp2
    refine ⟨rfl, _, rfl, p, _, 0, _, rfl, rfl, hp3, rfl, _, rfl, _, _, rfl, rfl, _, rfl, ?_⟩
    cases e : decide (pr.1 < c) with
    | false =>
      rw [if_neg (by rw [e]; exact Bool.false_ne_true), List.append_nil] at hn
      exact iteF ⟨s1, ps, hps, by rw [hn]; exact hpr, by omega⟩
    | true =>
      rw [if_pos e] at hn
      have im : Im H1 (upd H1 D (.lst (ps.map V.ref ++ [.ref p]))) := im_mut _ hps rfl
      refine iteT ⟨_, rfl, _, hps, small1000 (by rw [List.length_map]; omega), same_mut _ s1 hD, ps ++ [p], by rw [upd_same, List.map_append]; rfl, ?_, by rw [List.length_append]; exact Nat.succ_le_succ hpl⟩
      rw [hn]
      exact PySem.Paired.snoc (L2.Paired.mapP hpr fun p q h => sqT_im im h) (sqT_im im hp3)
  rintro H1 ⟨s1, ps, hps, hpr, hpl⟩
  rw [List.take_of_length_le (by omega)] at hpr
  refine ⟨_, rfl, _, rfl, _, rfl, (by show 2 ≤ sizeLine; decide), fun T1 hT1 => ?_⟩
  have s2 : Same H1 (upd H1 T1 (.tup [.int c, .int v])) := same_new _ hT1
  have hT1' : upd H1 T1 (.tup [.int c, .int v]) T1 = some (.tup [.int c, .int v]) := upd_same
  generalize upd H1 T1 (.tup [.int c, .int v]) = H2 at s2 hT1' ⊢
  refine ⟨(by show 1 ≤ sizeLine; decide), fun L1 hL1 => ?_⟩
  have s3 : Same H2 (upd H2 L1 (.lst [.ref T1])) := same_new _ hL1
  have hL1' : upd H2 L1 (.lst [.ref T1]) L1 = some (.lst [.ref T1]) := upd_same
  generalize upd H2 L1 (.lst [.ref T1]) = H3 at s3 hL1' ⊢
  have s13 := s2.trans s3
  refine ⟨D, L1, _, _, rfl, rfl, s13 _ _ hps, hL1', Nat.le_of_lt (small1000 (by rw [List.length_map, List.length_singleton]; omega)), fun L2' hL2 => ?_⟩
  have s4 : Same H3 (upd H3 L2' (.lst (ps.map V.ref ++ [.ref T1]))) := same_new _ hL2
  have hL2' : upd H3 L2' (.lst (ps.map V.ref ++ [.ref T1])) L2' = some (.lst (ps.map V.ref ++ [.ref T1])) := upd_same
  generalize upd H3 L2' (.lst (ps.map V.ref ++ [.ref T1])) = H4 at s4 hL2' ⊢
  have s14 := s13.trans s4
  have s04 := s1.trans s14
  have hs4 := sqT_same s04 hs
  refine ⟨_, rfl, so, rfl, ⟨_, hs4⟩, fun D2 hD2 => lc_tup (xs := xs) (fun j H' => Same H4 H' ∧ ∃ qs : List Addr, H' D2 = some (.lst (qs.map V.ref)) ∧ Paired (fun p (q : Int × Int) => SqT K H' p [.int q.1, .int q.2]) qs ((st.take j).filter fun p => decide (c < p.1)) ∧ qs.length ≤ j)
    ⟨same_new _ hD2, [], upd_same, .nil, Nat.le_refl _⟩ (fun j H' _ h => sqT_same h.1 hs4) ?_ ?_⟩
  · rintro j x H5 hj ⟨s5, qs, hqs, hqr, hql⟩
    have hjl := (List.getElem?_eq_some_iff.mp hj).1
    have hjs : j < st.length := by omega
    have hsj := List.getElem?_eq_getElem hjs
    obtain ⟨p, hp1, hp2⟩ := hsx j _ hsj
    rw [hj] at hp1
    cases hp1
    have hn := take_filter (fun p : Int × Int => decide (c < p.1)) _ hsj
    generalize st[j] = pr at hsj hp2 hn
    have hp3 := sqT_same (s04.trans s5) hp2
    refine ⟨rfl, _, rfl, p, _, 0, _, rfl, rfl, hp3, rfl, _, rfl, _, _, rfl, rfl, _, rfl, ?_⟩
    cases e : decide (c < pr.1) with
    | false =>
      rw [if_neg (by rw [e]; exact Bool.false_ne_true), List.append_nil] at hn
      exact iteF ⟨s5, qs, hqs, by rw [hn]; exact hqr, by omega⟩
    | true =>
      rw [if_pos e] at hn
      have im : Im H5 (upd H5 D2 (.lst (qs.map V.ref ++ [.ref p]))) := im_mut _ hqs rfl
      refine iteT ⟨_, rfl, _, hqs, small1000 (by rw [List.length_map]; omega), same_mut _ s5 hD2, qs ++ [p], by rw [upd_same, List.map_append]; rfl, ?_, by rw [List.length_append]; exact Nat.succ_le_succ hql⟩
      rw [hn]
      exact PySem.Paired.snoc (L2.Paired.mapP hqr fun p q h => sqT_im im h) (sqT_im im hp3)
  rintro H5 ⟨s5, qs, hqs, hqr, hql⟩
  rw [List.take_of_length_le (by omega)] at hqr
  refine ⟨L2', D2, _, _, rfl, rfl, s5 _ _ hL2', hqs, Nat.le_of_lt (small1000 (by rw [List.length_append, List.length_map, List.length_map, List.length_singleton]; omega)), fun L3 hL3 => ?_⟩
  have s6 : Same H5 (upd H5 L3 (.lst ((ps.map V.ref ++ [.ref T1]) ++ qs.map V.ref))) := same_new _ hL3
  have hL3' : upd H5 L3 (.lst ((ps.map V.ref ++ [.ref T1]) ++ qs.map V.ref)) L3 = some (.lst ((ps.map V.ref ++ [.ref T1]) ++ qs.map V.ref)) := upd_same
  generalize upd H5 L3 (.lst ((ps.map V.ref ++ [.ref T1]) ++ qs.map V.ref)) = H6 at s6 hL3' ⊢
  refine ⟨L3, _, rfl, .inl (.inl hL3'), fun a o ha ho => ?_⟩
  have s7 : Same H6 (upd H6 a (.frz o (.tup ((ps.map V.ref ++ [.ref T1]) ++ qs.map V.ref)))) := same_new _ ha
  have s57 := s6.trans s7
  have s17 := (s14.trans s5).trans s57
  refine q _ a (s1.trans s17) ⟨(ps ++ [T1]) ++ qs, ⟨o, by rw [upd_same, List.map_append, List.map_append]; rfl, ho⟩, ?_⟩
  have app : ∀ {l1 l2 : List Addr} {m1 m2 : List (Int × Int)} {F : Addr → Int × Int → Prop}, Paired F l1 m1 → Paired F l2 m2 → Paired F (l1 ++ l2) (m1 ++ m2) := fun {l1 l2 m1 m2 F} h1 h2 => by
    induction h1 with
    | nil => exact h2
    | cons a t ih => exact .cons a ih
  refine app (app (L2.Paired.mapP hpr fun p q h => sqT_same s17 h) (.cons ?_ .nil)) (L2.Paired.mapP hqr fun p q h => sqT_same s57 h)
  exact .inl (.inl ((((s3.trans s4).trans s5).trans s57) _ _ hT1'))
end
end EC


set_option Elab.async false
set_option linter.all false
set_option maxRecDepth 100000
set_option maxHeartbeats 4000000
namespace EC
open PySem PySem.Spec PyProof.Rows L2
theorem pe_bmK {X : Cx} {K : PySem.W.Frag} {o e : Expr} {es : List Expr} {to : TE} {t : TA} {name : Str} {apos cpos : Pos} {T id : String} {r : V → List V → Hp → VK → Prop} (hK : X.K = K) (pa : PlainAttrs T) (slot : Slot T name id) (hty : typeOf (.builtin id) = pure (.type "method_descriptor")) (hm : MtR X id r) (ho : PE X o to) (ha : PA X (e :: es) t)
    (hbase : attributeBase o name X.env (eval o X.env) = eval o X.env := by rfl)
    (hfew : ((backTo cpos (starEach (e :: es) X.env)).all (fun x => !x.1) && (backToKw cpos (keywordEach [] X.env)).all (fun x => x.1.isSome)
      && decide ((e :: es).length + ([] : List Keyword).length + (if ([] : List Keyword).isEmpty then 0 else 1) < 30)) = true := by rfl)
    (hline : (apos.endLine == cpos.line) = true := by rfl) (hs : starEach (e :: es) X.env = (false, eval e X.env) :: starEach es X.env := by rfl) (hplain : (backTo cpos (starEach es X.env)).any (·.1) = false := by rfl) :
    PE X (.Call (.Attribute o name apos) (e :: es) [] cpos) (tBM K T r to t) := by
  subst hK
  exact pe_bm pa slot hty hm ho ha hbase hfew hline hs hplain
theorem mt_lcountK {X : Cx} {K : PySem.W.Frag} (hK : X.K = K) : MtR X "list.count" (rCntI K) := by
  subst hK
  exact mt_lcount
section
variable {P : Program} {w : World} {K : PySem.W.Frag} {mg : Str → Option Value} {base : Heap}
/-! ### _law_is_sum -/
def spSumL (K : PySem.W.Frag) : Sp := fun vs H Q _ => ∃ (L a s : Addr) (v : V) (d : PyData) (k n : Nat) (bk : List Rel) (ties : List Tie) (st : List (Int × Int)), vs = [.ref L, .ref a, .ref s, v] ∧ BookL K H L bk ∧ Good bk ties n ∧ TiesAt K H (.ref a) ties ∧ StAt K H s st ∧ StartG n st ∧ Dp K H v d ∧ fine k d ∧
  ∀ H', Same H H' → Q (.bl (sumD bk ties (lookS st) d)) H'
theorem ok_law_is_sum (T : Txt K mg) : Ok P w K mg base 3 d_law_is_sum ["_law_book_here", "_law_ties_here", "_law_start_here", "_law_parts"] (spSumL K) := by
  have G_law_are : Ok P w K mg base 1 d_law_are ["_law_value", "_law_many"] (spAre K) := ok_law_are T
  have G_law_is_number : Ok P w K mg base 1 d_law_is_number ["_law_value", "_law_most"] (spNum K) := ok_law_is_number T
  have G_law_views : Ok P w K mg base 1 d_law_views ["_law_book_here", "_law_tie", "_law_fixed"] (spViews K) := ok_law_views T
  refine T.F_law_is_sum.ok sc_law_is_sum (fun vs H Q E h => ?_) (fun cdv A outer s H vs Q E hr h => ?_)
  · obtain ⟨L, a, so, v, d, k, n, bk, ties, st, rfl, _⟩ := h
    rfl
  obtain ⟨L, a, so, v, d, k, n, bk, ties, st, rfl, hB, hG, hT, hS, S, hd, hf, q⟩ := h
  refine ⟨_, PSs.nox (
  (pss_cons (ps_if (PW.pt (pw_or (pt_not (pt_val (pe_call G_law_are (hr.mono (by omega)) (by rfl) T.g_law_are T.F_law_are.kp T.b_law_are .nil pass0 (pa_cons (pv 3) (pa_cons (pe_un un_neg pe_int) pa_nil))))) (pw_or1 (pt_cmpR op_eq (pe_callB call_len_seq (by rfl) T.z_len PySem.boot_len (pa_cons (pv 3) pa_nil)) pe_int (nomark _)))))
      (pss_one (ps_ret pe_bl))
      pss_nil)
    (pss_cons (ps_set (i := 4) sc_law_is_sum.nd rfl (Or.inr rfl) (pe_lst pa_nil))
    (pss_cons (ps_set (i := 5) sc_law_is_sum.nd rfl (Or.inl rfl) pe_int)
    (pss_cons (ps_for PassesOwn.never rfl (pi_tup (pv 3)) (pg_name (i := 6) sc_law_is_sum.nd rfl (Or.inl rfl))
      (pss_cons (ps_if (PW.pt (pw_or (pt_not (pt_val (pe_call G_law_are (hr.mono (by omega)) (by rfl) T.g_law_are T.F_law_are.kp T.b_law_are .nil pass0 (pa_cons (pv 6) (pa_cons pe_int pa_nil))))) (pw_or (pt_not (pt_val (pe_call G_law_is_number (hr.mono (by omega)) (by rfl) T.g_law_is_number T.F_law_is_number.kp T.b_law_is_number .nil pass0 (pa_cons (pe_ix ix_tup (pv 6) pe_int (fun _ _ => rfl)) (pa_cons (pe_callB call_len_seq (by rfl) T.z_len PySem.boot_len (pa_cons (pv 1) pa_nil)) pa_nil))))) (pw_or1 (pt_not (pt_val (pe_call G_law_is_number (hr.mono (by omega)) (by rfl) T.g_law_is_number T.F_law_is_number.kp T.b_law_is_number .nil pass0 (pa_cons (pe_ix ix_tup (pv 6) pe_int (fun _ _ => rfl)) (pa_cons pe_int pa_nil)))))))))
        (pss_one (ps_ret pe_bl))
        pss_nil)
      (pss_cons (ps_set (i := 7) sc_law_is_sum.nd rfl (Or.inr rfl) (pe_ix ix_tup (pe_ix ix_tup (pv 1) (pe_ix ix_tup (pv 6) pe_int (fun _ _ => rfl)) (fun _ _ => rfl)) pe_int (fun _ _ => rfl)))
      (pss_cons (ps_if (pt_not (pt_val (pe_call G_law_are (hr.mono (by omega)) (by rfl) T.g_law_are T.F_law_are.kp T.b_law_are .nil pass0 (pa_cons (pe_ix ix_tup (pv 6) pe_int (fun _ _ => rfl)) (pa_cons (pe_un un_neg pe_int) pa_nil)))))
        (pss_one (ps_ret pe_bl))
        pss_nil)
      (pss_cons (ps_for PassesOwn.never rfl (pi_range1 (by rfl) T.z_range (pa_cons (pe_callB call_len_seq (by rfl) T.z_len PySem.boot_len (pa_cons (pe_ix ix_tup (pv 6) pe_int (fun _ _ => rfl)) pa_nil)) pa_nil)) (pg_name (i := 8) sc_law_is_sum.nd rfl (Or.inl rfl))
        (pss_cons (ps_set (i := 9) sc_law_is_sum.nd rfl (Or.inl rfl) (pe_ix ix_tup (pe_ix ix_tup (pv 6) pe_int (fun _ _ => rfl)) (pv 8) (fun _ _ => rfl)))
        (pss_one (ps_if (PW.pt (pw_or (pt_not (pt_val (pe_call G_law_is_number (hr.mono (by omega)) (by rfl) T.g_law_is_number T.F_law_is_number.kp T.b_law_is_number .nil pass0 (pa_cons (pv 9) (pa_cons (pe_op op_pow pe_int pe_int) pa_nil))))) (pw_or (pt_cmpR op_notIn_seq (pv 9) (pv 7) (by rfl)) (pw_or1 (PW.pt (pw_and (pt_cmpR op_gt (pv 8) pe_int (nomark _)) (pw_and1 (pt_cmpR op_ge (pe_ix ix_tup (pe_ix ix_tup (pv 6) pe_int (fun _ _ => rfl)) (pe_op op_sub (pv 8) pe_int) (fun _ _ => rfl)) (pv 9) (nomark _)))))))))
          (pss_one (ps_ret pe_bl))
          pss_nil))))
      (pss_cons (ps_for PassesOwn.never rfl (pi_list (pe_call G_law_views (hr.mono (by omega)) (by rfl) T.g_law_views T.F_law_views.kp T.b_law_views .nil pass0 (pa_cons (pv 0) (pa_cons (pe_ix ix_tup (pv 1) (pe_ix ix_tup (pv 6) pe_int (fun _ _ => rfl)) (fun _ _ => rfl)) (pa_cons (pe_callTy (call_dictT rfl) (by rfl) T.z_dict (by decide +kernel) (pa_cons (pv 2) pa_nil)) pa_nil))))) (pg_name (i := 10) sc_law_is_sum.nd rfl (Or.inr rfl))
        (pss_one (ps_if (pt_cmpR op_gt (pe_op op_mod (pe_callTy call_int1 (by rfl) T.z_int (by decide +kernel) (pa_cons (pe_op op_add (pe_callB (cr_sum rfl) (by rfl) T.z_sum (by decide +kernel) (pa_cons (pe_lc (own := [("_law_cell", 9)]) rfl sc_law_is_sum.nd (pi_tup (pe_ix ix_tup (pv 6) pe_int (fun _ _ => rfl))) (blkOk_by (own := [("_law_cell", 9)]) (N := ["_law_book_here", "_law_ties_here", "_law_start_here", "_law_parts", "_law_seen", "_law_odd", "_law_part", "_law_places", "_law_k", "_law_cell", "_law_row"]) (sc := defScope s_law_is_sum) (by decide +kernel)) (fun _ _ _ _ _ => (pg_name (i := 9) sc_law_is_sum.nd rfl (Or.inl rfl))) (fun _ _ _ _ _ => pts_nil) (fun _ _ _ _ _ => (pe_ix (ix_tupK (K := K) rfl) (pv 10) (pe_tix (pv 7) (pa_cons (pv 9) pa_nil)) (fun _ _ => rfl)))) pa_nil)) (pe_ix ix_tup (pv 6) pe_int (fun _ _ => rfl))) pa_nil)) pe_int) pe_int (nomark _))
          (pss_one (ps_ret pe_bl))
          pss_nil)))
      (pss_cons (ps_set (i := 4) sc_law_is_sum.nd rfl (Or.inr rfl) (pe_op op_cat (pv 4) (pe_callTy call_list_of (by rfl) T.z_list (by decide +kernel) (pa_cons (pe_ix ix_tup (pv 6) pe_int (fun _ _ => rfl)) pa_nil))))
      (pss_one (ps_set (i := 5) sc_law_is_sum.nd rfl (Or.inl rfl) (pe_op op_add (pv 5) (pe_ix ix_tup (pv 6) pe_int (fun _ _ => rfl))))))))))))
    (pss_one (ps_ret (pe_and (pe_cmpR op_eq (pe_op op_mod (pe_callTy call_int1 (by rfl) T.z_int (by decide +kernel) (pa_cons (pv 5) pa_nil)) pe_int) pe_int (nomark _)) (pe_one (pe_cmpR op_eq (pe_callB call_len_seq (by rfl) T.z_len PySem.boot_len (pa_cons (pe_lc (own := [("_law_cell", 9)]) rfl sc_law_is_sum.nd (pi_list (pv 4)) (blkOk_by (own := [("_law_cell", 9)]) (N := ["_law_book_here", "_law_ties_here", "_law_start_here", "_law_parts", "_law_seen", "_law_odd", "_law_part", "_law_places", "_law_k", "_law_cell", "_law_row"]) (sc := defScope s_law_is_sum) (by decide +kernel)) (fun _ _ _ _ _ => (pg_name (i := 9) sc_law_is_sum.nd rfl (Or.inl rfl))) (fun _ _ _ _ _ => pts_one (pt_cmpR op_gt (pe_op op_mod (pe_callTy call_int1 (by rfl) T.z_int (by decide +kernel) (pa_cons (pe_bmK (K := K) rfl PySem.F.plainAttrs_list PySem.F.slot_list_count PySem.F.type_list_count (mt_lcountK (K := K) rfl) (pv 4) (pa_cons (pv 9) pa_nil)) pa_nil)) pe_int) pe_int (nomark _))) (fun _ _ _ _ _ => (pv 9))) pa_nil)) pe_int (nomark _))))))))))
  ), ?_⟩
  have hn5 := hG.n5
  have hsl := start_len S
  generalize hfe : lookS st = f at q
  refine ⟨_, rfl, _, rfl, v, d, -1, rfl, hd, _, rfl, ?_⟩
  rw [are_tup]
  cases e4 : isTupD d with
  | false =>
    have e5 : sumD bk ties f d = false := by
      cases d <;> first | rfl | cases e4
    have := q H (.refl H)
    rw [e5] at this
    exact iteT this
  | true =>
  obtain ⟨ss, rfl⟩ := tupD_yes e4
  obtain ⟨_, rfl, hlen, hff⟩ := fine_tup hf
  obtain ⟨sa0, xs, rfl, hs, hds⟩ := dp_tup hd
  have hxl := dpAll_len hds
  refine iteF ⟨_, rfl, sa0, xs, rfl, .inr hs, rfl, _, rfl, ?_⟩
  cases ess : ss with
  | nil =>
    subst ess
    have e5 : xs.length = 0 := hxl
    rw [e5]
    exact iteT (q H (.refl H))
  | cons s0 st0 =>
  have hwd : sumD bk ties f (.tuple ss) = sumOk (vaOf bk) ties f ss [] 0 := by
    rw [ess]
    rfl
  rw [hwd] at q
  have hx0 : xs.length ≠ 0 := by
    rw [hxl, ess]
    exact Nat.succ_ne_zero _
  refine ifF (decide_eq_false fun z => hx0 (by have := V.int.inj z; omega)) ?_
  refine ⟨(by show 0 ≤ sizeLine; exact Nat.zero_le _), fun R0 hR0 => ?_⟩
  have s1 : Same H (upd H R0 (.lst [])) := same_new _ hR0
  have hR0l : upd H R0 (.lst []) R0 = some (.lst []) := upd_same
  generalize upd H R0 (.lst []) = H1 at s1 hR0l ⊢
  refine ⟨_, rfl, sa0, rfl, ⟨_, sqT_same s1 hs⟩, for_tup (xs := xs) (fun i σ H' => ∃ (o6 o7 o8 : Option V) (o9 o10 : Option V) (R : Addr) (seen : List Int) (odd : Int), σ = [some (.ref L), some (.ref a), some (.ref so), some (.ref sa0), some (.ref R), some (.int odd), o6, o7, o8, o9, o10] ∧ Same H H' ∧ H' R = some (.lst (seen.map V.int)) ∧ seen.length ≤ 100 * i ∧ sumOk (vaOf bk) ties f ss [] 0 = sumOk (vaOf bk) ties f (ss.drop i) seen odd)
    ⟨_, _, _, _, _, R0, [], 0, rfl, s1, hR0l, Nat.zero_le _, rfl⟩ (fun i σ H' _ h => by obtain ⟨_, _, _, _, _, _, _, _, _, e, _⟩ := h; exact sqT_same e hs) ?_ ?_⟩
  · rintro i x σ H3 hi ⟨o6, o7, o8, o9, o10, R, seen, odd, rfl, s3, hR3, hsn, hrec⟩
    have hlt := (List.getElem?_eq_some_iff.mp hi).1
    obtain ⟨sd, hst, hdx⟩ := dpAll_at hds hi
    have hdrop : ss.drop i = sd :: ss.drop (i + 1) := by
      have hl := (List.getElem?_eq_some_iff.mp hst)
      rw [List.drop_eq_getElem_cons hl.1, hl.2]
    rw [hdrop] at hrec
    have hdx3 := dp_same s3 hdx
    have hT3 := hT.im (im_same s3)
    have no : partOf (vaOf bk) ties f sd = none → ∀ H', Same H H' → Q (.bl false) H' := fun h H' s' => by
      have := q H' s'
      rw [hrec] at this
      unfold sumOk at this
      rw [h] at this
      exact this
    refine ⟨_, rfl, x, sd, 3, rfl, hdx3, _, rfl, ?_⟩
    cases e5 : areB sd 3 with
    | false => exact iteT (no (partOf_tri e5) _ s3)
    | true =>
    obtain ⟨da, db, dc, rfl⟩ := areB3 e5
    have hfst := hff _ (List.mem_of_getElem? hst)
    obtain ⟨k', rfl, _, hf3⟩ := fine_tup hfst
    have noP : (∀ ns bit, partOf (vaOf bk) ties f (.tuple [da, db, dc]) ≠ some (ns, bit)) → ∀ H', Same H H' → Q (.bl false) H' := fun h H' s' => by
      refine no ?_ H' s'
      cases e : partOf (vaOf bk) ties f (.tuple [da, db, dc]) with
      | none => rfl
      | some u => exact absurd e (h u.1 u.2)
    obtain ⟨sa, ys, rfl, hys, hds3⟩ := dp_tup hdx3
    cases hds3 with
    | cons hxa r1 =>
    cases r1 with
    | cons hxb r2 =>
    cases r2 with
    | cons hxc r3 =>
    cases r3
    rename_i xa xb xc
    have hT3' := hT3
    obtain ⟨a', ts0, ea, ht1, ht2, ht3⟩ := hT3
    cases ea
    refine iteF ⟨_, rfl, sa, _, 0, _, rfl, rfl, hys, rfl, _, rfl, a, ts0, rfl, .inr ht1, xa, da, _, rfl, hxa, _, rfl, ?_⟩
    rw [ht2, ← tieAt_numB]
    cases e1 : tieAt ties da with
    | none =>
      refine iteT (noP (fun ns bit h => ?_) _ s3)
      obtain ⟨tie, h1, _⟩ := partOf_inv h
      rw [e1] at h1
      cases h1
    | some tie =>
    obtain ⟨t, rfl, ht0, hti⟩ := tieAt_int e1
    have htm : tie ∈ ties := List.mem_of_getElem? hti
    have ev1 := dp_int hxa
    subst ev1
    refine iteF ⟨_, rfl, sa, _, 2, _, rfl, rfl, hys, rfl, xc, dc, 2, rfl, hxc, _, rfl, ?_⟩
    cases e3 : numB dc 2 with
    | false =>
      refine iteT (noP (fun ns bit h => ?_) _ s3)
      obtain ⟨_, _, _, rfl, h0, h1, _⟩ := partOf_inv h
      rw [numB_in h0 h1] at e3
      cases e3
    | true =>
    obtain ⟨bit, rfl, hb0, hb1⟩ := numB_int e3
    have ev2 := dp_int hxc
    subst ev2
    obtain ⟨ts, u, cc, h1, h2, hat, hu, hc⟩ := hT3'.get ht0 hti
    refine iteF ⟨_, rfl, _, rfl, sa, _, 0, _, rfl, rfl, hys, rfl, a, ts, t, _, rfl, rfl, h1, hat, u, _, 1, _, rfl, rfl, hu, rfl, ?_⟩
    refine ⟨_, rfl, sa, _, 1, _, rfl, rfl, hys, rfl, _, rfl, xb, db, -1, rfl, hxb, _, rfl, ?_⟩
    rw [are_tup]
    cases e2 : isTupD db with
    | false =>
      refine iteT (noP (fun ns bit h => ?_) _ s3)
      obtain ⟨_, _, rfl, _⟩ := partOf_inv h
      cases e2
    | true =>
    obtain ⟨cs, rfl⟩ := tupD_yes e2
    obtain ⟨_, rfl, hcl100, _⟩ := fine_tup (hf3 (.tuple cs) (by simp))
    obtain ⟨ca, zs, rfl, hca, hcs⟩ := dp_tup hxb
    have hzl := dpAll_len hcs
    refine iteF ⟨_, rfl, sa, _, 1, _, rfl, rfl, hys, rfl, ca, zs, rfl, .inr hca, _, rfl, by omega, by omega, for_range (n := ((zs.length : Int)).toNat) (fun j σ H' => ∃ (o8 o9 o10 : Option V), σ = [some (.ref L), some (.ref a), some (.ref so), some (.ref sa0), some (.ref R), some (.int odd), some (.ref sa), some (.ref cc), o8, o9, o10] ∧ H' = H3 ∧ PartG tie cs j)
      ⟨_, _, _, rfl, rfl, fun j hj => absurd hj (Nat.not_lt_zero _)⟩ ?_ ?_⟩
    · rintro j σ H4 hj ⟨o8, o9, o10, rfl, rfl, hpg⟩
      have hjz : j < zs.length := hj
      have hzj := List.getElem?_eq_getElem hjz
      obtain ⟨dd, hd1, hd2⟩ := dpAll_at hcs hzj
      have hatz : atI zs (0 + (j : Int)) = some zs[j] := by
        have := atI_nat hzj
        rwa [show ((j : Nat) : Int) = 0 + (j : Int) by omega] at this
      generalize zs[j] = z at hzj hd2 hatz
      refine ⟨_, rfl, sa, _, 1, _, rfl, rfl, hys, rfl, _, rfl, ca, _, _, _, rfl, rfl, hca, hatz, ?_⟩
      refine ⟨_, rfl, _, _, rfl, rfl, ⟨by decide, by decide, by decide⟩, z, dd, _, rfl, hd2, _, rfl, ?_⟩
      have tg := hG.tie tie htm
      cases e6 : numB dd ((10 : Int) ^ (9 : Int).toNat) with
      | false =>
        refine iteT (noP (fun ns bit' h => ?_) _ s3)
        obtain ⟨tie', h1, h2, _, _, _, _, h3, _⟩ := partOf_inv h
        have ett : tie = tie' := Option.some.inj (e1.symm.trans h1)
        subst ett
        cases h2
        rw [List.getElem?_map] at hd1
        obtain ⟨uu, hu', rfl⟩ := Option.map_eq_some_iff.mp hd1
        have g := tg.cells uu (h3 uu (List.mem_of_getElem? hu'))
        have hb : uu < (10 : Int) ^ (9 : Int).toNat := by
          show uu < (10 : Int) ^ 9
          omega
        rw [numB_in g.1 hb] at e6
        cases e6
      | true =>
      obtain ⟨uu, rfl, hu0, hu1⟩ := numB_int e6
      have ev3 := dp_int hd2
      subst ev3
      refine iteF ⟨_, rfl, _, rfl, cc, _, rfl, .inr hc.sq, rfl, flat_ints _, _, rfl, ?_⟩
      have e7 : (if true = true then !inV (.int uu) (tie.2.map V.int) else inV (.int uu) (tie.2.map V.int)) = !decide (uu ∈ tie.2) := by
        rw [if_pos rfl, inV_int]
      rw [e7]
      by_cases hm : uu ∈ tie.2
      · rw [decide_eq_true hm]
        refine iteF ⟨_, rfl, _, _, rfl, rfl, _, rfl, ?_⟩
        by_cases hi0 : j = 0
        · subst hi0
          refine ifF (decide_eq_false (by omega)) ?_
          refine ⟨_, _, _, rfl, rfl, fun j hj => ?_⟩
          have ej : j = 0 := by omega
          subst ej
          exact ⟨uu, hd1, hm, fun k hk => by omega⟩
        · refine ifT (decide_eq_true (by omega)) ?_
          obtain ⟨y', hy1, hy2, _⟩ := hpg (j - 1) (by omega)
          have hxy : zs[j - 1]? = some (V.int y') := by
            obtain ⟨xx, q1, q2⟩ := dpAll_get hcs hy1
            rw [q1, dp_int q2]
          have hat2 : atI zs (0 + (j : Int) - 1) = some (V.int y') := by
            have := atI_nat hxy
            rwa [show ((j - 1 : Nat) : Int) = 0 + (j : Int) - 1 by omega] at this
          refine ⟨_, rfl, sa, _, 1, _, rfl, rfl, hys, rfl, _, rfl, _, _, rfl, rfl, ca, zs, _, _, rfl, rfl, hca, hat2, _, rfl, _, _, rfl, rfl, _, rfl, ?_⟩
          by_cases hlt : uu ≤ y'
          · refine ifT (decide_eq_true hlt) ?_
            refine noP (fun ns bit' h => ?_) _ s3
            obtain ⟨tie', h1, h2, _, _, _, h4, h3, _⟩ := partOf_inv h
            cases h2
            rw [List.getElem?_map] at hd1 hy1
            obtain ⟨u', hu', e7⟩ := Option.map_eq_some_iff.mp hd1
            obtain ⟨y'', hy'', e8⟩ := Option.map_eq_some_iff.mp hy1
            cases e7
            cases e8
            have := (rises_iff ns).mp h4 (j - 1) y' uu hy'' (by rw [Nat.sub_add_cancel (by omega)]; exact hu')
            omega
          · refine ifF (decide_eq_false hlt) ?_
            refine ⟨_, _, _, rfl, rfl, fun g hg => ?_⟩
            by_cases ej : g < j
            · exact hpg g ej
            · have ej : g = j := by omega
              subst ej
              refine ⟨uu, hd1, hm, fun k hk => ⟨y', ?_, by omega⟩⟩
              rw [show k = g - 1 by omega]
              exact hy1
      · rw [decide_eq_false hm]
        refine iteT (noP (fun ns bit' h => ?_) _ s3)
        obtain ⟨tie', h1, h2, _, _, _, _, h3, _⟩ := partOf_inv h
        have ett : tie = tie' := Option.some.inj (e1.symm.trans h1)
        subst ett
        cases h2
        rw [List.getElem?_map] at hd1
        obtain ⟨u', hu', e7⟩ := Option.map_eq_some_iff.mp hd1
        cases e7
        exact hm (h3 uu (List.mem_of_getElem? hu'))
    rintro σ H4 ⟨o8, o9, o10, rfl, rfl, hpg⟩
    have hpg' : PartG tie cs cs.length := by
      rw [← hzl]
      exact hpg
    obtain ⟨ns, rfl, hri, hmem⟩ := hpg'.all
    have hxe := dpAll_ints hcs
    subst hxe
    have hpart := partOf_if (va := vaOf bk) (f := f) e1 hb0 hb1 hri hmem
    rw [List.length_map] at hcl100
    obtain ⟨ps, hps1, hps2⟩ := (hS.im (im_same s3)).pairs
    refine ⟨_, rfl, _, rfl, _, rfl, sa, _, 0, _, rfl, rfl, hys, rfl, a, ts, t, _, rfl, rfl, h1, hat, _, rfl, so, ps, _, rfl, hps1, hps2, fun F hFn => ?_⟩
    have hFx := fxD_start (H := H4) (D := F) (st := st)
    have s5 : Same H4 (upd H4 F (.dK (mergeK [] (st.map fun p => ((Sum.inl p.1 : Key), V.int p.2))))) := same_new _ hFn
    generalize upd H4 F (.dK (mergeK [] (st.map fun p => ((Sum.inl p.1 : Key), V.int p.2)))) = H5 at hFx s5 ⊢
    rw [hfe] at hFx
    have sm5 := s3.trans s5
    refine ⟨L, F, _, bk, n, st.length, tie, f, rfl, hB.same sm5, hG.rel, ⟨u, cc, rfl, sqT_same s5 hu, hc.same s5⟩, hG.tie tie htm, hFx, by omega, fun H6 R6 rs s6 hR6 hRx hrows => ?_⟩
    have s46 := s5.trans s6
    have hrl := hrows.1
    have hrowsP := hrows
    refine ⟨R6, rfl, ⟨_, .inl (.inl hRx)⟩, for_list (xs := rs) (fun j σ H' => ∃ (o8 o9 o10 : Option V), σ = [some (.ref L), some (.ref a), some (.ref so), some (.ref sa0), some (.ref R), some (.int odd), some (.ref sa), some (.ref cc), o8, o9, o10] ∧ Same H6 H' ∧ ((views bk tie f).take j).all (fun r => decide (((ns.map (valAt tie.2 r)).sum + bit) % 2 = 0)) = true)
      ⟨_, _, _, rfl, .refl _, rfl⟩ (fun j σ H' _ h => by obtain ⟨_, _, _, _, e, _⟩ := h; exact .inl (.inl (e _ _ hRx))) ?_ ?_⟩
    · rintro j x σ H7 hj ⟨o8, o9, o10, rfl, s7, hall⟩
      have hjl := (List.getElem?_eq_some_iff.mp hj).1
      have hjv : j < (views bk tie f).length := by omega
      have hvj := List.getElem?_eq_getElem hjv
      have hvm := List.getElem_mem hjv
      obtain ⟨rb, hb1, hb2⟩ := hrows.2 j _ hvj
      rw [hj] at hb1
      cases hb1
      have htk : ((views bk tie f).take (j + 1)).all (fun r => decide (((ns.map (valAt tie.2 r)).sum + bit) % 2 = 0)) = decide (((ns.map (valAt tie.2 (views bk tie f)[j])).sum + bit) % 2 = 0) := by
        rw [List.take_succ, hvj, List.all_append, hall]
        simp
      have bad : decide (((ns.map (valAt tie.2 (views bk tie f)[j])).sum + bit) % 2 = 0) = false → ∀ H', Same H H' → Q (.bl false) H' := fun hb => by
        refine no ?_
        rw [hpart, if_neg fun h => ?_]
        have := List.all_eq_true.mp (show (views bk tie f).all (fun r => decide (((ns.map (valAt tie.2 r)).sum + bit) % 2 = 0)) = true from h) _ hvm
        rw [hb] at this
        cases this
      generalize (views bk tie f)[j] = r at hvj hvm hb2 htk bad
      have hrlen := view_len hG htm hvm
      have s47 := s46.trans s7
      have hys7 := sqT_same s47 hys
      have hca7 := sqT_same s47 hca
      refine ⟨_, rfl, sa, _, 1, _, rfl, rfl, hys7, rfl, ca, rfl, ⟨_, hca7⟩, fun D hD => lc_tup (xs := ns.map V.int) (fun l H' => Same H7 H' ∧ H' D = some (.lst (((ns.take l).map (valAt tie.2 r)).map V.int)))
        ⟨same_new _ hD, upd_same⟩ (fun l H' _ h => sqT_same h.1 hca7) ?_ ?_⟩
      · rintro l x H8 hl ⟨s8, hD8⟩
        rw [List.getElem?_map] at hl
        obtain ⟨uu, hu', rfl⟩ := Option.map_eq_some_iff.mp hl
        have hm := hmem uu (List.mem_of_getElem? hu')
        have hc8 := (hc.same s47).same s8
        refine ⟨rfl, _, rfl, _, rfl, cc, _, rfl, hc8, _, rfl, .int uu, tie.2.idxOf uu, .int uu, rfl, hc8, rfl, flat_ints _, tix_at hm, by rw [eqV_int]; exact decide_eq_true rfl, tix_no, rb, _, _, _, rfl, rfl, sqT_same (s7.trans s8) hb2, at_val hm hrlen, ?_⟩
        refine ⟨_, hD8, small1000 (by rw [List.length_map, List.length_map, List.length_take]; omega), same_mut _ s8 hD, ?_⟩
        rw [upd_same, List.take_succ, hu']
        simp
      · rintro H8 ⟨s8, hD8⟩
        rw [List.length_map, List.take_length] at hD8
        refine ⟨D, _, rfl, .inl (.inl hD8), _, rfl, sa, _, 2, _, rfl, rfl, sqT_same s8 hys7, rfl, _, _, rfl, rfl, .inl ⟨_, rfl, _, _, rfl, rfl, (by show (0 : Int) < 2; decide), _, _, rfl, rfl, _, rfl, ?_⟩⟩
        have hpar := Int.emod_nonneg ((ns.map (valAt tie.2 r)).sum + bit) (show (2 : Int) ≠ 0 by decide)
        by_cases e9 : ((ns.map (valAt tie.2 r)).sum + bit) % 2 = 0
        · refine ifF (decide_eq_false (by omega)) ?_
          exact ⟨_, _, _, rfl, s7.trans s8, by rw [htk]; exact decide_eq_true e9⟩
        · refine ifT (decide_eq_true (by omega)) ?_
          exact bad (decide_eq_false e9) _ (s3.trans (s47.trans s8))
    · rintro σ H7 ⟨o8, o9, o10, rfl, s7, hall⟩
      rw [List.take_of_length_le (by omega)] at hall
      have hva : vaOf bk tie f (fun r => decide (((ns.map (valAt tie.2 r)).sum + bit) % 2 = 0)) = true := hall
      rw [if_pos hva] at hpart
      have s47 := s46.trans s7
      have hys7 := sqT_same s47 hys
      have hca7 := sqT_same s47 hca
      have hR7 := s47 _ _ hR3
      refine ⟨_, rfl, _, rfl, sa, _, 1, _, rfl, rfl, hys7, rfl, ca, _, rfl, .inr hca7, fun Lq hLq => ?_⟩
      have s8 : Same H7 (upd H7 Lq (.lst (ns.map V.int))) := same_new _ hLq
      have hLq' : upd H7 Lq (.lst (ns.map V.int)) Lq = some (.lst (ns.map V.int)) := upd_same
      generalize upd H7 Lq (.lst (ns.map V.int)) = H8 at s8 hLq' ⊢
      refine ⟨R, Lq, _, _, rfl, rfl, s8 _ _ hR7, hLq', Nat.le_of_lt (small1e6 (by rw [List.length_map, List.length_map]; omega)), fun R2 hR2 => ?_⟩
      have s9 : Same H8 (upd H8 R2 (.lst (seen.map V.int ++ ns.map V.int))) := same_new _ hR2
      have hR2' : upd H8 R2 (.lst (seen.map V.int ++ ns.map V.int)) R2 = some (.lst ((seen ++ ns).map V.int)) := by
        rw [upd_same, List.map_append]
      generalize upd H8 R2 (.lst (seen.map V.int ++ ns.map V.int)) = H9 at s9 hR2' ⊢
      have s49 := (s47.trans s8).trans s9
      refine ⟨_, rfl, _, rfl, sa, _, 2, _, rfl, rfl, sqT_same s49 hys, rfl, _, _, rfl, rfl, ?_⟩
      refine ⟨_, _, _, _, _, R2, seen ++ ns, odd + bit, rfl, s3.trans s49, hR2', by rw [List.length_append]; omega, ?_⟩
      rw [hrec]
      conv => lhs; unfold sumOk
      rw [hpart]
  · rintro σ H3 ⟨o6, o7, o8, o9, o10, R, seen, odd, rfl, s3, hR3, hsn, hrec⟩
    rw [List.drop_eq_nil_of_le (by omega)] at hrec
    have hr2 : sumOk (vaOf bk) ties f ss [] 0 = (decide (odd % 2 = 1) && seen.all fun c => decide (seen.count c % 2 = 0)) := by
      rw [hrec]
      rfl
    rw [hr2] at q
    refine ⟨_, rfl, .inl ⟨_, rfl, _, _, rfl, rfl, (by show (0 : Int) < 2; decide), rfl, _, rfl, ?_⟩⟩
    rw [dec_eq]
    cases e7 : decide (odd % 2 = 1) with
    | false =>
      rw [e7] at q
      exact iteF (q _ s3)
    | true =>
      rw [e7] at q
      refine iteT ⟨_, rfl, R, rfl, ⟨_, .inl (.inl hR3)⟩, fun D hD => lc_list (xs := seen.map V.int) (fun j H' => Same H3 H' ∧ ∃ acc : List V, H' D = some (.lst acc) ∧ acc.length = ((seen.take j).filter fun c => !decide (seen.count c % 2 = 0)).length ∧ acc.length ≤ j)
        ⟨same_new _ hD, [], upd_same, rfl, Nat.le_refl _⟩ (fun j H' _ h => .inl (.inl (h.1 _ _ hR3))) ?_ ?_⟩
      · rintro j x H4 hj ⟨s4, acc, hacc, hal, halj⟩
        rw [List.getElem?_map] at hj
        obtain ⟨c, hcj, rfl⟩ := Option.map_eq_some_iff.mp hj
        have hjl := (List.getElem?_eq_some_iff.mp hcj).1
        have hn := take_filter (fun c => !decide (seen.count c % 2 = 0)) _ hcj
        have hR4 := s4 _ _ hR3
        refine ⟨rfl, _, rfl, .inl ⟨rfl, _, .inl (.inl hR4)⟩, _, rfl, R, seen, c, rfl, rfl, .inl (.inl hR4), .inl ⟨_, rfl, _, _, rfl, rfl, (by show (0 : Int) < 2; decide), _, _, rfl, rfl, _, rfl, ?_⟩⟩
        by_cases e8 : seen.count c % 2 = 0
        · rw [if_neg (by rw [decide_eq_true e8]; decide), List.append_nil] at hn
          exact ifF (decide_eq_false (by omega)) ⟨s4, acc, hacc, by rw [hn]; exact hal, by omega⟩
        · rw [if_pos (by rw [decide_eq_false e8]; rfl)] at hn
          exact ifT (decide_eq_true (by omega)) ⟨_, rfl, acc, hacc, small1e6 (by omega), same_mut _ s4 hD, _, upd_same, by rw [hn, List.length_append, List.length_append, hal]; rfl, by rw [List.length_append]; exact Nat.succ_le_succ halj⟩
      · rintro H4 ⟨s4, acc, hacc, hal, halj⟩
        rw [List.length_map, List.take_length] at hal
        refine ⟨D, acc, rfl, .inl (.inl (.inl hacc)), rfl, ?_⟩
        rw [dec_eq]
        have ek : decide ((acc.length : Int) = 0) = seen.all fun c => decide (seen.count c % 2 = 0) := by
          have h1 := filter_none (fun c => decide (seen.count c % 2 = 0)) seen
          rw [← hal] at h1
          rw [← Bool.not_not (seen.all fun c => decide (seen.count c % 2 = 0)), ← h1, ← decide_not, decide_eq_decide]
          omega
        rw [ek]
        exact q _ (s3.trans s4)
end
end EC


set_option Elab.async false
set_option linter.all false
set_option maxRecDepth 100000
set_option maxHeartbeats 4000000
namespace EC
open PySem PySem.Spec PyProof.Rows L2
theorem isS_str (k s : Str) : isS (.str k) s = decide (k = s) := rfl
theorem strD_yes {d : PyData} (h : isStrD d = true) : ∃ k, d = .str k := by
  cases d <;> first | exact ⟨_, rfl⟩ | cases h
theorem head_non {bk : List Rel} {ties : List Tie} {n : Nat} {f : Fx} {d0 : PyData} {ds : List PyData} (h : isStrD d0 = false) : judge (vaOf bk) ties n (.tuple (d0 :: ds)) f = false := by
  cases d0 <;> first | (simp [judge]; done) | cases h
/-- what is said by a head that is neither chain nor sum -/
theorem judge_len {bk : List Rel} {ties : List Tie} {n : Nat} {f : Fx} {k : Str} {ds : List PyData} (h1 : k ≠ "chain") (h2 : k ≠ "sum") (h : ds.length ≠ 3) : judge (vaOf bk) ties n (.tuple (.str k :: ds)) f = false := by
  have e : splitD n f (.str k :: ds) = false := by
    match ds, h with
    | [], _ => rfl
    | [_], _ => rfl
    | [_, _], _ => rfl
    | [_, _, _], h => exact absurd rfl h
    | _ :: _ :: _ :: _ :: _, _ => rfl
  rw [judge_tup e]
  match ds, h with
  | [], _ => rfl
  | [d], _ =>
    show (decide (k = "sum") && _) = false
    rw [decide_eq_false h2]
    rfl
  | [d, e], _ =>
    show (decide (k = "chain") && _) = false
    rw [decide_eq_false h1]
    rfl
  | [_, _, _], h => exact absurd rfl h
  | _ :: _ :: _ :: _ :: _, _ => rfl
theorem judge_free {bk : List Rel} {ties : List Tie} {n : Nat} {f : Fx} {k : Str} {d a b : PyData} (h : freeB n f d = false) : judge (vaOf bk) ties n (.tuple [.str k, d, a, b]) f = false := by
  have e : splitD n f [.str k, d, a, b] = false := by
    show (_ && freeB n f d) = false
    rw [h, Bool.and_false]
  rw [judge_tup e]
  show (_ && ringD bk ties n f d a b) = false
  have e2 : ringD bk ties n f d a b = false := by
    cases d with
    | int c =>
      have h' : ((decide (0 ≤ c) && decide (c < (n : Int))) && decide (f c = none)) = false := h
      show ((decide (0 ≤ c) && decide (c < (n : Int))) && (decide (f c = none) && _)) = false
      rw [← Bool.and_assoc, h', Bool.false_and]
    | _ => rfl
  rw [e2, Bool.and_false]
section
variable {P : Program} {w : World} {K : PySem.W.Frag} {mg : Str → Option Value} {base : Heap}
/-! ### _law_is_none -/
def spNoneL (K : PySem.W.Frag) (r : Nat) : Sp := fun vs H Q _ => ∃ (L a s : Addr) (v : V) (d : PyData) (k n : Nat) (bk : List Rel) (ties : List Tie) (st : List (Int × Int)), vs = [.ref L, .int n, .ref a, .ref s, v] ∧ BookL K H L bk ∧ Good bk ties n ∧ TiesAt K H (.ref a) ties ∧ StAt K H s st ∧ StartG n st ∧ Dp K H v d ∧ fine k d ∧ k ≤ 60 ∧ freeN n (lookS st) < r ∧
  ∀ H', Same H H' → Q (.bl (judge (vaOf bk) ties n d (lookS st))) H'
theorem ok_law_is_none (T : Txt K mg) : ∀ r, Ok P w K mg base (4 + r) d_law_is_none ["_law_book_here", "_law_cells", "_law_ties_here", "_law_start_here", "_law_paper"] (spNoneL K r)
  | 0 => by
    refine T.F_law_is_none.ok sc_law_is_none (fun vs H Q E h => ?_) (fun cdv A outer s H vs Q E hr h => ?_)
    · obtain ⟨L, a, so, v, d, k, n, bk, ties, st, rfl, _⟩ := h
      rfl
    · obtain ⟨L, a, so, v, d, k, n, bk, ties, st, rfl, _, _, _, _, _, _, _, _, hz, _⟩ := h
      exact absurd hz (Nat.not_lt_zero _)
  | r + 1 => by
    have G_law_is_none : Ok P w K mg base (4 + r) d_law_is_none ["_law_book_here", "_law_cells", "_law_ties_here", "_law_start_here", "_law_paper"] (spNoneL K r) := ok_law_is_none T r
    have G_law_are : Ok P w K mg base 1 d_law_are ["_law_value", "_law_many"] (spAre K) := ok_law_are T
    have G_law_is_number : Ok P w K mg base 1 d_law_is_number ["_law_value", "_law_most"] (spNum K) := ok_law_is_number T
    have G_law_is_chain : Ok P w K mg base 3 d_law_is_chain ["_law_book_here", "_law_ties_here", "_law_start_here", "_law_steps_here", "_law_t"] (spChainL K) := ok_law_is_chain T
    have G_law_is_sum : Ok P w K mg base 3 d_law_is_sum ["_law_book_here", "_law_ties_here", "_law_start_here", "_law_parts"] (spSumL K) := ok_law_is_sum T
    have G_law_is_way : Ok P w K mg base 3 d_law_is_way ["_law_book_here", "_law_ties_here", "_law_start_here", "_law_way", "_law_cell", "_law_value", "_law_end"] (spWayL K) := ok_law_is_way T
    have G_law_with : Ok P w K mg base 1 d_law_with ["_law_start_here", "_law_cell", "_law_value"] (spWithL K) := ok_law_with T
    refine T.F_law_is_none.ok (k := 4 + r) sc_law_is_none (fun vs H Q E h => ?_) (fun cdv A outer s H vs Q E hr h => ?_)
    · obtain ⟨L, a, so, v, d, k, n, bk, ties, st, rfl, _⟩ := h
      rfl
    obtain ⟨L, a, so, v, d, k, n, bk, ties, st, rfl, hB, hG, hT, hS, S, hd, hf, hk, hfree, q⟩ := h
    refine ⟨_, PSs.nox (
    (pss_cons (ps_if (PW.pt (pw_or (pt_not (pt_val (pe_call G_law_are (hr.mono (by omega)) (by rfl) T.g_law_are T.F_law_are.kp T.b_law_are .nil pass0 (pa_cons (pv 4) (pa_cons (pe_un un_neg pe_int) pa_nil))))) (pw_or (pt_cmpR op_eq (pe_callB call_len_seq (by rfl) T.z_len PySem.boot_len (pa_cons (pv 4) pa_nil)) pe_int (nomark _)) (pw_or1 (pt_not (pt_val (pe_callB call_isi (by rfl) T.z_isinstance (by decide +kernel) (pa_cons (pe_ix ix_tup (pv 4) pe_int (fun _ _ => rfl)) (pa_cons (pe_bltn (v := .ty "str") (by rfl) T.z_str (by decide +kernel) rfl) pa_nil)))))))))
        (pss_one (ps_ret pe_bl))
        pss_nil)
      (pss_cons (ps_if (pt_cmpR (op_eqD hr.units) (pe_ix ix_tup (pv 4) pe_int (fun _ _ => rfl)) pe_str (nomark _))
        (pss_one (ps_ret (pe_and (pe_cmpR op_eq (pe_callB call_len_seq (by rfl) T.z_len PySem.boot_len (pa_cons (pv 4) pa_nil)) pe_int (nomark _)) (pe_one (pe_call G_law_is_chain (hr.mono (by omega)) (by rfl) T.g_law_is_chain T.F_law_is_chain.kp T.b_law_is_chain .nil pass0 (pa_cons (pv 0) (pa_cons (pv 2) (pa_cons (pv 3) (pa_cons (pe_ix ix_tup (pv 4) pe_int (fun _ _ => rfl)) (pa_cons (pe_ix ix_tup (pv 4) pe_int (fun _ _ => rfl)) pa_nil))))))))))
        pss_nil)
      (pss_cons (ps_if (pt_cmpR (op_eqD hr.units) (pe_ix ix_tup (pv 4) pe_int (fun _ _ => rfl)) pe_str (nomark _))
        (pss_one (ps_ret (pe_and (pe_cmpR op_eq (pe_callB call_len_seq (by rfl) T.z_len PySem.boot_len (pa_cons (pv 4) pa_nil)) pe_int (nomark _)) (pe_one (pe_call G_law_is_sum (hr.mono (by omega)) (by rfl) T.g_law_is_sum T.F_law_is_sum.kp T.b_law_is_sum .nil pass0 (pa_cons (pv 0) (pa_cons (pv 2) (pa_cons (pv 3) (pa_cons (pe_ix ix_tup (pv 4) pe_int (fun _ _ => rfl)) pa_nil)))))))))
        pss_nil)
      (pss_cons (ps_if (PW.pt (pw_or (pt_cmpR op_ne (pe_callB call_len_seq (by rfl) T.z_len PySem.boot_len (pa_cons (pv 4) pa_nil)) pe_int (nomark _)) (pw_or (pt_not (pt_val (pe_call G_law_is_number (hr.mono (by omega)) (by rfl) T.g_law_is_number T.F_law_is_number.kp T.b_law_is_number .nil pass0 (pa_cons (pe_ix ix_tup (pv 4) pe_int (fun _ _ => rfl)) (pa_cons (pv 1) pa_nil))))) (pw_or1 (pt_cmp (pc_din (hu_of hr) (pe_ix ix_tup (pv 4) pe_int (fun _ _ => rfl)) (pe_callTy (call_dictT rfl) (by rfl) T.z_dict (by decide +kernel) (pa_cons (pv 3) pa_nil))))))))
        (pss_one (ps_ret pe_bl))
        pss_nil)
      (pss_cons (ps_set (i := 5) sc_law_is_none.nd rfl (Or.inl rfl) (pe_ix ix_tup (pv 4) pe_int (fun _ _ => rfl)))
      (pss_cons (ps_if (pt_cmpR (op_eqD hr.units) (pe_ix ix_tup (pv 4) pe_int (fun _ _ => rfl)) pe_str (nomark _))
        (pss_cons (ps_if (pt_not (pt_val (pe_call G_law_is_way (hr.mono (by omega)) (by rfl) T.g_law_is_way T.F_law_is_way.kp T.b_law_is_way .nil pass0 (pa_cons (pv 0) (pa_cons (pv 2) (pa_cons (pv 3) (pa_cons (pe_ix ix_tup (pv 4) pe_int (fun _ _ => rfl)) (pa_cons (pv 5) (pa_cons pe_int (pa_cons (pe_tup (pa_cons (pv 5) (pa_cons pe_int pa_nil))) pa_nil))))))))))
          (pss_one (ps_ret pe_bl))
          pss_nil)
        (pss_one (ps_ret (pe_call G_law_is_way (hr.mono (by omega)) (by rfl) T.g_law_is_way T.F_law_is_way.kp T.b_law_is_way .nil pass0 (pa_cons (pv 0) (pa_cons (pv 2) (pa_cons (pv 3) (pa_cons (pe_ix ix_tup (pv 4) pe_int (fun _ _ => rfl)) (pa_cons (pv 5) (pa_cons pe_int (pa_cons (pe_tup (pa_cons (pv 5) (pa_cons pe_int pa_nil))) pa_nil)))))))))))
        pss_nil)
      (pss_cons (ps_if (PW.pt (pw_or (pt_cmpR (op_neD hr.units) (pe_ix ix_tup (pv 4) pe_int (fun _ _ => rfl)) pe_str (nomark _)) (pw_or1 (pt_not (pt_val (pe_call G_law_is_none (hr.mono (by omega)) (by rfl) T.g_law_is_none T.F_law_is_none.kp T.b_law_is_none .nil pass0 (pa_cons (pv 0) (pa_cons (pv 1) (pa_cons (pv 2) (pa_cons (pe_call G_law_with (hr.mono (by omega)) (by rfl) T.g_law_with T.F_law_with.kp T.b_law_with .nil pass0 (pa_cons (pv 3) (pa_cons (pv 5) (pa_cons pe_int pa_nil)))) (pa_cons (pe_ix ix_tup (pv 4) pe_int (fun _ _ => rfl)) pa_nil)))))))))))
        (pss_one (ps_ret pe_bl))
        pss_nil)
      (pss_one (ps_ret (pe_call G_law_is_none (hr.mono (by omega)) (by rfl) T.g_law_is_none T.F_law_is_none.kp T.b_law_is_none .nil pass0 (pa_cons (pv 0) (pa_cons (pv 1) (pa_cons (pv 2) (pa_cons (pe_call G_law_with (hr.mono (by omega)) (by rfl) T.g_law_with T.F_law_with.kp T.b_law_with .nil pass0 (pa_cons (pv 3) (pa_cons (pv 5) (pa_cons pe_int pa_nil)))) (pa_cons (pe_ix ix_tup (pv 4) pe_int (fun _ _ => rfl)) pa_nil)))))))))))))))
    ), ?_⟩
    have hn5 := hG.n5
    have hsl := start_len S
    obtain ⟨c1, c2, c3, c4⟩ := shaped_str
    have ans : judge (vaOf bk) ties n d (lookS st) = false → ∀ H', Same H H' → Q (.bl false) H' := fun h H' s' => by
      have := q H' s'
      rw [h] at this
      exact this
    refine ⟨_, rfl, _, rfl, v, d, -1, rfl, hd, _, rfl, ?_⟩
    rw [are_tup]
    cases e4 : isTupD d with
    | false => exact iteT (ans (judge_non e4) H (.refl H))
    | true =>
    obtain ⟨ds, rfl⟩ := tupD_yes e4
    obtain ⟨k, rfl, hlen, hff⟩ := fine_tup hf
    obtain ⟨sa, xs, rfl, hs, hds⟩ := dp_tup hd
    have hxl := dpAll_len hds
    refine iteF ⟨_, rfl, sa, xs, rfl, .inr hs, rfl, _, rfl, ?_⟩
    cases hds with
    | nil => exact iteT (ans (by simp [judge]) H (.refl H))
    | @cons x0 xs d0 ds h0 hds =>
    have hxl2 := dpAll_len hds
    refine ifF (decide_eq_false fun z => by have := V.int.inj z; rw [List.length_cons] at this; omega) ?_
    obtain ⟨t0, ht0, hk0⟩ := isi_str h0
    refine ⟨_, rfl, sa, _, 0, _, rfl, rfl, hs, at_nn (by decide) rfl, _, _, t0, _, _, rfl, .ty _, ht0, hk0, _, rfl, ?_⟩
    cases e5 : isStrD d0 with
    | false => exact iteT (ans (head_non e5) H (.refl H))
    | true =>
    obtain ⟨kk, rfl⟩ := strD_yes e5
    have ev0 := dp_str h0
    subst ev0
    have hsh : SeqAt.shaped (.str kk) = true := fine_shaped (hff (.str kk) List.mem_cons_self) (by omega)
    refine iteF ⟨_, rfl, sa, _, 0, _, rfl, rfl, hs, at_nn (by decide) rfl, .str kk, .str "chain", .str _, .str _, hsh, c1, _, rfl, ?_⟩
    rw [eqv_str, isS_str]
    by_cases e6 : kk = "chain"
    · refine ifT (decide_eq_true e6) ?_
      refine ⟨_, rfl, sa, _, rfl, .inr hs, rfl, _, rfl, ?_⟩
      rw [dec_eq]
      match ds, hds, hxl2, q, ans, hff with
      | [d1, d2], .cons h1 (.cons h2 .nil), _, q, ans, hff =>
        refine iteT ⟨_, rfl, _, rfl, _, rfl, _, rfl, sa, _, 1, _, rfl, rfl, hs, rfl, _, rfl, sa, _, 2, _, rfl, rfl, hs, rfl, L, a, so, _, _, d1, d2, k, n, bk, ties, st, rfl, hB, hG, hT, hS, S, h1, hff d1 (by simp), h2, fun H' s' => ?_⟩
        have := q H' s'
        have e7 : judge (vaOf bk) ties n (.tuple [.str kk, d1, d2]) (lookS st) = chainD bk ties (lookS st) d1 d2 := by
          rw [judge_tup rfl]
          show (decide (kk = "chain") && _) = _
          rw [decide_eq_true e6, Bool.true_and]
        rw [e7] at this
        exact this
      | [], .nil, _, q, ans, hff => exact iteF (ans (by simp [judge]) H (.refl H))
      | [d1], .cons h1 .nil, _, q, ans, hff =>
        refine iteF (ans ?_ H (.refl H))
        rw [judge_tup rfl]
        show (decide (kk = "sum") && _) = _
        rw [e6]
        rfl
      | [d1, d2, d3], .cons h1 (.cons h2 (.cons h3 .nil)), _, q, ans, hff =>
        refine iteF (ans ?_ H (.refl H))
        have e7 : splitD n (lookS st) [.str kk, d1, d2, d3] = false := by
          show (decide (kk = "split") && _) = _
          rw [e6]
          rfl
        rw [judge_tup e7]
        show (decide (kk = "ring") && _) = _
        rw [e6]
        rfl
      | d1 :: d2 :: d3 :: d4 :: dr, .cons h1 (.cons h2 (.cons h3 (.cons h4 hr4))), _, q, ans, hff =>
        refine ifF (decide_eq_false ?_) (ans (by rw [judge_tup rfl]; rfl) H (.refl H))
        simp only [List.length_cons]
        omega
    refine ifF (decide_eq_false e6) ?_
    refine ⟨_, rfl, sa, _, 0, _, rfl, rfl, hs, at_nn (by decide) rfl, .str kk, .str "sum", .str _, .str _, hsh, c3, _, rfl, ?_⟩
    rw [eqv_str, isS_str]
    by_cases e8 : kk = "sum"
    · refine ifT (decide_eq_true e8) ?_
      refine ⟨_, rfl, sa, _, rfl, .inr hs, rfl, _, rfl, ?_⟩
      rw [dec_eq]
      match ds, hds, hxl2, q, ans, hff with
      | [d1], .cons h1 .nil, _, q, ans, hff =>
        refine iteT ⟨_, rfl, _, rfl, _, rfl, _, rfl, sa, _, 1, _, rfl, rfl, hs, rfl, L, a, so, _, d1, k, n, bk, ties, st, rfl, hB, hG, hT, hS, S, h1, hff d1 (by simp), fun H' s' => ?_⟩
        have := q H' s'
        have e7 : judge (vaOf bk) ties n (.tuple [.str kk, d1]) (lookS st) = sumD bk ties (lookS st) d1 := by
          rw [judge_tup rfl]
          show (decide (kk = "sum") && _) = _
          rw [decide_eq_true e8, Bool.true_and]
        rw [e7] at this
        exact this
      | [], .nil, _, q, ans, hff => exact iteF (ans (by simp [judge]) H (.refl H))
      | [d1, d2], .cons h1 (.cons h2 .nil), _, q, ans, hff =>
        refine iteF (ans ?_ H (.refl H))
        rw [judge_tup rfl]
        show (decide (kk = "chain") && _) = _
        rw [decide_eq_false e6]
        rfl
      | [d1, d2, d3], .cons h1 (.cons h2 (.cons h3 .nil)), _, q, ans, hff =>
        refine iteF (ans ?_ H (.refl H))
        have e7 : splitD n (lookS st) [.str kk, d1, d2, d3] = false := by
          show (decide (kk = "split") && _) = _
          rw [e8]
          rfl
        rw [judge_tup e7]
        show (decide (kk = "ring") && _) = _
        rw [e8]
        rfl
      | d1 :: d2 :: d3 :: d4 :: dr, .cons h1 (.cons h2 (.cons h3 (.cons h4 hr4))), _, q, ans, hff =>
        refine ifF (decide_eq_false ?_) (ans (by rw [judge_tup rfl]; rfl) H (.refl H))
        simp only [List.length_cons]
        omega
    refine ifF (decide_eq_false e8) ?_
    refine ⟨_, rfl, sa, _, rfl, .inr hs, rfl, _, rfl, ?_⟩
    rw [dec_ne]
    by_cases hl3 : ds.length = 3
    · refine ifNT (decide_eq_true (by rw [List.length_cons]; omega)) ?_
      match ds, hl3, hds, hxl2, q, ans, hff with
      | [d1, d2, d3], _, .cons (v := x1) h1 (.cons (v := x2) h2 (.cons (v := x3) h3 .nil)), _, q, ans, hff =>
      refine ⟨_, rfl, sa, _, 1, _, rfl, rfl, hs, rfl, _, rfl, x1, d1, n, rfl, h1, _, rfl, ?_⟩
      cases e9 : numB d1 n with
      | false =>
        refine iteT (ans (judge_free ?_) H (.refl H))
        cases d1 with
        | int c =>
          show ((decide (0 ≤ c) && decide (c < (n : Int))) && _) = false
          rw [show (decide (0 ≤ c) && decide (c < (n : Int))) = false from e9]
          rfl
        | _ => rfl
      | true =>
      obtain ⟨c, rfl, hc0, hc1⟩ := numB_int e9
      have ev1 := dp_int h1
      subst ev1
      obtain ⟨ps, hps1, hps2⟩ := hS.pairs
      refine iteF ⟨_, rfl, sa, _, 1, _, rfl, rfl, hs, rfl, _, rfl, so, ps, _, rfl, hps1, hps2, fun F hFn => ?_⟩
      have hFx := fxD_start (H := H) (D := F) (st := st)
      have s5 : Same H (upd H F (.dK (mergeK [] (st.map fun p => ((Sum.inl p.1 : Key), V.int p.2))))) := same_new _ hFn
      generalize upd H F (.dK (mergeK [] (st.map fun p => ((Sum.inl p.1 : Key), V.int p.2)))) = H5 at hFx s5 ⊢
      refine ⟨F, _, rfl, hFx.get c, _, rfl, ?_⟩
      have hs5 := sqT_same s5 hs
      cases e10 : lookS st c with
      | some u =>
        refine iteT (ans (judge_free ?_) _ s5)
        show ((decide (0 ≤ c) && decide (c < (n : Int))) && decide (lookS st c = none)) = false
        rw [e10]
        simp
      | none =>
      refine iteF ⟨_, rfl, sa, _, 1, _, rfl, rfl, hs5, rfl, ?_⟩
      refine ⟨_, rfl, sa, _, 0, _, rfl, rfl, hs5, rfl, .str kk, .str "ring", .str _, .str _, hsh, c2, _, rfl, ?_⟩
      rw [eqv_str, isS_str]
      have hB5 := hB.same s5
      have hT5 := hT.im (im_same s5)
      have hS5 := hS.im (im_same s5)
      have h25 := dp_same s5 h2
      have h35 := dp_same s5 h3
      by_cases e11 : kk = "ring"
      · refine ifT (decide_eq_true e11) ?_
        have e12 : splitD n (lookS st) [.str kk, .int c, d2, d3] = false := by
          show (decide (kk = "split") && _) = _
          rw [e11]
          rfl
        have e13 : judge (vaOf bk) ties n (.tuple [.str kk, .int c, d2, d3]) (lookS st) = (wayD bk ties (lookS st) c 1 d2 && wayD bk ties (lookS st) c 0 d3) := by
          rw [judge_tup e12]
          show (decide (kk = "ring") && ((decide (0 ≤ c) && decide (c < (n : Int))) && (decide (lookS st c = none) && _))) = _
          rw [decide_eq_true e11, decide_eq_true hc0, decide_eq_true hc1, decide_eq_true e10]
          rfl
        rw [e13] at q
        refine ⟨_, rfl, _, rfl, _, rfl, _, rfl, sa, _, 2, _, rfl, rfl, hs5, rfl, _, rfl, _, rfl, (by show 2 ≤ sizeLine; decide), fun T1 hT1 => ?_⟩
        have s6 : Same H5 (upd H5 T1 (.tup [.int c, .int 0])) := same_new _ hT1
        have hT1l : upd H5 T1 (.tup [.int c, .int 0]) T1 = some (.tup [.int c, .int 0]) := upd_same
        generalize upd H5 T1 (.tup [.int c, .int 0]) = H6 at s6 hT1l ⊢
        refine ⟨L, a, so, T1, x2, c, 1, c, 0, d2, k, n, bk, ties, st, rfl, hT1l, hB5.same s6, hG, hT5.im (im_same s6), hS5.im (im_same s6), S, dp_same s6 h25, hff d2 (by simp), fun H7 s7 => ⟨_, rfl, ?_⟩⟩
        have ew : wayE bk ties (lookS st) c 1 c 0 d2 = wayD bk ties (lookS st) c 1 d2 := by
          cases d2 <;> rfl
        rw [ew]
        have s57 := s6.trans s7
        cases e14 : wayD bk ties (lookS st) c 1 d2 with
        | false =>
          have := q _ (s5.trans s57)
          rw [e14] at this
          exact iteT this
        | true =>
          rw [e14] at q
          refine iteF ⟨_, rfl, _, rfl, _, rfl, _, rfl, sa, _, 3, _, rfl, rfl, sqT_same s57 hs5, rfl, _, rfl, _, rfl, (by show 2 ≤ sizeLine; decide), fun T2 hT2 => ?_⟩
          have s8 : Same H7 (upd H7 T2 (.tup [.int c, .int 1])) := same_new _ hT2
          have hT2l : upd H7 T2 (.tup [.int c, .int 1]) T2 = some (.tup [.int c, .int 1]) := upd_same
          generalize upd H7 T2 (.tup [.int c, .int 1]) = H8 at s8 hT2l ⊢
          have s58 := s57.trans s8
          refine ⟨L, a, so, T2, x3, c, 0, c, 1, d3, k, n, bk, ties, st, rfl, hT2l, hB5.same s58, hG, hT5.im (im_same s58), hS5.im (im_same s58), S, dp_same s58 h35, hff d3 (by simp), fun H9 s9 => ?_⟩
          have ew : wayE bk ties (lookS st) c 0 c 1 d3 = wayD bk ties (lookS st) c 0 d3 := by
            cases d3 <;> rfl
          rw [ew]
          exact q _ ((s5.trans s58).trans s9)
      · refine ifF (decide_eq_false e11) ?_
        refine ⟨_, rfl, sa, _, 0, _, rfl, rfl, hs5, rfl, .str kk, .str "split", .str _, .str _, hsh, c4, _, rfl, ?_⟩
        rw [eqv_str, isS_str]
        by_cases e12 : kk = "split"
        · refine ifNT (decide_eq_true e12) ?_
          have e13 : judge (vaOf bk) ties n (.tuple [.str kk, .int c, d2, d3]) (lookS st) = (judge (vaOf bk) ties n d2 (put (lookS st) c 0) && judge (vaOf bk) ties n d3 (put (lookS st) c 1)) := by
            rw [e12]
            exact judge_split hc0 hc1 e10
          rw [e13] at q
          have hst100 : st.length ≤ 100 := by omega
          have g0 := withS_good (v := 0) S e10 ⟨hc0, hc1⟩ (.inl rfl)
          have g1 := withS_good (v := 1) S e10 ⟨hc0, hc1⟩ (.inr rfl)
          have l0 := withS_look (v := 0) S e10 ⟨hc0, hc1⟩ (.inl rfl)
          have l1 := withS_look (v := 1) S e10 ⟨hc0, hc1⟩ (.inr rfl)
          have f0 := freeN_put (v := 0) hc0 hc1 e10
          have f1 := freeN_put (v := 1) hc0 hc1 e10
          refine ⟨_, rfl, _, rfl, _, rfl, _, rfl, _, rfl, so, c, 0, st, rfl, hS5, hst100, fun H6 s' s6 hS6 => ?_⟩
          have hs6 := sqT_same s6 hs5
          refine ⟨_, rfl, sa, _, 2, _, rfl, rfl, hs6, rfl, L, a, s', x2, d2, k, n, bk, ties, withS st c 0, rfl, hB5.same s6, hG, hT5.im (im_same s6), hS6, g0, dp_same s6 h25, hff d2 (by simp), by omega, by rw [l0]; omega, fun H7 s7 => ⟨_, rfl, ?_⟩⟩
          rw [l0]
          have s57 := s6.trans s7
          cases e14 : judge (vaOf bk) ties n d2 (put (lookS st) c 0) with
          | false =>
            have := q _ (s5.trans s57)
            rw [e14] at this
            exact iteT this
          | true =>
            rw [e14] at q
            refine iteF ⟨_, rfl, _, rfl, _, rfl, _, rfl, _, rfl, so, c, 1, st, rfl, hS5.im (im_same s57), hst100, fun H8 s'' s8 hS8 => ?_⟩
            have s58 := s57.trans s8
            refine ⟨_, rfl, sa, _, 3, _, rfl, rfl, sqT_same s58 hs5, rfl, L, a, s'', x3, d3, k, n, bk, ties, withS st c 1, rfl, hB5.same s58, hG, hT5.im (im_same s58), hS8, g1, dp_same s58 h35, hff d3 (by simp), by omega, by rw [l1]; omega, fun H9 s9 => ?_⟩
            rw [l1]
            exact q _ ((s5.trans s58).trans s9)
        · refine ifNF (decide_eq_false e12) (ans ?_ _ s5)
          have e13 : splitD n (lookS st) [.str kk, .int c, d2, d3] = false := by
            show (decide (kk = "split") && _) = _
            rw [decide_eq_false e12]
            rfl
          rw [judge_tup e13]
          show (decide (kk = "ring") && _) = _
          rw [decide_eq_false e11]
          rfl
    · exact ifNF (decide_eq_false (by rw [List.length_cons]; omega)) (ans (judge_len e6 e8 hl3) H (.refl H))
end
end EC


set_option Elab.async false
set_option linter.all false
set_option maxRecDepth 100000
set_option maxHeartbeats 4000000
namespace EC
open PySem PySem.Spec PyProof.Rows L2
/-! ### data that stands while the hand moves -/
def cutH (H : Hp) (hd : Addr) : Hp := fun b => if b = hd then none else H b
theorem cut_same {H : Hp} {hd : Addr} : Same (cutH H hd) H := fun b u e => by
  unfold cutH at e
  split at e
  · cases e
  · exact e
theorem cut_sx {H H' : Hp} {hd : Addr} (s : SX hd H H') : Same (cutH H hd) (cutH H' hd) := fun b u e => by
  unfold cutH at e ⊢
  split at e
  · cases e
  · rename_i n
    rw [if_neg n]
    exact s b u n e
theorem cut_im {H : Hp} {hd : Addr} {l : List V} (h : H hd = some (.lst l)) : Im H (cutH H hd) := fun b u i e => by
  unfold cutH
  rw [if_neg]
  · exact e
  · rintro rfl
    rw [h] at e
    cases e
    cases i
theorem cut_at {H : Hp} {hd b : Addr} {u : HO} (n : b ≠ hd) (h : H b = some u) : cutH H hd b = some u := by
  unfold cutH
  rw [if_neg n]
  exact h
def PapAt (K : PySem.W.Frag) (H : Hp) (hd : Addr) (v : V) (d : PyData) : Prop := Dp K (cutH H hd) v d
/-- data of tuples, ints, texts; little lists nowhere -/
def nice : Nat → PyData → Prop
  | _, .none => True
  | _, .bool _ => True
  | _, .int _ => True
  | _, .str x => PyData.strOk x = true
  | n + 1, .tuple ds => ds.length ≤ 30 ∧ ∀ d ∈ ds, nice n d
  | _, _ => False
theorem nice_fine : ∀ (n : Nat) (d : PyData), nice n d → fine n d
  | n, .none, _ => by cases n <;> trivial
  | n, .bool _, _ => by cases n <;> trivial
  | n, .int _, _ => by cases n <;> trivial
  | n, .str x, h => by cases n <;> exact h
  | n, .list _, h => by cases n <;> exact h.elim
  | n, .dict _, h => by cases n <;> exact h.elim
  | 0, .tuple _, h => h.elim
  | n + 1, .tuple ds, h => ⟨by have := h.1; omega, fun d hd => nice_fine n d (h.2 d hd)⟩
theorem nice_noL : ∀ (n : Nat) (d : PyData), nice n d → noL n d = true
  | n, .none, _ => by cases n <;> rfl
  | n, .bool _, _ => by cases n <;> rfl
  | n, .int _, _ => by cases n <;> rfl
  | n, .str x, h => by cases n <;> rfl
  | n, .list _, h => by cases n <;> exact h.elim
  | n, .dict _, h => by cases n <;> exact h.elim
  | 0, .tuple _, h => h.elim
  | n + 1, .tuple ds, h => List.all_eq_true.mpr fun d hd => nice_noL n d (h.2 d hd)
theorem nice_mono : ∀ {n m : Nat} {d : PyData}, nice n d → n ≤ m → nice m d
  | _, m, .none, _, _ => by cases m <;> trivial
  | _, m, .bool _, _, _ => by cases m <;> trivial
  | _, m, .int _, _, _ => by cases m <;> trivial
  | n, m, .str x, h, _ => by cases n <;> cases m <;> exact h
  | n, m, .dict _, h, _ => by cases n <;> exact h.elim
  | n, m, .list _, h, _ => by cases n <;> exact h.elim
  | 0, _, .tuple _, h, _ => h.elim
  | n + 1, 0, .tuple _, _, hm => by omega
  | n + 1, m + 1, .tuple ds, h, hm => ⟨h.1, fun d hd => nice_mono (h.2 d hd) (by omega)⟩
theorem nice_row {r : List Int} (h : r.length ≤ 30) (n : Nat) : nice (n + 1) (eI r) := by
  refine ⟨by rw [List.length_map]; exact h, fun d hd => ?_⟩
  obtain ⟨i, _, rfl⟩ := List.mem_map.mp hd
  cases n <;> trivial
theorem nice_rows {rows : List (List Int)} (h : rows.length ≤ 30) (h2 : ∀ r ∈ rows, r.length ≤ 30) (n : Nat) : nice (n + 2) (eR rows) := by
  refine ⟨by rw [List.length_map]; exact h, fun d hd => ?_⟩
  obtain ⟨r, hr, rfl⟩ := List.mem_map.mp hd
  exact nice_row (h2 r hr) n
theorem PapAt.dp {K : PySem.W.Frag} {H : Hp} {hd : Addr} {v : V} {d : PyData} (h : PapAt K H hd v d) : Dp K H v d := dp_same cut_same h
theorem PapAt.sx {K : PySem.W.Frag} {H H' : Hp} {hd : Addr} {v : V} {d : PyData} (s : SX hd H H') (h : PapAt K H hd v d) : PapAt K H' hd v d := dp_same (cut_sx s) h
theorem PapAt.of {K : PySem.W.Frag} {H : Hp} {hd dr : Addr} {v : V} {d : PyData} {n : Nat} (hh : HandAt H hd dr) (h : Dp K H v d) (hn : nice n d) : PapAt K H hd v d := by
  obtain ⟨l, q⟩ := hh.lst
  exact dp_im (cut_im q) h (nice_noL n d hn)
theorem dp_hx {K : PySem.W.Frag} {H H' : Hp} {hd dr : Addr} {v : V} {d : PyData} {n : Nat} (e : HX hd dr H H') (hh : HandAt H hd dr) (h : Dp K H v d) (hn : nice n d) : Dp K H' v d := dp_im (e.im hh) h (nice_noL n d hn)
section
variable {P : Program} {w : World} {K : PySem.W.Frag} {mg : Str → Option Value} {base : Heap}
/-! ### _law_is_sound -/
def spSound (K : PySem.W.Frag) : Sp := fun vs H Q _ => ∃ (L a s pz : Addr) (v : V) (d : PyData) (k n : Nat) (bk bk' : List Rel) (ties : List Tie) (st : List (Int × Int)), vs = [.ref L, .int n, .ref a, .ref pz, .ref s, v, .bl (filled bk ties n st)] ∧ BookL K H L bk ∧ Good bk ties n ∧ TiesAt K H (.ref a) ties ∧ PuzAt K H pz bk' ties n ∧ Like bk bk' ∧ Good bk' ties n ∧ StAt K H s st ∧ StartG n st ∧ Dp K H v d ∧ fine k d ∧ k ≤ 60 ∧
  ∀ H', Same H H' → Q (.bl true) H'
theorem ok_law_is_sound (T : Txt K mg) : Ok P w K mg base 11 d_law_is_sound ["_law_book_here", "_law_cells", "_law_ties_here", "_law_puzzle_here", "_law_start_here", "_law_paper", "_law_filled"] (spSound K) := by
  have G_none_holds : Ok P w K mg base 7 d_none_holds ["puzzle", "start", "paper"] (spNone K) := ok_none_holds T
  have G_law_is_none : Ok P w K mg base 10 d_law_is_none ["_law_book_here", "_law_cells", "_law_ties_here", "_law_start_here", "_law_paper"] (spNoneL K 6) := ok_law_is_none T 6
  refine T.F_law_is_sound.ok sc_law_is_sound (fun vs H Q E h => ?_) (fun cdv A outer s H vs Q E hr h => ?_)
  · obtain ⟨L, a, so, pz, v, d, k, n, bk, bk', ties, st, rfl, _⟩ := h
    rfl
  obtain ⟨L, a, so, pz, v, d, k, n, bk, bk', ties, st, rfl, hB, hG, hT, hP, lk, hG', hS, S, hd, hf, hk, q⟩ := h
  refine ⟨_, PSs.nox (
  (pss_cons (ps_set (i := 7) sc_law_is_sound.nd rfl (Or.inl rfl) (pe_call G_none_holds (hr.mono (by omega)) (by rfl) T.g_none_holds T.F_none_holds.kp T.b_none_holds .nil pass0 (pa_cons (pv 3) (pa_cons (pv 4) (pa_cons (pv 5) pa_nil)))))
    (pss_cons (ps_if (PW.pt (pw_or (pt_not (pt_val (pe_callB call_isi (by rfl) T.z_isinstance (by decide +kernel) (pa_cons (pv 7) (pa_cons (pe_bltn (v := .ty "bool") (by rfl) T.z_bool (by decide +kernel) rfl) pa_nil))))) (pw_or1 (PW.pt (pw_and (pt_val (pv 7)) (pw_and1 (pt_val (pv 6))))))))
      (pss_one (ps_ret pe_bl))
      pss_nil)
    (pss_one (ps_ret (pe_cmpR op_eq (pv 7) (pe_call G_law_is_none (hr.mono (by omega)) (by rfl) T.g_law_is_none T.F_law_is_none.kp T.b_law_is_none .nil pass0 (pa_cons (pv 0) (pa_cons (pv 1) (pa_cons (pv 2) (pa_cons (pv 4) (pa_cons (pv 5) pa_nil)))))) (nomark _))))))
  ), ?_⟩
  have hn5 := hG.n5
  refine ⟨_, rfl, _, rfl, _, rfl, pz, so, v, d, k, n, bk', ties, st, rfl, hP, hG', hS, S, hd, hf, hk, fun H1 s1 => ?_⟩
  rw [lk.va]
  refine ⟨_, rfl, _, _, _, _, _, rfl, .ty _, .base (.bl _), kit_ty (show kitB "bool" "bool" = some true by decide +kernel), _, rfl, iteF ?_⟩
  have hB1 := hB.same s1
  have fin : ∀ b : Bool, judge (vaOf bk) ties n d (lookS st) = b → tCall (spNoneL K 6) [] E0 (tCons (tVar 0) (tCons (tVar 1) (tCons (tVar 2) (tCons (tVar 4) (tCons (tVar 5) tNil))))) [some (.ref L), some (.int n), some (.ref a), some (.ref pz), some (.ref so), some v, some (.bl (filled bk ties n st)), some (.bl b)] H1 fun y H2 => rEq (.bl b) y H2 Q := fun b hb => by
    refine ⟨_, rfl, _, rfl, _, rfl, _, rfl, _, rfl, L, a, so, v, d, k, n, bk, ties, st, rfl, hB1, hG, hT.im (im_same s1), hS.im (im_same s1), S, dp_same s1 hd, hf, hk, by have := freeN_le n (lookS st); omega, fun H2 s2 => ⟨rfl, ?_⟩⟩
    rw [hb]
    have := q _ (s1.trans s2)
    rw [decide_eq_true rfl]
    exact this
  cases e : judge (vaOf bk) ties n d (lookS st) with
  | false =>
    refine ⟨_, rfl, _, rfl, iteF ⟨_, rfl, fin false e⟩⟩
  | true =>
    have hno : filled bk ties n st = false := judge_no e
    refine ⟨_, rfl, _, rfl, iteT ⟨_, rfl, _, rfl, ?_⟩⟩
    rw [hno] at fin ⊢
    exact iteF ⟨_, rfl, fin true e⟩
end
end EC


set_option Elab.async false
set_option linter.all false
set_option maxRecDepth 100000
set_option maxHeartbeats 4000000
namespace EC
open PySem PySem.Spec PyProof.Rows L2
theorem dpAll_hx {K : PySem.W.Frag} {H H' : Hp} {xs : List V} {ds : List PyData} {n : Nat} (e : Im H H') (h : DpAll K H xs ds) (hn : ∀ d ∈ ds, nice n d) : DpAll K H' xs ds := dpAll_im e h (List.all_eq_true.mpr fun d hd => nice_noL n d (hn d hd))
section
variable {P : Program} {w : World} {K : PySem.W.Frag} {mg : Str → Option Value} {base : Heap}
/-! ### _law_drawn_steps -/
def spDS (K : PySem.W.Frag) : Sp := fun vs H Q _ => ∃ (hd dr a : Addr) (m n : Nat) (bk : List Rel) (ties : List Tie), vs = [.ref hd, .int n, .ref a, .int m] ∧ HandAt H hd dr ∧ Good bk ties n ∧ TiesAt K H (.ref a) ties ∧ m ≤ 3 ∧
  ∀ H' p xs ds, HX hd dr H H' → SqT K H' p xs → DpAll K H' xs ds → ds.length ≤ m → (∀ d ∈ ds, nice 1 d) → Q (.ref p) H'
theorem ok_law_drawn_steps (T : Txt K mg) : Ok P w K mg base 2 d_law_drawn_steps ["_law_hand", "_law_cells", "_law_ties_here", "_law_many"] (spDS K) := by
  have G_law_take : Ok P w K mg base 1 d_law_take ["_law_hand", "_law_many"] (spTake K) := ok_law_take T
  refine T.F_law_drawn_steps.ok sc_law_drawn_steps (fun vs H Q E h => ?_) (fun cdv A outer s H vs Q E hr h => ?_)
  · obtain ⟨hd, dr, a, m, n, bk, ties, rfl, _⟩ := h
    rfl
  obtain ⟨hd, dr, a, m, n, bk, ties, rfl, hh, hG, hT, hm, q⟩ := h
  refine ⟨_, PSs.nox (
  (pss_cons (ps_set (i := 4) sc_law_drawn_steps.nd rfl (Or.inl rfl) (pe_lst pa_nil))
    (pss_cons (ps_for PassesOwn.never rfl (pi_range1 (by rfl) T.z_range (pa_cons (pv 3) pa_nil)) (pg_name (i := 5) sc_law_drawn_steps.nd rfl (Or.inl rfl))
      (pss_cons (ps_set (i := 6) sc_law_drawn_steps.nd rfl (Or.inl rfl) (pe_call G_law_take (hr.mono (by omega)) (by rfl) T.g_law_take T.F_law_take.kp T.b_law_take .nil pass0 (pa_cons (pv 0) (pa_cons (pe_op op_add (pe_callB call_len_seq (by rfl) T.z_len PySem.boot_len (pa_cons (pv 2) pa_nil)) (pe_callTy call_int1 (by rfl) T.z_int (by decide +kernel) (pa_cons (pe_cmpR op_eq (pe_call G_law_take (hr.mono (by omega)) (by rfl) T.g_law_take T.F_law_take.kp T.b_law_take .nil pass0 (pa_cons (pv 0) (pa_cons pe_int pa_nil))) pe_int (nomark _)) pa_nil))) pa_nil))))
      (pss_cons (ps_set (i := 7) sc_law_drawn_steps.nd rfl (Or.inl rfl) (pe_call G_law_take (hr.mono (by omega)) (by rfl) T.g_law_take T.F_law_take.kp T.b_law_take .nil pass0 (pa_cons (pv 0) (pa_cons (pe_op op_add (pv 1) (pe_callTy call_int1 (by rfl) T.z_int (by decide +kernel) (pa_cons (pe_cmpR op_eq (pe_call G_law_take (hr.mono (by omega)) (by rfl) T.g_law_take T.F_law_take.kp T.b_law_take .nil pass0 (pa_cons (pv 0) (pa_cons pe_int pa_nil))) pe_int (nomark _)) pa_nil))) pa_nil))))
      (C8.pss_cut (ps_if (PW.pt (pw_and (pt_cmpR op_lt (pv 6) (pe_callB call_len_seq (by rfl) T.z_len PySem.boot_len (pa_cons (pv 2) pa_nil)) (nomark _)) (pw_and1 (pt_cmpR op_gt (pe_call G_law_take (hr.mono (by omega)) (by rfl) T.g_law_take T.F_law_take.kp T.b_law_take .nil pass0 (pa_cons (pv 0) (pa_cons pe_int pa_nil))) pe_int (nomark _)))))
        (pss_one (ps_set (i := 7) sc_law_drawn_steps.nd rfl (Or.inl rfl) (pe_ix ix_tup (pe_ix ix_tup (pe_ix ix_tup (pv 2) (pv 6) (fun _ _ => rfl)) pe_int (fun _ _ => rfl)) (pe_call G_law_take (hr.mono (by omega)) (by rfl) T.g_law_take T.F_law_take.kp T.b_law_take .nil pass0 (pa_cons (pv 0) (pa_cons (pe_callB call_len_seq (by rfl) T.z_len PySem.boot_len (pa_cons (pe_ix ix_tup (pe_ix ix_tup (pv 2) (pv 6) (fun _ _ => rfl)) pe_int (fun _ _ => rfl)) pa_nil)) pa_nil))) (fun _ _ => rfl))))
        pss_nil)
      (pss_one (ps_expr (pe_bm PySem.F.plainAttrs_list PySem.F.slot_list_append PySem.F.type_list_append mt_append (pv 4) (pa_cons (pe_tup (pa_cons (pv 6) (pa_cons (pv 7) (pa_cons (pe_call G_law_take (hr.mono (by omega)) (by rfl) T.g_law_take T.F_law_take.kp T.b_law_take .nil pass0 (pa_cons (pv 0) (pa_cons pe_int pa_nil))) pa_nil)))) pa_nil))))))))
    (pss_one (ps_ret (pe_callTy call_tuple_of (by rfl) T.z_tuple (by decide +kernel) (pa_cons (pv 4) pa_nil))))))
  ), ?_⟩
  have ht1 := hG.t1
  have hn1 := hG.n1
  refine ⟨(by show 0 ≤ sizeLine; exact Nat.zero_le _), fun R hR => ?_⟩
  have nR := (hh.ne hR).1
  have hRn : H R = none := hR
  have x0 := HX.of hh (same_new (.lst []) hR)
  refine ⟨_, rfl, m, rfl, by omega, by omega, for_range (n := ((m : Int)).toNat) (fun i σ H' => ∃ (o5 o6 o7 : Option V) (acc : List V) (ds : List PyData), σ = [some (.ref hd), some (.int n), some (.ref a), some (.int m), some (.ref R), o5, o6, o7] ∧ HX hd dr H H' ∧ H' R = some (.lst acc) ∧ DpAll K H' acc ds ∧ ds.length = i ∧ ∀ d ∈ ds, nice 1 d)
    ⟨_, _, _, [], [], rfl, x0, upd_same, .nil, rfl, fun d h => (nomatch h)⟩ ?_ ?_⟩
  · rintro i σ H1 hi ⟨o5, o6, o7, acc, ds, rfl, x1, hacc, hds, hdl, hnice⟩
    have hT1 := hT.im (x1.im hh)
    obtain ⟨a', ts, ea, hts, htl, _⟩ := hT1
    cases ea
    refine ⟨_, rfl, _, rfl, a, ts, rfl, .inr hts, _, rfl, hd, dr, 9, rfl, x1.hand, by decide, fun H2 k1 x2 _ _ => ⟨rfl, .inr ⟨_, rfl, _, _, rfl, rfl, hd, dr, _, rfl, x2.hand, by split <;> omega, fun H3 t x3 t0 t1 => ?_⟩⟩⟩
    refine ⟨_, rfl, _, rfl, _, rfl, hd, dr, 9, rfl, x3.hand, by decide, fun H4 k2 x4 _ _ => ⟨rfl, .inr ⟨_, rfl, _, _, rfl, rfl, hd, dr, _, rfl, x4.hand, by split <;> omega, fun H5 c x5 c0 c1 => ?_⟩⟩⟩
    have x15 := (((x2.trans x3).trans x4).trans x5)
    have xH5 := x1.trans x15
    refine ⟨fun σ H' => ∃ (o5 : Option V) (c : Int), σ = [some (.ref hd), some (.int n), some (.ref a), some (.int m), some (.ref R), o5, some (.int t), some (.int c)] ∧ HX hd dr H5 H', ?_, ?_⟩
    · have hT5 := hT.im (xH5.im hh)
      have hT5' := hT5
      obtain ⟨a', ts5, ea, hts5, htl5, _⟩ := hT5
      cases ea
      refine ⟨_, rfl, _, rfl, a, ts5, rfl, .inr hts5, _, _, rfl, rfl, _, rfl, ?_⟩
      by_cases hlt : t < (ts5.length : Int)
      · refine ifT (decide_eq_true hlt) ?_
        refine ⟨_, rfl, hd, dr, 4, rfl, xH5.hand, by decide, fun H6 k3 x6 _ _ => ⟨_, _, rfl, rfl, _, rfl, ?_⟩⟩
        refine ifB (fun _ => ?_) fun _ => ⟨_, c, rfl, x6⟩
        have htl2 : t.toNat < ties.length := by omega
        have hti := List.getElem?_eq_getElem htl2
        have tg := hG.tie _ (List.getElem_mem htl2)
        have hcl := tie_len hG (List.getElem_mem htl2)
        obtain ⟨rel, hrel, hlen⟩ := tg.rel
        have rlo := (hG.rel rel (List.mem_of_getElem? hrel)).lo
        obtain ⟨ts6, u, cc, h1, h2, hat, hu, hc⟩ := (hT5'.im (x6.im xH5.hand)).get t0 hti
        generalize ties[t.toNat] = tie at hti tg hcl hlen hu hc
        refine ⟨_, rfl, _, rfl, a, ts6, t, _, rfl, rfl, h1, hat, u, _, 1, _, rfl, rfl, hu, rfl, _, rfl, _, rfl, _, rfl, a, ts6, t, _, rfl, rfl, h1, hat, u, _, 1, _, rfl, rfl, hu, rfl, cc, _, rfl, .inr hc.sq, ?_⟩
        refine ⟨hd, dr, _, rfl, x6.hand, by rw [List.length_map]; omega, fun H7 g x7 g0 g1 => ?_⟩
        rw [List.length_map] at g1
        have hgl : g.toNat < tie.2.length := by omega
        refine ⟨cc, _, g, _, rfl, rfl, (hc.im (x7.im x6.hand)).sq, at_nn g0 (by rw [List.getElem?_map, List.getElem?_eq_getElem hgl]; rfl), ?_⟩
        exact ⟨_, _, rfl, x6.trans x7⟩
      · exact ifF (decide_eq_false hlt) ⟨_, c, rfl, HX.refl xH5.hand⟩
    · rintro σ H6 ⟨o5, c, rfl, x6⟩
      have x16 := x15.trans x6
      have hacc6 := x16.at nR hacc
      refine ⟨_, rfl, .inl ⟨rfl, _, .inl (.inl hacc6)⟩, _, rfl, _, rfl, _, rfl, hd, dr, 2, rfl, x6.hand, by decide, fun H7 v x7 _ _ => ?_⟩
      refine ⟨(by show 3 ≤ sizeLine; decide), fun u hu => ?_⟩
      have s8 : Same H7 (upd H7 u (.tup [.int t, .int c, .int v])) := same_new _ hu
      have hu8 : upd H7 u (.tup [.int t, .int c, .int v]) u = some (.tup [.int t, .int c, .int v]) := upd_same
      generalize upd H7 u (.tup [.int t, .int c, .int v]) = H8 at s8 hu8 ⊢
      have x18 := (x16.trans x7).same s8
      have hacc8 := x18.at nR hacc
      have im9 : Im H8 (upd H8 R (.lst (acc ++ [.ref u]))) := im_mut _ hacc8 rfl
      have hal := dpAll_len hds
      refine ⟨R, acc, _, rfl, rfl, hacc8, small1000 (by omega), ?_⟩
      refine ⟨_, _, _, acc ++ [.ref u], ds ++ [eI [t, c, v]], rfl, (x1.trans x18).mut _ hh hRn, upd_same, dpAll_append (dpAll_hx ((x18.im x1.hand).trans im9) hds hnice) (dpAll_one (eI_mk (.inl (.inl (im9 _ _ rfl hu8))))), by rw [List.length_append, hdl]; rfl, fun d hd' => ?_⟩
      rcases List.mem_append.mp hd' with z | z
      · exact hnice d z
      · rw [List.mem_singleton.mp z]
        exact nice_row (by simp) 0
  · rintro σ H1 ⟨o5, o6, o7, acc, ds, rfl, x1, hacc, hds, hdl, hnice⟩
    refine ⟨_, rfl, R, acc, rfl, .inl ⟨.inl (.inl hacc), fun u hu => ?_⟩⟩
    have s2 : Same H1 (upd H1 u (.tup acc)) := same_new _ hu
    exact q _ u acc ds (x1.same s2) (.inl (.inl upd_same)) (dpAll_same s2 hds) (by omega) hnice
/-! ### _law_drawn_parts -/
def spDP (K : PySem.W.Frag) : Sp := fun vs H Q _ => ∃ (hd dr a : Addr) (n : Nat) (bk : List Rel) (ties : List Tie), vs = [.ref hd, .int n, .ref a] ∧ HandAt H hd dr ∧ Good bk ties n ∧ TiesAt K H (.ref a) ties ∧
  ∀ H' v d, HX hd dr H H' → Dp K H' v d → nice 3 d → Q v H'
theorem ok_law_drawn_parts (T : Txt K mg) : Ok P w K mg base 2 d_law_drawn_parts ["_law_hand", "_law_cells", "_law_ties_here"] (spDP K) := by
  have G_law_take : Ok P w K mg base 1 d_law_take ["_law_hand", "_law_many"] (spTake K) := ok_law_take T
  refine T.F_law_drawn_parts.ok sc_law_drawn_parts (fun vs H Q E h => ?_) (fun cdv A outer s H vs Q E hr h => ?_)
  · obtain ⟨hd, dr, a, n, bk, ties, rfl, _⟩ := h
    rfl
  obtain ⟨hd, dr, a, n, bk, ties, rfl, hh, hG, hT, q⟩ := h
  refine ⟨_, PSs.nox (
  (pss_cons (ps_set (i := 3) sc_law_drawn_parts.nd rfl (Or.inl rfl) (pe_lst pa_nil))
    (pss_cons (ps_for PassesOwn.never rfl (pi_range1 (by rfl) T.z_range (pa_cons (pe_op op_add pe_int (pe_call G_law_take (hr.mono (by omega)) (by rfl) T.g_law_take T.F_law_take.kp T.b_law_take .nil pass0 (pa_cons (pv 0) (pa_cons pe_int pa_nil)))) pa_nil)) (pg_name (i := 4) sc_law_drawn_parts.nd rfl (Or.inl rfl))
      (pss_cons (ps_set (i := 5) sc_law_drawn_parts.nd rfl (Or.inr rfl) (pe_call G_law_take (hr.mono (by omega)) (by rfl) T.g_law_take T.F_law_take.kp T.b_law_take .nil pass0 (pa_cons (pv 0) (pa_cons (pe_callB call_len_seq (by rfl) T.z_len PySem.boot_len (pa_cons (pv 2) pa_nil)) pa_nil))))
      (pss_cons (ps_setLc (i := 6) (own := [("_law_cell", 7)]) (by rfl) sc_law_drawn_parts.nd rfl rfl (sw_true rfl rfl rfl (by decide +kernel)) (pi_range1 (by rfl) T.z_range (pa_cons (pv 1) pa_nil)) (blkOk_by (own := [("_law_cell", 7)]) (N := ["_law_hand", "_law_cells", "_law_ties_here", "_law_parts", "_law_k", "_law_t", "_law_own", "_law_cell"]) (sc := defScope s_law_drawn_parts) (by decide +kernel)) (fun _ _ _ _ _ => (pg_name (i := 7) sc_law_drawn_parts.nd rfl (Or.inl rfl))) (fun _ _ _ _ _ => pts_one (PW.pt (pw_and (pt_cmpR (op_in_seqK (K := K) rfl) (pv 7) (pe_ix (ix_tupK (K := K) rfl) (pe_ix (ix_tupK (K := K) rfl) (pv 2) (pv 5) (fun _ _ => rfl)) pe_int (fun _ _ => rfl)) (by rfl)) (pw_and1 (pt_cmpR op_gt (pe_call G_law_take (hr.mono (by omega)) (by rfl) T.g_law_take T.F_law_take.kp T.b_law_take .nil pass0 (pa_cons (pv 0) (pa_cons pe_int pa_nil))) pe_int (nomark _)))))) (fun _ _ _ _ _ => (pv 7)))
      (pss_one (ps_expr (pe_bm PySem.F.plainAttrs_list PySem.F.slot_list_append PySem.F.type_list_append mt_append (pv 3) (pa_cons (pe_tup (pa_cons (pv 5) (pa_cons (pe_callTy call_tuple_of (by rfl) T.z_tuple (by decide +kernel) (pa_cons (pv 6) pa_nil)) (pa_cons (pe_call G_law_take (hr.mono (by omega)) (by rfl) T.g_law_take T.F_law_take.kp T.b_law_take .nil pass0 (pa_cons (pv 0) (pa_cons pe_int pa_nil))) pa_nil)))) pa_nil)))))))
    (pss_one (ps_ret (pe_callTy call_tuple_of (by rfl) T.z_tuple (by decide +kernel) (pa_cons (pv 3) pa_nil))))))
  ), ?_⟩
  have ht1 := hG.t1
  have hn1 := hG.n1
  have hn5 := hG.n5
  refine ⟨(by show 0 ≤ sizeLine; exact Nat.zero_le _), fun R hR => ?_⟩
  have nR := (hh.ne hR).1
  have hRn : H R = none := hR
  have x0 := HX.of hh (same_new (.lst []) hR)
  have hR0 : upd H R (.lst []) R = some (.lst []) := upd_same
  generalize upd H R (.lst []) = H0 at x0 hR0 ⊢
  refine ⟨_, rfl, hd, dr, 4, rfl, x0.hand, by decide, fun H1 k x1 k0 k1 => ⟨_, _, rfl, rfl, _, rfl, by omega, by omega, for_range (n := (1 + k).toNat) (fun i σ H' => ∃ (o4 o5 o6 o7 : Option V) (acc : List V) (ds : List PyData), σ = [some (.ref hd), some (.int n), some (.ref a), some (.ref R), o4, o5, o6, none] ∧ HX hd dr H H' ∧ H' R = some (.lst acc) ∧ DpAll K H' acc ds ∧ ds.length = i ∧ ∀ d ∈ ds, nice 2 d)
    ⟨_, _, _, none, [], [], rfl, x0.trans x1, x1.at nR hR0, .nil, rfl, fun d h => (nomatch h)⟩ ?_ ?_⟩⟩
  · rintro i σ H2 hi ⟨o4, o5, o6, o7, acc, ds, rfl, x2, hacc, hds, hdl, hnice⟩
    obtain ⟨a', ts, ea, hts, htl, _⟩ := hT.im (x2.im hh)
    cases ea
    refine ⟨_, rfl, _, rfl, a, ts, rfl, .inr hts, hd, dr, _, rfl, x2.hand, by omega, fun H3 t x3 t0 t1 => ?_⟩
    have x23 := x2.trans x3
    have htl2 : t.toNat < ties.length := by omega
    have hti := List.getElem?_eq_getElem htl2
    have hcl := tie_len hG (List.getElem_mem htl2)
    generalize ties[t.toNat] = tie at hti hcl
    refine ⟨_, rfl, n, rfl, by omega, by omega, fun D hD => lc_range (n := ((n : Int)).toNat) (fun j H' => HX hd dr H3 H' ∧ ∃ own : List Int, H' D = some (.lst (own.map V.int)) ∧ own.length ≤ j)
      ⟨(HX.refl x3.hand).new _ hD, [], upd_same, Nat.le_refl _⟩ ?_ ?_⟩
    · rintro j H4 hj ⟨x4, own, hown, hol⟩
      have nD := (x3.hand.ne hD).1
      obtain ⟨ts4, u, cc, h1, h2, hat, hu, hc⟩ := ((hT.im (x23.im hh)).im (x4.im x3.hand)).get t0 hti
      refine ⟨rfl, _, rfl, _, rfl, _, rfl, a, ts4, t, _, rfl, rfl, h1, hat, u, _, 1, _, rfl, rfl, hu, rfl, cc, _, rfl, .inr hc.sq, rfl, flat_ints _, _, rfl, ?_⟩
      refine ifB (fun _ => ?_) fun _ => ⟨x4, own, hown, by omega⟩
      refine ⟨_, rfl, hd, dr, 3, rfl, x4.hand, by decide, fun H5 k2 x5 _ _ => ⟨_, _, rfl, rfl, _, rfl, ?_⟩⟩
      have hown5 := x5.at nD hown
      refine ifB (fun _ => ?_) fun _ => ⟨x4.trans x5, own, hown5, by omega⟩
      refine ⟨_, rfl, _, hown5, small1000 (by rw [List.length_map]; omega), (x4.trans x5).mut _ x3.hand hD, own ++ [(0 : Int) + ((j : Nat) : Int)], by rw [upd_same, List.map_append]; rfl, by rw [List.length_append]; exact Nat.succ_le_succ hol⟩
    rintro H4 ⟨x4, own, hown, hol⟩
    have hacc4 := x4.at nR (x3.at nR hacc)
    refine ⟨_, rfl, .inl ⟨rfl, _, .inl (.inl hacc4)⟩, _, rfl, _, rfl, D, _, rfl, .inl ⟨.inl (.inl hown), fun c hc => ?_⟩⟩
    have s5 : Same H4 (upd H4 c (.tup (own.map V.int))) := same_new _ hc
    have hc5 : upd H4 c (.tup (own.map V.int)) c = some (.tup (own.map V.int)) := upd_same
    generalize upd H4 c (.tup (own.map V.int)) = H5 at s5 hc5 ⊢
    have x5 := x4.same s5
    refine ⟨_, rfl, hd, dr, 2, rfl, x5.hand, by decide, fun H6 v x6 _ _ => ⟨(by show 3 ≤ sizeLine; decide), fun u hu => ?_⟩⟩
    have hc6 := x6.im x5.hand _ _ rfl hc5
    have s7 : Same H6 (upd H6 u (.tup [.int t, .ref c, .int v])) := same_new _ hu
    have hu7 : upd H6 u (.tup [.int t, .ref c, .int v]) u = some (.tup [.int t, .ref c, .int v]) := upd_same
    generalize upd H6 u (.tup [.int t, .ref c, .int v]) = H7 at s7 hu7 ⊢
    have x27 := (x3.trans (x5.trans x6)).same s7
    have hacc7 := x27.at nR hacc
    have im8 : Im H7 (upd H7 R (.lst (acc ++ [.ref u]))) := im_mut _ hacc7 rfl
    have hal := dpAll_len hds
    refine ⟨R, acc, _, rfl, rfl, hacc7, small1000 (by omega), ?_⟩
    refine ⟨_, _, _, none, acc ++ [.ref u], ds ++ [.tuple [.int t, eI own, .int v]], rfl, (x2.trans x27).mut _ hh hRn, upd_same, dpAll_append (dpAll_hx ((x27.im x2.hand).trans im8) hds hnice) (dpAll_one (.tup (.inl (.inl (im8 _ _ rfl hu7))) (.cons (.int t) (.cons (eI_mk (.inl (.inl (im8 _ _ rfl (s7 _ _ hc6))))) (.cons (.int v) .nil))))), by rw [List.length_append, hdl]; rfl, fun d hd' => ?_⟩
    rcases List.mem_append.mp hd' with z | z
    · exact hnice d z
    · rw [List.mem_singleton.mp z]
      refine ⟨by simp, fun e he => ?_⟩
      simp only [List.mem_cons, List.not_mem_nil, or_false] at he
      rcases he with rfl | rfl | rfl
      · trivial
      · exact nice_row (by omega) 0
      · trivial
  · rintro σ H2 ⟨o4, o5, o6, o7, acc, ds, rfl, x2, hacc, hds, hdl, hnice⟩
    refine ⟨_, rfl, R, acc, rfl, .inl ⟨.inl (.inl hacc), fun u hu => ?_⟩⟩
    have s3 : Same H2 (upd H2 u (.tup acc)) := same_new _ hu
    exact q _ _ (.tuple ds) (x2.same s3) (.tup (.inl (.inl upd_same)) (dpAll_same s3 hds)) ⟨by omega, hnice⟩
end
end EC


set_option Elab.async false
set_option linter.all false
set_option maxRecDepth 100000
set_option maxHeartbeats 4000000
namespace EC
open PySem PySem.Spec PyProof.Rows L2
section
variable {P : Program} {w : World} {K : PySem.W.Frag} {mg : Str → Option Value} {base : Heap}
theorem nice_str : (∀ n, nice n (.str "chain")) ∧ (∀ n, nice n (.str "ring")) ∧ (∀ n, nice n (.str "sum")) ∧ (∀ n, nice n (.str "split")) :=
  ⟨fun n => by cases n <;> (show PyData.strOk "chain" = true; decide +kernel), fun n => by cases n <;> (show PyData.strOk "ring" = true; decide +kernel), fun n => by cases n <;> (show PyData.strOk "sum" = true; decide +kernel), fun n => by cases n <;> (show PyData.strOk "split" = true; decide +kernel)⟩
theorem nice_int (n : Nat) (i : Int) : nice n (.int i) := by cases n <;> trivial
/-! ### _law_drawn_paper -/
def spPaper (K : PySem.W.Frag) (r : Nat) : Sp := fun vs H Q _ => ∃ (hd dr a : Addr) (n dep : Nat) (bk : List Rel) (ties : List Tie), vs = [.ref hd, .int n, .ref a, .int dep] ∧ HandAt H hd dr ∧ Good bk ties n ∧ TiesAt K H (.ref a) ties ∧ dep < r ∧
  ∀ H' v d, HX hd dr H H' → Dp K H' v d → nice (dep + 4) d → Q v H'
theorem ok_law_drawn_paper (T : Txt K mg) : ∀ r, Ok P w K mg base (3 + r) d_law_drawn_paper ["_law_hand", "_law_cells", "_law_ties_here", "_law_depth"] (spPaper K r)
  | 0 => by
    refine T.F_law_drawn_paper.ok sc_law_drawn_paper (fun vs H Q E h => ?_) (fun cdv A outer s H vs Q E hr h => ?_)
    · obtain ⟨hd, dr, a, n, dep, bk, ties, rfl, _⟩ := h
      rfl
    · obtain ⟨hd, dr, a, n, dep, bk, ties, rfl, _, _, _, hz, _⟩ := h
      exact absurd hz (Nat.not_lt_zero _)
  | r + 1 => by
    have G_law_drawn_paper : Ok P w K mg base (3 + r) d_law_drawn_paper ["_law_hand", "_law_cells", "_law_ties_here", "_law_depth"] (spPaper K r) := ok_law_drawn_paper T r
    have G_law_take : Ok P w K mg base 1 d_law_take ["_law_hand", "_law_many"] (spTake K) := ok_law_take T
    have G_law_drawn_steps : Ok P w K mg base 2 d_law_drawn_steps ["_law_hand", "_law_cells", "_law_ties_here", "_law_many"] (spDS K) := ok_law_drawn_steps T
    have G_law_drawn_parts : Ok P w K mg base 2 d_law_drawn_parts ["_law_hand", "_law_cells", "_law_ties_here"] (spDP K) := ok_law_drawn_parts T
    refine T.F_law_drawn_paper.ok (k := 3 + r) sc_law_drawn_paper (fun vs H Q E h => ?_) (fun cdv A outer s H vs Q E hr h => ?_)
    · obtain ⟨hd, dr, a, n, dep, bk, ties, rfl, _⟩ := h
      rfl
    obtain ⟨hd, dr, a, n, dep, bk, ties, rfl, hh, hG, hT, hdep, q⟩ := h
    refine ⟨_, PSs.nox (
    (pss_cons (ps_set (i := 4) sc_law_drawn_paper.nd rfl (Or.inl rfl) (pe_call G_law_take (hr.mono (by omega)) (by rfl) T.g_law_take T.F_law_take.kp T.b_law_take .nil pass0 (pa_cons (pv 0) (pa_cons pe_int pa_nil))))
      (C8.pss_cut (ps_if (PW.pt (pw_and (pt_cmpR op_eq (pv 4) pe_int (nomark _)) (pw_and1 (pt_cmpR op_gt (pv 3) pe_int (nomark _)))))
        (pss_cons (ps_set (i := 5) sc_law_drawn_paper.nd rfl (Or.inl rfl) (pe_call G_law_drawn_paper (hr.mono (by omega)) (by rfl) T.g_law_drawn_paper T.F_law_drawn_paper.kp T.b_law_drawn_paper .nil pass0 (pa_cons (pv 0) (pa_cons (pv 1) (pa_cons (pv 2) (pa_cons (pe_op op_sub (pv 3) pe_int) pa_nil))))))
        (pss_one (ps_ret (pe_tup (pa_cons pe_str (pa_cons (pe_call G_law_take (hr.mono (by omega)) (by rfl) T.g_law_take T.F_law_take.kp T.b_law_take .nil pass0 (pa_cons (pv 0) (pa_cons (pv 1) pa_nil))) (pa_cons (pv 5) (pa_cons (pe_call G_law_drawn_paper (hr.mono (by omega)) (by rfl) T.g_law_drawn_paper T.F_law_drawn_paper.kp T.b_law_drawn_paper .nil pass0 (pa_cons (pv 0) (pa_cons (pv 1) (pa_cons (pv 2) (pa_cons (pe_op op_sub (pv 3) pe_int) pa_nil))))) pa_nil))))))))
        pss_nil)
      (pss_cons (ps_if (pt_cmpR op_eq (pv 4) pe_int (nomark _))
        (pss_one (ps_ret (pe_tup (pa_cons pe_str (pa_cons (pe_call G_law_drawn_parts (hr.mono (by omega)) (by rfl) T.g_law_drawn_parts T.F_law_drawn_parts.kp T.b_law_drawn_parts .nil pass0 (pa_cons (pv 0) (pa_cons (pv 1) (pa_cons (pv 2) pa_nil)))) pa_nil)))))
        pss_nil)
      (pss_cons (ps_if (pt_cmpR op_eq (pv 4) pe_int (nomark _))
        (pss_cons (ps_set (i := 6) sc_law_drawn_paper.nd rfl (Or.inl rfl) (pe_call G_law_take (hr.mono (by omega)) (by rfl) T.g_law_take T.F_law_take.kp T.b_law_take .nil pass0 (pa_cons (pv 0) (pa_cons (pv 1) pa_nil))))
        (pss_cons (ps_set (i := 7) sc_law_drawn_paper.nd rfl (Or.inl rfl) (pe_op op_catA (pe_call G_law_drawn_steps (hr.mono (by omega)) (by rfl) T.g_law_drawn_steps T.F_law_drawn_steps.kp T.b_law_drawn_steps .nil pass0 (pa_cons (pv 0) (pa_cons (pv 1) (pa_cons (pv 2) (pa_cons (pe_call G_law_take (hr.mono (by omega)) (by rfl) T.g_law_take T.F_law_take.kp T.b_law_take .nil pass0 (pa_cons (pv 0) (pa_cons pe_int pa_nil))) pa_nil))))) (pe_tup (pa_cons (pe_tup (pa_cons (pe_call G_law_take (hr.mono (by omega)) (by rfl) T.g_law_take T.F_law_take.kp T.b_law_take .nil pass0 (pa_cons (pv 0) (pa_cons (pe_callB call_len_seq (by rfl) T.z_len PySem.boot_len (pa_cons (pv 2) pa_nil)) pa_nil))) (pa_cons (pv 6) (pa_cons pe_int pa_nil)))) pa_nil))))
        (pss_cons (ps_set (i := 8) sc_law_drawn_paper.nd rfl (Or.inl rfl) (pe_op op_catA (pe_call G_law_drawn_steps (hr.mono (by omega)) (by rfl) T.g_law_drawn_steps T.F_law_drawn_steps.kp T.b_law_drawn_steps .nil pass0 (pa_cons (pv 0) (pa_cons (pv 1) (pa_cons (pv 2) (pa_cons (pe_call G_law_take (hr.mono (by omega)) (by rfl) T.g_law_take T.F_law_take.kp T.b_law_take .nil pass0 (pa_cons (pv 0) (pa_cons pe_int pa_nil))) pa_nil))))) (pe_tup (pa_cons (pe_tup (pa_cons (pe_call G_law_take (hr.mono (by omega)) (by rfl) T.g_law_take T.F_law_take.kp T.b_law_take .nil pass0 (pa_cons (pv 0) (pa_cons (pe_callB call_len_seq (by rfl) T.z_len PySem.boot_len (pa_cons (pv 2) pa_nil)) pa_nil))) (pa_cons (pv 6) (pa_cons pe_int pa_nil)))) pa_nil))))
        (pss_one (ps_ret (pe_tup (pa_cons pe_str (pa_cons (pv 6) (pa_cons (pv 7) (pa_cons (pv 8) pa_nil))))))))))
        pss_nil)
      (pss_one (ps_ret (pe_tup (pa_cons pe_str (pa_cons (pe_call G_law_drawn_steps (hr.mono (by omega)) (by rfl) T.g_law_drawn_steps T.F_law_drawn_steps.kp T.b_law_drawn_steps .nil pass0 (pa_cons (pv 0) (pa_cons (pv 1) (pa_cons (pv 2) (pa_cons (pe_call G_law_take (hr.mono (by omega)) (by rfl) T.g_law_take T.F_law_take.kp T.b_law_take .nil pass0 (pa_cons (pv 0) (pa_cons pe_int pa_nil))) pa_nil))))) (pa_cons (pe_call G_law_take (hr.mono (by omega)) (by rfl) T.g_law_take T.F_law_take.kp T.b_law_take .nil pass0 (pa_cons (pv 0) (pa_cons (pe_callB call_len_seq (by rfl) T.z_len PySem.boot_len (pa_cons (pv 2) pa_nil)) pa_nil))) pa_nil))))))))))
    ), ?_⟩
    have ht1 := hG.t1
    have hn1 := hG.n1
    obtain ⟨c1, c2, c3, c4⟩ := nice_str
    refine ⟨_, rfl, hd, dr, 5, rfl, hh, by decide, fun H1 kind x1 _ _ => ?_⟩
    have hT1 := hT.im (x1.im hh)
    have len_ : ∀ {H' : Hp}, TiesAt K H' (.ref a) ties → ∃ ts, SqT K H' a ts ∧ ts.length = ties.length := fun h => by
      obtain ⟨a', ts, ea, h1, h2, _⟩ := h
      cases ea
      exact ⟨ts, h1, h2⟩
    refine ⟨fun σ H' => σ = [some (.ref hd), some (.int n), some (.ref a), some (.int dep), some (.int kind), none, none, none, none] ∧ H' = H1, ?_, ?_⟩
    · refine ⟨_, rfl, rfl, _, rfl, ifB (fun _ => ?_) fun _ => ⟨rfl, rfl⟩⟩
      refine ⟨_, rfl, _, _, rfl, rfl, _, rfl, ?_⟩
      by_cases hd0 : (0 : Int) < (dep : Int)
      · refine ifT (decide_eq_true hd0) ?_
        have edep : (dep : Int) - 1 = ((dep - 1 : Nat) : Int) := by omega
        refine ⟨_, rfl, _, rfl, _, rfl, _, rfl, _, _, rfl, rfl, hd, dr, a, n, dep - 1, bk, ties, by rw [← edep]; rfl, x1.hand, hG, hT1, by omega, fun H2 v2 d2 x2 hd2 hni2 => ?_⟩
        have hni2' : nice (dep + 3) d2 := nice_mono hni2 (by omega)
        refine ⟨_, rfl, _, rfl, hd, dr, n, rfl, x2.hand, by omega, fun H3 c x3 _ _ => ?_⟩
        have hT3 := (hT1.im (x2.im x1.hand)).im (x3.im x2.hand)
        have hd3 := dp_hx x3 x2.hand hd2 hni2'
        refine ⟨_, rfl, _, rfl, _, rfl, _, rfl, _, rfl, _, _, rfl, rfl, hd, dr, a, n, dep - 1, bk, ties, by rw [← edep]; rfl, x3.hand, hG, hT3, by omega, fun H4 v4 d4 x4 hd4 hni4 => ?_⟩
        have hni4' : nice (dep + 3) d4 := nice_mono hni4 (by omega)
        refine ⟨(by show 4 ≤ sizeLine; decide), fun u hu => ?_⟩
        have s5 : Same H4 (upd H4 u (.tup [.str "split", .int c, v2, v4])) := same_new _ hu
        refine q _ _ (.tuple [.str "split", .int c, d2, d4]) ((((x1.trans x2).trans x3).trans x4).same s5) (.tup (.inl (.inl upd_same)) (.cons (.str _) (.cons (.int c) (.cons (dp_same s5 (dp_hx x4 x3.hand hd3 hni2')) (.cons (dp_same s5 hd4) .nil))))) ⟨by simp, fun e he => ?_⟩
        simp only [List.mem_cons, List.not_mem_nil, or_false] at he
        rcases he with rfl | rfl | rfl | rfl
        · exact c4 _
        · exact nice_int _ _
        · exact hni2'
        · exact hni4'
      · exact ifF (decide_eq_false hd0) ⟨rfl, rfl⟩
    rintro σ H1' ⟨rfl, rfl⟩
    refine ⟨_, rfl, rfl, _, rfl, ifB (fun _ => ?_) fun _ => ?_⟩
    · refine ⟨_, rfl, _, rfl, _, rfl, hd, dr, a, n, bk, ties, rfl, x1.hand, hG, hT1, fun H2 v2 d2 x2 hd2 hni2 => ⟨(by show 2 ≤ sizeLine; decide), fun u hu => ?_⟩⟩
      have s5 : Same H2 (upd H2 u (.tup [.str "sum", v2])) := same_new _ hu
      refine q _ _ (.tuple [.str "sum", d2]) ((x1.trans x2).same s5) (.tup (.inl (.inl upd_same)) (.cons (.str _) (.cons (dp_same s5 hd2) .nil))) ⟨by simp, fun e he => ?_⟩
      simp only [List.mem_cons, List.not_mem_nil, or_false] at he
      rcases he with rfl | rfl
      · exact c3 _
      · exact nice_mono hni2 (by omega)
    refine ⟨_, rfl, rfl, _, rfl, ifB (fun _ => ?_) fun _ => ?_⟩
    · refine ⟨_, rfl, _, rfl, hd, dr, n, rfl, x1.hand, by omega, fun H2 c x2 _ _ => ?_⟩
      have hT2 := hT1.im (x2.im x1.hand)
      -- there
      refine ⟨_, rfl, _, rfl, _, rfl, _, rfl, hd, dr, 3, rfl, x2.hand, by decide, fun H3 k x3 k0 k1 => ?_⟩
      have hT3 := hT2.im (x3.im x2.hand)
      refine ⟨hd, dr, a, k.toNat, n, bk, ties, by rw [Int.toNat_of_nonneg k0]; rfl, x3.hand, hG, hT3, by omega, fun H4 p xs ds x4 hp hds hdl hni => ?_⟩
      have hT4 := hT3.im (x4.im x3.hand)
      obtain ⟨ts, h1, h2⟩ := len_ hT4
      refine ⟨_, rfl, _, rfl, a, ts, rfl, .inr h1, hd, dr, _, rfl, x4.hand, by omega, fun H5 t x5 _ _ => ?_⟩
      have im5 := x5.im x4.hand
      have hT5 := hT4.im im5
      refine ⟨_, rfl, (by show 3 ≤ sizeLine; decide), fun u hu => ?_⟩
      have s6 : Same H5 (upd H5 u (.tup [.int t, .int c, .int 0])) := same_new _ hu
      have hu6 : upd H5 u (.tup [.int t, .int c, .int 0]) u = some (.tup [.int t, .int c, .int 0]) := upd_same
      generalize upd H5 u (.tup [.int t, .int c, .int 0]) = H6 at s6 hu6 ⊢
      refine ⟨(by show 1 ≤ sizeLine; decide), fun u2 hu2 => ?_⟩
      have s7 : Same H6 (upd H6 u2 (.tup [.ref u])) := same_new _ hu2
      have hu7 : upd H6 u2 (.tup [.ref u]) u2 = some (.tup [.ref u]) := upd_same
      generalize upd H6 u2 (.tup [.ref u]) = H7 at s7 hu7 ⊢
      have s57 := s6.trans s7
      have hp7 := sqT_same s57 (sqT_im im5 hp)
      have hds7 := dpAll_same s57 (dpAll_hx im5 hds hni)
      have hu77 := s7 _ _ hu6
      have hxl := dpAll_len hds
      have x17 := ((((x2.trans x3).trans x4).trans x5).same s57)
      have hT7 := hT5.im (im_same s57)
      have res : ∀ {Q' : VK}, (∀ H8 w1, Same H7 H8 → Dp K H8 (.ref w1) (.tuple (ds ++ [eI [t, c, 0]])) → Q' (.ref w1) H8) → rCatA K (.ref p) (.ref u2) H7 Q' := fun {Q'} h => by
        refine ⟨p, u2, xs, _, rfl, rfl, hp7, .inl (.inl hu7), Nat.le_of_lt (small1000 (by rw [List.length_singleton]; omega)), fun e => ?_, fun _ e => (nomatch e), fun _ _ y hy => ?_⟩
        · have ed : ds = [] := by
            rw [e] at hxl
            exact List.length_eq_zero_iff.mp hxl.symm
          refine h H7 u2 (.refl _) ?_
          rw [ed]
          exact .tup (.inl (.inl hu7)) (dpAll_one (eI_mk (.inl (.inl hu77))))
        · have s8 : Same H7 (upd H7 y (.tup (xs ++ [.ref u]))) := same_new _ hy
          exact h _ y s8 (.tup (.inl (.inl upd_same)) (dpAll_append (dpAll_same s8 hds7) (dpAll_one (eI_mk (.inl (.inl (s8 _ _ hu77)))))))
      refine res fun H8 w1 s8 hw1 => ?_
      clear res
      have niceA : nice 2 (.tuple (ds ++ [eI [t, c, 0]])) := ⟨by rw [List.length_append, List.length_singleton]; omega, fun d hd' => by
        rcases List.mem_append.mp hd' with z | z
        · exact hni d z
        · rw [List.mem_singleton.mp z]
          exact nice_row (by simp) 0⟩
      have x18 := x17.same s8
      have hT8 := hT7.im (im_same s8)
      generalize ds ++ [eI [t, c, 0]] = dsA at hw1 niceA
      -- back
      refine ⟨_, rfl, _, rfl, _, rfl, _, rfl, hd, dr, 3, rfl, x18.hand, by decide, fun H9 k' x9 k0' k1' => ?_⟩
      have hT9 := hT8.im (x9.im x18.hand)
      refine ⟨hd, dr, a, k'.toNat, n, bk, ties, by rw [Int.toNat_of_nonneg k0']; rfl, x9.hand, hG, hT9, by omega, fun H10 p' xs' ds' x10 hp' hds' hdl' hni' => ?_⟩
      have hT10 := hT9.im (x10.im x9.hand)
      obtain ⟨ts', h1', h2'⟩ := len_ hT10
      refine ⟨_, rfl, _, rfl, a, ts', rfl, .inr h1', hd, dr, _, rfl, x10.hand, by omega, fun H11 t' x11 _ _ => ?_⟩
      have im11 := x11.im x10.hand
      refine ⟨_, rfl, (by show 3 ≤ sizeLine; decide), fun u' hu' => ?_⟩
      have s12 : Same H11 (upd H11 u' (.tup [.int t', .int c, .int 1])) := same_new _ hu'
      have hu12 : upd H11 u' (.tup [.int t', .int c, .int 1]) u' = some (.tup [.int t', .int c, .int 1]) := upd_same
      generalize upd H11 u' (.tup [.int t', .int c, .int 1]) = H12 at s12 hu12 ⊢
      refine ⟨(by show 1 ≤ sizeLine; decide), fun u2' hu2' => ?_⟩
      have s13 : Same H12 (upd H12 u2' (.tup [.ref u'])) := same_new _ hu2'
      have hu13 : upd H12 u2' (.tup [.ref u']) u2' = some (.tup [.ref u']) := upd_same
      generalize upd H12 u2' (.tup [.ref u']) = H13 at s13 hu13 ⊢
      have s1113 := s12.trans s13
      have hp13 := sqT_same s1113 (sqT_im im11 hp')
      have hds13 := dpAll_same s1113 (dpAll_hx im11 hds' hni')
      have hu1313 := s13 _ _ hu12
      have hxl' := dpAll_len hds'
      have x813 := ((x9.trans x10).trans x11).same s1113
      have res : ∀ {Q' : VK}, (∀ H8 w1, Same H13 H8 → Dp K H8 (.ref w1) (.tuple (ds' ++ [eI [t', c, 1]])) → Q' (.ref w1) H8) → rCatA K (.ref p') (.ref u2') H13 Q' := fun {Q'} h => by
        refine ⟨p', u2', xs', _, rfl, rfl, hp13, .inl (.inl hu13), Nat.le_of_lt (small1000 (by rw [List.length_singleton]; omega)), fun e => ?_, fun _ e => (nomatch e), fun _ _ y hy => ?_⟩
        · have ed : ds' = [] := by
            rw [e] at hxl'
            exact List.length_eq_zero_iff.mp hxl'.symm
          refine h H13 u2' (.refl _) ?_
          rw [ed]
          exact .tup (.inl (.inl hu13)) (dpAll_one (eI_mk (.inl (.inl hu1313))))
        · have s8 : Same H13 (upd H13 y (.tup (xs' ++ [.ref u']))) := same_new _ hy
          exact h _ y s8 (.tup (.inl (.inl upd_same)) (dpAll_append (dpAll_same s8 hds13) (dpAll_one (eI_mk (.inl (.inl (s8 _ _ hu1313)))))))
      refine res fun H14 w2 s14 hw2 => ?_
      clear res
      have niceB : nice 2 (.tuple (ds' ++ [eI [t', c, 1]])) := ⟨by rw [List.length_append, List.length_singleton]; omega, fun d hd' => by
        rcases List.mem_append.mp hd' with z | z
        · exact hni' d z
        · rw [List.mem_singleton.mp z]
          exact nice_row (by simp) 0⟩
      have x814 := x813.same s14
      have hw1' := dp_hx x814 x18.hand hw1 niceA
      refine ⟨_, rfl, _, rfl, _, rfl, (by show 4 ≤ sizeLine; decide), fun y hy => ?_⟩
      have s15 : Same H14 (upd H14 y (.tup [.str "ring", .int c, .ref w1, .ref w2])) := same_new _ hy
      refine q _ _ (.tuple [.str "ring", .int c, .tuple dsA, .tuple (ds' ++ [eI [t', c, 1]])]) (((x1.trans x18).trans x814).same s15) (.tup (.inl (.inl upd_same)) (.cons (.str _) (.cons (.int c) (.cons (dp_same s15 hw1') (.cons (dp_same s15 hw2) .nil))))) ⟨by simp, fun e he => ?_⟩
      simp only [List.mem_cons, List.not_mem_nil, or_false] at he
      rcases he with rfl | rfl | rfl | rfl
      · exact c2 _
      · exact nice_int _ _
      · exact nice_mono niceA (by omega)
      · exact nice_mono niceB (by omega)
    refine ⟨_, rfl, _, rfl, _, rfl, _, rfl, hd, dr, 4, rfl, x1.hand, by decide, fun H2 k x2 k0 k1 => ?_⟩
    have hT2 := hT1.im (x2.im x1.hand)
    refine ⟨hd, dr, a, k.toNat, n, bk, ties, by rw [Int.toNat_of_nonneg k0]; rfl, x2.hand, hG, hT2, by omega, fun H3 p xs ds x3 hp hds hdl hni => ?_⟩
    obtain ⟨ts, h1, h2⟩ := len_ (hT2.im (x3.im x2.hand))
    refine ⟨_, rfl, _, rfl, a, ts, rfl, .inr h1, hd, dr, _, rfl, x3.hand, by omega, fun H4 t x4 _ _ => ⟨(by show 3 ≤ sizeLine; decide), fun u hu => ?_⟩⟩
    have s5 : Same H4 (upd H4 u (.tup [.str "chain", .ref p, .int t])) := same_new _ hu
    have im4 := x4.im x3.hand
    refine q _ _ (.tuple [.str "chain", .tuple ds, .int t]) ((((x1.trans x2).trans x3).trans x4).same s5) (.tup (.inl (.inl upd_same)) (.cons (.str _) (.cons (.tup (sqT_same s5 (sqT_im im4 hp)) (dpAll_same s5 (dpAll_hx im4 hds hni))) (.cons (.int t) .nil)))) ⟨by simp, fun e he => ?_⟩
    simp only [List.mem_cons, List.not_mem_nil, or_false] at he
    rcases he with rfl | rfl | rfl
    · exact c1 _
    · exact nice_mono (n := 2) ⟨by omega, hni⟩ (by omega)
    · exact nice_int _ _
end
end EC


set_option Elab.async false
set_option linter.all false
set_option maxRecDepth 100000
set_option maxHeartbeats 4000000
namespace EC
open PySem PySem.Spec PyProof.Rows L2
def OptOk (bk : List Rel) (ties : List Tie) (g : Fx) (row : List Int) : Prop := ∃ t c v : Int, row = [t, c, v] ∧ stepRun (vaOf bk) ties g (eI row) = some (put g c v)
theorem opt_ok {bk : List Rel} {ties : List Tie} {n : Nat} {g : Fx} {t c v : Int} {tie : Tie} {k : Nat} (hG : Good bk ties n) (h0 : 0 ≤ t) (ht : ties[t.toNat]? = some tie) (hc : tie.2[k]? = some c) (hg : g c = none) (hne : views bk tie g ≠ []) (hall : ∀ r ∈ views bk tie g, r[k]? = some v) : OptOk bk ties g [t, c, v] := by
  refine ⟨t, c, v, rfl, ?_⟩
  have htm : tie ∈ ties := List.mem_of_getElem? ht
  have htie : tieAt ties (.int t) = some tie := by
    show (if 0 ≤ t then ties[t.toNat]? else none) = _
    rw [if_pos h0, ht]
  obtain ⟨r, hr⟩ := List.exists_mem_of_ne_nil _ hne
  have hv : v = 0 ∨ v = 1 := by
    have h1 := (List.mem_filter.mp hr).1
    obtain ⟨rel, hrel, _⟩ := (hG.tie tie htm).rel
    unfold rowsAt at h1
    rw [hrel] at h1
    exact ((hG.rel rel (List.mem_of_getElem? hrel)).rows r h1).2 v (List.mem_of_getElem? (hall r hr))
  have hs : stepOf ties (eI [t, c, v]) = some (tie, c, v) := stepOf_in htie (List.mem_of_getElem? hc) (by omega) (by omega)
  unfold stepRun
  rw [hs]
  refine if_pos ⟨hg, ?_, ?_⟩
  · rw [va_empty]
    exact decide_eq_false fun z => hne (List.length_eq_zero_iff.mp z)
  · exact List.all_eq_true.mpr fun r hr => decide_eq_true (fits_same tie.2 r g k c v (List.mem_filter.mp hr).2 hc (hall r hr))
theorem at_getD {r : List Int} {l : Nat} (h : l < r.length) : atI (r.map V.int) (0 + (l : Int)) = some (V.int (r.getD l 0)) := by
  have := atI_nat (xs := r.map V.int) (j := l) (v := V.int (r.getD l 0)) (by rw [List.getElem?_map, List.getD_eq_getElem?_getD, List.getElem?_eq_getElem h]; rfl)
  rwa [show ((l : Nat) : Int) = 0 + (l : Int) by omega] at this
theorem getD_at {r : List Int} {l : Nat} (h : l < r.length) : r[l]? = some (r.getD l 0) := by
  rw [List.getD_eq_getElem?_getD, List.getElem?_eq_getElem h]
  rfl
section
variable {P : Program} {w : World} {K : PySem.W.Frag} {mg : Str → Option Value} {base : Heap}
/-! ### _law_steps -/
def spSteps (K : PySem.W.Frag) : Sp := fun vs H Q _ => ∃ (hd dr L a s : Addr) (n : Nat) (bk : List Rel) (ties : List Tie) (st : List (Int × Int)), vs = [.ref hd, .ref L, .ref a, .ref s] ∧ HandAt H hd dr ∧ L ≠ hd ∧ BookL K H L bk ∧ Good bk ties n ∧ TiesAt K H (.ref a) ties ∧ StAt K H s st ∧ StartG n st ∧
  ∀ H' p qa v rows, HX hd dr H H' → H' p = some (.tup [.ref qa, v]) → Dp K H' (.ref qa) (eR rows) → nice 2 (eR rows) → ((v = .non ∧ ∀ tie ∈ ties, views bk tie (lookS st) ≠ []) ∨ ∃ t : Int, v = .int t ∧ chainOk (vaOf bk) ties (lookS st) (rows.map eI) (.int t) = true) → Q (.ref p) H'
theorem ok_law_steps (T : Txt K mg) : Ok P w K mg base 2 d_law_steps ["_law_hand", "_law_book_here", "_law_ties_here", "_law_start_here"] (spSteps K) := by
  have G_law_take : Ok P w K mg base 1 d_law_take ["_law_hand", "_law_many"] (spTake K) := ok_law_take T
  have G_law_views : Ok P w K mg base 1 d_law_views ["_law_book_here", "_law_tie", "_law_fixed"] (spViews K) := ok_law_views T
  refine T.F_law_steps.ok sc_law_steps (fun vs H Q E h => ?_) (fun cdv A outer s H vs Q E hr h => ?_)
  · obtain ⟨hd, dr, L, a, so, n, bk, ties, st, rfl, _⟩ := h
    rfl
  obtain ⟨hd, dr, L, a, so, n, bk, ties, st, rfl, hh, nL, hB, hG, hT, hS, S, q⟩ := h
  refine ⟨_, PSs.nox (
  (pss_cons (ps_set (i := 4) sc_law_steps.nd rfl (Or.inl rfl) (pe_callTy (call_dictT rfl) (by rfl) T.z_dict (by decide +kernel) (pa_cons (pv 3) pa_nil)))
    (pss_cons (ps_set (i := 5) sc_law_steps.nd rfl (Or.inl rfl) (pe_lst pa_nil))
    (pss_cons (ps_for PassesOwn.never rfl (pi_range1 (by rfl) T.z_range (pa_cons pe_int pa_nil)) (pg_name (i := 6) sc_law_steps.nd rfl (Or.inl rfl))
      (pss_cons (ps_set (i := 7) sc_law_steps.nd rfl (Or.inl rfl) (pe_lst pa_nil))
      (pss_cons (ps_for PassesOwn.never rfl (pi_range1 (by rfl) T.z_range (pa_cons (pe_callB call_len_seq (by rfl) T.z_len PySem.boot_len (pa_cons (pv 2) pa_nil)) pa_nil)) (pg_name (i := 8) sc_law_steps.nd rfl (Or.inl rfl))
        (pss_cons (ps_set (i := 9) sc_law_steps.nd rfl (Or.inr rfl) (pe_call G_law_views (hr.mono (by omega)) (by rfl) T.g_law_views T.F_law_views.kp T.b_law_views .nil pass0 (pa_cons (pv 1) (pa_cons (pe_ix ix_tup (pv 2) (pv 8) (fun _ _ => rfl)) (pa_cons (pv 4) pa_nil)))))
        (pss_cons (ps_if (pt_cmpR op_eq (pe_callB call_len_seq (by rfl) T.z_len PySem.boot_len (pa_cons (pv 9) pa_nil)) pe_int (nomark _))
          (pss_one (ps_ret (pe_tup (pa_cons (pe_callTy call_tuple_of (by rfl) T.z_tuple (by decide +kernel) (pa_cons (pv 5) pa_nil)) (pa_cons (pv 8) pa_nil)))))
          pss_nil)
        (pss_one (ps_for PassesOwn.never rfl (pi_range1 (by rfl) T.z_range (pa_cons (pe_callB call_len_seq (by rfl) T.z_len PySem.boot_len (pa_cons (pe_ix ix_tup (pe_ix ix_tup (pv 2) (pv 8) (fun _ _ => rfl)) pe_int (fun _ _ => rfl)) pa_nil)) pa_nil)) (pg_name (i := 10) sc_law_steps.nd rfl (Or.inr rfl))
          (pss_cons (ps_set (i := 11) sc_law_steps.nd rfl (Or.inl rfl) (pe_ix ix_tup (pe_ix ix_tup (pe_ix ix_tup (pv 2) (pv 8) (fun _ _ => rfl)) pe_int (fun _ _ => rfl)) (pv 10) (fun _ _ => rfl)))
          (pss_one (ps_if (PW.pt (pw_and (pt_cmp (pc_dnotin (hu_of hr) (pv 11) (pv 4))) (pw_and1 (pt_cmpR op_eq (pe_callB call_len_seq (by rfl) T.z_len PySem.boot_len (pa_cons (pe_lc (own := [("_law_row", 13)]) rfl sc_law_steps.nd (pi_list (pv 9)) (blkOk_by (own := [("_law_row", 13)]) (N := ["_law_hand", "_law_book_here", "_law_ties_here", "_law_start_here", "_law_fixed", "_law_steps_here", "_law_turn", "_law_options", "_law_t", "_law_views_here", "_law_k", "_law_cell", "_law_step", "_law_row"]) (sc := defScope s_law_steps) (by decide +kernel)) (fun _ _ _ _ _ => (pg_name (i := 13) sc_law_steps.nd rfl (Or.inl rfl))) (fun _ _ _ _ _ => pts_one (pt_cmpR op_ne (pe_ix (ix_tupK (K := K) rfl) (pv 13) (pv 10) (fun _ _ => rfl)) (pe_ix (ix_tupK (K := K) rfl) (pe_ix (ix_listK (K := K) rfl) (pv 9) pe_int (fun _ _ => rfl)) (pv 10) (fun _ _ => rfl)) (nomark _))) (fun _ _ _ _ _ => (pv 13))) pa_nil)) pe_int (nomark _)))))
            (pss_one (ps_expr (pe_bm PySem.F.plainAttrs_list PySem.F.slot_list_append PySem.F.type_list_append mt_append (pv 7) (pa_cons (pe_tup (pa_cons (pv 8) (pa_cons (pv 11) (pa_cons (pe_ix ix_tup (pe_ix ix_list (pv 9) pe_int (fun _ _ => rfl)) (pv 10) (fun _ _ => rfl)) pa_nil)))) pa_nil))))
            pss_nil))))))))
      (pss_cons (ps_if (pt_cmpR op_eq (pe_callB call_len_seq (by rfl) T.z_len PySem.boot_len (pa_cons (pv 7) pa_nil)) pe_int (nomark _))
        (pss_one (ps_ret (pe_tup (pa_cons (pe_callTy call_tuple_of (by rfl) T.z_tuple (by decide +kernel) (pa_cons (pv 5) pa_nil)) (pa_cons pe_non pa_nil)))))
        pss_nil)
      (pss_cons (ps_set (i := 12) sc_law_steps.nd rfl (Or.inl rfl) (pe_ix ix_list (pv 7) (pe_call G_law_take (hr.mono (by omega)) (by rfl) T.g_law_take T.F_law_take.kp T.b_law_take .nil pass0 (pa_cons (pv 0) (pa_cons (pe_callB call_len_seq (by rfl) T.z_len PySem.boot_len (pa_cons (pv 7) pa_nil)) pa_nil))) (fun _ _ => rfl)))
      (pss_cons (ps_dput (hu_of hr) (pv 4) (pe_ix ix_tup (pv 12) pe_int (fun _ _ => rfl)) (pe_ix ix_tup (pv 12) pe_int (fun _ _ => rfl)) rfl)
      (pss_one (ps_expr (pe_bm PySem.F.plainAttrs_list PySem.F.slot_list_append PySem.F.type_list_append mt_append (pv 5) (pa_cons (pv 12) pa_nil))))))))))
    (pss_one (ps_ret (pe_tup (pa_cons (pe_callTy call_tuple_of (by rfl) T.z_tuple (by decide +kernel) (pa_cons (pv 5) pa_nil)) (pa_cons pe_non pa_nil))))))))
  ), ?_⟩
  have hn5 := hG.n5
  have ht6 := hG.t6
  have hsl := start_len S
  obtain ⟨ps, hps1, hps2⟩ := hS.pairs
  refine ⟨_, rfl, so, ps, _, rfl, hps1, hps2, fun F hFn => ?_⟩
  have hFx := fxD_start (H := H) (D := F) (st := st)
  have s1 : Same H (upd H F (.dK (mergeK [] (st.map fun p => ((Sum.inl p.1 : Key), V.int p.2))))) := same_new _ hFn
  generalize upd H F (.dK (mergeK [] (st.map fun p => ((Sum.inl p.1 : Key), V.int p.2)))) = H1 at hFx s1 ⊢
  have hF0 : H F = none := hFn
  generalize hfe : lookS st = f at hFx q
  refine ⟨(by show 0 ≤ sizeLine; exact Nat.zero_le _), fun R hR => ?_⟩
  have hR0 : H R = none := same_free s1 hR
  have s2 : Same H1 (upd H1 R (.lst [])) := same_new _ hR
  have hRl : upd H1 R (.lst []) R = some (.lst []) := upd_same
  generalize upd H1 R (.lst []) = H2 at s2 hRl ⊢
  have nR := (hh.ne hR0).1
  have nF := (hh.ne hF0).1
  have x2 := HX.of hh (s1.trans s2)
  have fxr : ∀ {H' H'' : Hp} {g : Fx} {m : Nat}, HX hd dr H' H'' → FxD H' F g m → FxD H'' F g m := fun {H' H'' g m} x h => by
    obtain ⟨kvs, h1, h2⟩ := h
    exact ⟨kvs, x.at nF h1, h2⟩
  -- what is given back
  have back : ∀ (H' : Hp) (acc : List V) (rows : List (List Int)) (v : V), HX hd dr H H' → H' R = some (.lst acc) → RowsP H' acc rows → rows.length ≤ 12 → (∀ r ∈ rows, r.length = 3) → ((v = .non ∧ ∀ tie ∈ ties, views bk tie f ≠ []) ∨ ∃ t : Int, v = .int t ∧ chainOk (vaOf bk) ties f (rows.map eI) (.int t) = true) →
      ∀ qa, H' qa = none → ∀ p, (upd H' qa (.tup acc)) p = none → Q (.ref p) (upd (upd H' qa (.tup acc)) p (.tup [.ref qa, v])) := fun H' acc rows v x hacc hRw hl h3 hv qa hqa p hp => by
    have s3 : Same H' (upd H' qa (.tup acc)) := same_new _ hqa
    have s4 : Same (upd H' qa (.tup acc)) (upd (upd H' qa (.tup acc)) p (.tup [.ref qa, v])) := same_new _ hp
    refine q _ p qa v rows (x.same (s3.trans s4)) upd_same (.tup (.inl (.inl (s4 _ _ upd_same))) (hRw.im (im_same (s3.trans s4))).dp) (nice_rows (by omega) (fun r hr => by have := h3 r hr; omega) 0) hv
  refine ⟨_, rfl, by decide, by decide, for_range (n := 12) (fun i σ H' => ∃ (o6 o7 o8 o9 o10 o11 o12 : Option V) (g : Fx) (rows : List (List Int)) (acc : List V), σ = [some (.ref hd), some (.ref L), some (.ref a), some (.ref so), some (.ref F), some (.ref R), o6, o7, o8, o9, o10, o11, o12, none] ∧ HX hd dr H H' ∧ FxD H' F g (st.length + i) ∧ H' R = some (.lst acc) ∧ RowsP H' acc rows ∧ rows.length ≤ i ∧ (∀ r ∈ rows, r.length = 3) ∧ chainRun (vaOf bk) ties f (rows.map eI) = some g ∧ (0 < i → ∀ tie ∈ ties, views bk tie f ≠ []))
    ⟨_, _, _, _, _, _, _, f, [], [], rfl, x2, hFx.same s2, hRl, RowsP.nil, Nat.le_refl _, fun r h => (nomatch h), rfl, fun h => absurd h (Nat.lt_irrefl 0)⟩ ?_ ?_⟩
  · rintro i σ H3 hi ⟨o6, o7, o8, o9, o10, o11, o12, g, rows, acc, rfl, x3, hg, hacc, hRw, hrl, hr3, hrun, hpos⟩
    refine ⟨(by show 0 ≤ sizeLine; exact Nat.zero_le _), fun O hO => ?_⟩
    have hO0 : H O = none := x3.free hO
    have nO := (hh.ne hO0).1
    have s4 : Same H3 (upd H3 O (.lst [])) := same_new _ hO
    have hOl : upd H3 O (.lst []) O = some (.lst []) := upd_same
    generalize upd H3 O (.lst []) = H4 at s4 hOl ⊢
    have x4 := x3.same s4
    have hT3 := hT.im (x3.im hh)
    have hB3 := hB.hx x3 hh nL
    obtain ⟨a', ts, ea, hts, htl, _⟩ := hT3
    cases ea
    have hT3 := hT.im (x3.im hh)
    refine ⟨_, rfl, a, ts, rfl, .inr (sqT_same s4 hts), _, rfl, by omega, by omega, for_range (n := ((ts.length : Int)).toNat) (fun j σ H' => ∃ (o8 o9 o10 o11 o12 : Option V) (ops : List V) (opts : List (List Int)), σ = [some (.ref hd), some (.ref L), some (.ref a), some (.ref so), some (.ref F), some (.ref R), some (.int (0 + (i : Nat))), some (.ref O), o8, o9, o10, o11, o12, none] ∧ Same H3 H' ∧ H' O = some (.lst ops) ∧ RowsP H' ops opts ∧ (∀ r ∈ opts, OptOk bk ties g r) ∧ opts.length ≤ 4 * j ∧ ∀ tie ∈ ties.take j, views bk tie g ≠ [])
      ⟨_, _, _, _, _, [], [], rfl, s4, hOl, RowsP.nil, fun r h => (nomatch h), Nat.zero_le _, fun tie h => (nomatch h)⟩ ?_ ?_⟩
    · rintro j σ H5 hj ⟨o8, o9, o10, o11, o12, ops, opts, rfl, s5, hops, hRo, hopt, hol, hvs⟩
      have hjt : j < ties.length := by
        have : j < ts.length := hj
        omega
      have hti : ties[((0 : Int) + (j : Int)).toNat]? = some ties[j] := by
        rw [show ((0 : Int) + (j : Int)).toNat = j by omega]
        exact List.getElem?_eq_getElem hjt
      have htj := List.getElem?_eq_getElem hjt
      have htm := List.getElem_mem hjt
      have h0t : (0 : Int) ≤ 0 + (j : Int) := by omega
      obtain ⟨ts5, u, cc, h1, h2, hat, hu, hc⟩ := (hT3.im (im_same s5)).get h0t hti
      generalize ties[j] = tie at hti htj htm hu hc
      have tg := hG.tie tie htm
      have hcl := tie_len hG htm
      refine ⟨_, rfl, _, rfl, _, rfl, a, ts5, _, _, rfl, rfl, h1, hat, _, rfl, L, F, _, bk, n, st.length + i, tie, g, rfl, hB3.same s5, hG.rel, ⟨u, cc, rfl, hu, hc⟩, tg, hg.same s5, by omega, fun H6 W rs s6 hW hWx hrows => ?_⟩
      have s36 := s5.trans s6
      have hrl2 := hrows.1
      have hWO : W ≠ O := by
        rintro rfl
        rw [hops] at hW
        cases hW
      have h16 := views_len (f := g) hG htm
      refine ⟨_, rfl, W, rs, rfl, .inl (.inl (.inl hWx)), rfl, _, rfl, ?_⟩
      rw [dec_len hrows.1]
      cases e7 : decide ((views bk tie g).length = 0) with
      | true =>
        refine iteT ⟨_, rfl, R, acc, rfl, .inl ⟨.inl (.inl (s36 _ _ hacc)), fun qa hqa => ⟨_, rfl, (by show 2 ≤ sizeLine; decide), fun p hp => ?_⟩⟩⟩
        refine back H6 acc rows _ (x3.same s36) (s36 _ _ hacc) (hRw.im (im_same s36)) (by omega) hr3 (.inr ⟨_, rfl, ?_⟩) qa hqa p hp
        unfold chainOk
        rw [hrun]
        show endOk (vaOf bk) ties g (.int (0 + (j : Int))) = true
        unfold endOk
        have htie : tieAt ties (.int (0 + (j : Int))) = some tie := by
          show (if 0 ≤ 0 + (j : Int) then ties[((0 : Int) + (j : Int)).toNat]? else none) = _
          rw [if_pos h0t]
          exact hti
        rw [htie]
        show vaOf bk tie g (fun _ => false) = true
        rw [va_empty, e7]
      | false =>
      have hvne : views bk tie g ≠ [] := fun z => by
        rw [z] at e7
        cases e7
      have hvl0 : 0 < (views bk tie g).length := List.length_pos_iff.mpr hvne
      obtain ⟨w0, hw01, hw02⟩ := hrows.2 0 _ (List.getElem?_eq_getElem hvl0)
      have hv0m := List.getElem_mem hvl0
      have hv0l := view_len hG htm hv0m
      generalize hv0 : (views bk tie g)[0] = row0 at hw02 hv0m hv0l
      have im6 := im_same s6
      have hops6 := s6 _ _ hops
      have hO3 : H3 O = none := hO
      refine iteF ⟨_, rfl, _, rfl, a, ts5, _, _, rfl, rfl, sqT_same s6 h1, hat, u, _, 1, _, rfl, rfl, sqT_same s6 hu, rfl, cc, _, rfl, .inr (hc.im im6).sq, _, rfl, by omega, by rw [List.length_map]; omega, for_range (n := (((tie.2.map V.int).length : Int)).toNat) (fun l σ H' => ∃ (o10 o11 : Option V) (ops : List V) (opts : List (List Int)), σ = [some (.ref hd), some (.ref L), some (.ref a), some (.ref so), some (.ref F), some (.ref R), some (.int (0 + (i : Nat))), some (.ref O), some (.int (0 + (j : Nat))), some (.ref W), o10, o11, o12, none] ∧ Same H3 H' ∧ SX O H6 H' ∧ H' O = some (.lst ops) ∧ RowsP H' ops opts ∧ (∀ r ∈ opts, OptOk bk ties g r) ∧ opts.length ≤ 4 * j + l)
        ⟨_, _, ops, opts, rfl, s36, SX.refl O H6, hops6, hRo.im im6, hopt, hol⟩ ?_ ?_⟩
      · rintro l σ H7 hl ⟨o10, o11, ops, opts, rfl, s7, sx7, hops, hRo, hopt, hol⟩
        have hlt : l < tie.2.length := by
          have : l < (tie.2.map V.int).length := hl
          rwa [List.length_map] at this
        have im7 : Im H6 H7 := sx7.im hops6
        have hcl2 := List.getElem?_eq_getElem hlt
        have hatc : atI (tie.2.map V.int) (0 + (l : Int)) = some (.int tie.2[l]) := by
          have := atI_nat (xs := tie.2.map V.int) (j := l) (v := V.int tie.2[l]) (by rw [List.getElem?_map, hcl2]; rfl)
          rwa [show ((l : Nat) : Int) = 0 + (l : Int) by omega] at this
        generalize tie.2[l] = c at hcl2 hatc
        have h17 := sqT_im im7 (sqT_same s6 h1)
        have hu7 := sqT_im im7 (sqT_same s6 hu)
        have hc7 : SqT K H7 cc (tie.2.map V.int) := ((hc.im im6).im im7).sq
        refine ⟨_, rfl, _, rfl, a, ts5, _, _, rfl, rfl, h17, hat, u, _, 1, _, rfl, rfl, hu7, rfl, _, rfl, cc, _, _, _, rfl, rfl, hc7, hatc, ?_⟩
        have hg7 := hg.same s7
        have hW7 : H7 W = some (.lst rs) := sx7 _ _ hWO hWx
        have hrows7 := hrows.im im7
        have hw07 := sqT_im im7 hw02
        have hal := hRo.1
        refine ⟨_, rfl, _, rfl, F, _, rfl, hg7.get c, _, rfl, ?_⟩
        cases e8 : g c with
        | some z => exact iteF ⟨_, _, ops, opts, rfl, s7, sx7, hops, hRo, hopt, by omega⟩
        | none =>
        refine iteT ⟨_, rfl, W, rfl, ⟨_, .inl (.inl hW7)⟩, fun D hD => lc_list (xs := rs) (fun e H' => Same H7 H' ∧ ∃ out : List V, H' D = some (.lst out) ∧ out.length = (((views bk tie g).take e).filter fun r => !decide (r.getD l 0 = row0.getD l 0)).length ∧ out.length ≤ e)
          ⟨same_new _ hD, [], upd_same, rfl, Nat.le_refl _⟩ (fun e H' _ h => .inl (.inl (h.1 _ _ hW7))) ?_ ?_⟩
        · rintro e x H8 he ⟨s8, out, hout, hol2, hole⟩
          have hel := (List.getElem?_eq_some_iff.mp he).1
          have hev : e < (views bk tie g).length := by omega
          have hve := List.getElem?_eq_getElem hev
          have hvm := List.getElem_mem hev
          obtain ⟨rb, hb1, hb2⟩ := hrows7.2 e _ hve
          rw [he] at hb1
          cases hb1
          have hn := take_filter (fun r : List Int => !decide (r.getD l 0 = row0.getD l 0)) _ hve
          generalize (views bk tie g)[e] = r at hve hvm hb2 hn
          have hrlen := view_len hG htm hvm
          refine ⟨rfl, _, rfl, _, rfl, rb, _, _, _, rfl, rfl, sqT_same s8 hb2, at_getD (by omega), _, rfl, W, _, 0, _, rfl, rfl, .inl (.inl (s8 _ _ hW7)), at_nn (by decide) hw01, _, rfl, w0, _, _, _, rfl, rfl, sqT_same s8 hw07, at_getD (by omega), rfl, _, rfl, ?_⟩
          rw [dec_ne]
          cases e9 : decide (r.getD l 0 = row0.getD l 0) with
          | true =>
            rw [if_neg (by rw [e9]; decide), List.append_nil] at hn
            exact iteF ⟨s8, out, hout, by rw [hn]; exact hol2, by omega⟩
          | false =>
            rw [if_pos (by rw [e9]; rfl)] at hn
            exact iteT ⟨_, rfl, out, hout, small1000 (by omega), same_mut _ s8 hD, _, upd_same, by rw [hn, List.length_append, List.length_append, hol2]; rfl, by rw [List.length_append]; exact Nat.succ_le_succ hole⟩
        rintro H8 ⟨s8, out, hout, hol2, hole⟩
        rw [List.take_of_length_le (by omega)] at hol2
        refine ⟨D, out, rfl, .inl (.inl (.inl hout)), rfl, _, rfl, ?_⟩
        rw [dec_eq]
        have ek : decide ((out.length : Int) = 0) = (views bk tie g).all fun r => decide (r.getD l 0 = row0.getD l 0) := by
          have h1 := filter_none (fun r : List Int => decide (r.getD l 0 = row0.getD l 0)) (views bk tie g)
          rw [← hol2] at h1
          rw [← Bool.not_not ((views bk tie g).all fun r => decide (r.getD l 0 = row0.getD l 0)), ← h1, ← decide_not, decide_eq_decide]
          omega
        rw [ek]
        have hops8 := s8 _ _ hops
        have sx8 : SX O H6 H8 := sx7.trans (sx_same s8)
        cases e9 : (views bk tie g).all (fun r => decide (r.getD l 0 = row0.getD l 0)) with
        | false => exact iteF ⟨_, _, ops, opts, rfl, s7.trans s8, sx8, hops8, hRo.im (im_same s8), hopt, by omega⟩
        | true =>
        have hok : OptOk bk ties g [0 + (j : Int), c, row0.getD l 0] := opt_ok hG h0t hti hcl2 e8 hvne fun r hr => by
          have h1 := of_decide_eq_true (List.all_eq_true.mp e9 r hr)
          rw [← h1]
          exact getD_at (by rw [view_len hG htm hr]; exact hlt)
        refine iteT ⟨_, rfl, .inl ⟨rfl, _, .inl (.inl hops8)⟩, _, rfl, _, rfl, _, rfl, W, _, 0, _, rfl, rfl, .inl (.inl (s8 _ _ hW7)), at_nn (by decide) hw01, _, rfl, w0, _, _, _, rfl, rfl, sqT_same s8 hw07, at_getD (by omega), (by show 3 ≤ sizeLine; decide), fun u2 hu2 => ?_⟩
        have s9 : Same H8 (upd H8 u2 (.tup [.int (0 + (j : Nat)), .int c, .int (row0.getD l 0)])) := same_new _ hu2
        have hu9 : upd H8 u2 (.tup [.int (0 + (j : Nat)), .int c, .int (row0.getD l 0)]) u2 = some (.tup (([0 + (j : Int), c, row0.getD l 0] : List Int).map V.int)) := upd_same
        generalize upd H8 u2 (.tup [.int (0 + (j : Nat)), .int c, .int (row0.getD l 0)]) = H9 at s9 hu9 ⊢
        have hops9 := s9 _ _ hops8
        have im10 : Im H9 (upd H9 O (.lst (ops ++ [.ref u2]))) := im_mut _ hops9 rfl
        refine ⟨O, ops, _, rfl, rfl, hops9, small1000 (by omega), ?_⟩
        refine ⟨_, _, ops ++ [.ref u2], opts ++ [[0 + (j : Int), c, row0.getD l 0]], rfl, same_mut _ ((s7.trans s8).trans s9) hO3, sx_at _ (sx8.trans (sx_same s9)), upd_same, (hRo.im (im_same (s8.trans s9)) |>.im im10).snoc (im10 _ _ rfl hu9), fun r hr => ?_, by rw [List.length_append]; simp; omega⟩
        rcases List.mem_append.mp hr with z | z
        · exact hopt r z
        · rw [List.mem_singleton.mp z]
          exact hok
      · rintro σ H7 ⟨o10, o11, ops, opts, rfl, s7, sx7, hops, hRo, hopt, hol⟩
        refine ⟨_, _, _, _, _, ops, opts, rfl, s7, hops, hRo, hopt, by rw [List.length_map] at hol; have : ((tie.2.length : Int)).toNat = tie.2.length := rfl; omega, fun tie' ht' => ?_⟩
        rw [List.take_succ, htj] at ht'
        rcases List.mem_append.mp ht' with z | z
        · exact hvs tie' z
        · have : tie' = tie := by simpa using z
          rw [this]
          exact hvne
    · rintro σ H5 ⟨o8, o9, o10, o11, o12, ops, opts, rfl, s5, hops, hRo, hopt, hol, hvs⟩
      have htsn : ((ts.length : Int)).toNat = ts.length := rfl
      rw [List.take_of_length_le (by omega)] at hvs
      have hvf : ∀ tie ∈ ties, views bk tie f ≠ [] := by
        by_cases hi0 : 0 < i
        · exact hpos hi0
        · have er : rows = [] := List.length_eq_zero_iff.mp (by omega)
          rw [er] at hrun
          have eg : f = g := Option.some.inj hrun
          rw [eg]
          exact hvs
      have hal := hRo.1
      refine ⟨_, rfl, O, ops, rfl, .inl (.inl (.inl hops)), rfl, _, rfl, ?_⟩
      rw [dec_eq]
      by_cases ho0 : (ops.length : Int) = 0
      · refine ifT (decide_eq_true ho0) ?_
        refine ⟨_, rfl, R, acc, rfl, .inl ⟨.inl (.inl (s5 _ _ hacc)), fun qa hqa => ⟨(by show 2 ≤ sizeLine; decide), fun p hp => ?_⟩⟩⟩
        exact back H5 acc rows .non (x3.same s5) (s5 _ _ hacc) (hRw.im (im_same s5)) (by omega) hr3 (.inl ⟨rfl, hvf⟩) qa hqa p hp
      · refine ifF (decide_eq_false ho0) ?_
        have x5 := x3.same s5
        refine ⟨_, rfl, _, rfl, _, rfl, O, ops, rfl, .inl (.inl (.inl hops)), hd, dr, _, rfl, x5.hand, by omega, fun H6 k x6 k0 k1 => ?_⟩
        have hkl : k.toNat < opts.length := by omega
        obtain ⟨ob, hb1, hb2⟩ := hRo.2 _ _ (List.getElem?_eq_getElem hkl)
        obtain ⟨t, c, v, erow, hstep⟩ := hopt _ (List.getElem_mem hkl)
        generalize opts[k.toNat] = row at hb2 erow hstep
        subst erow
        have im6 := x6.im x5.hand
        have hob6 := im6 _ _ rfl hb2
        have x36 : HX hd dr H3 H6 := ⟨(sx_same s5).trans x6.sx, x6.hand⟩
        have x06 := x5.trans x6
        have hg6 := fxr x36 hg
        have hacc6 := x6.at nR (s5 _ _ hacc)
        obtain ⟨H7, hput, hg7, o, rfl⟩ := hg6.put (by omega) c v
        have hFR : F ≠ R := by
          obtain ⟨kvs, h1, _⟩ := hg6
          rintro rfl
          rw [hacc6] at h1
          cases h1
        have imF : Im H6 (upd H6 F o) := by
          obtain ⟨kvs, h1, _⟩ := hg6
          exact im_mut _ h1 rfl
        refine ⟨O, _, k, _, rfl, rfl, .inl (.inl (x6.at nO hops)), at_nn k0 hb1, ?_⟩
        refine ⟨_, rfl, ob, _, 2, _, rfl, rfl, .inl (.inl hob6), rfl, _, rfl, _, rfl, ob, _, 1, _, rfl, rfl, .inl (.inl hob6), rfl, F, _, rfl, hput, ?_⟩
        have x07 : HX hd dr H (upd H6 F o) := x06.mut o hh hF0
        have hacc7 : upd H6 F o R = some (.lst acc) := by
          rw [upd_ne hFR.symm]
          exact hacc6
        have hob7 := imF _ _ rfl hob6
        have hRw7 := (hRw.im (x36.im x3.hand)).im imF
        generalize upd H6 F o = H7 at hg7 x07 hacc7 hob7 hRw7 ⊢
        have im8 : Im H7 (upd H7 R (.lst (acc ++ [.ref ob]))) := im_mut _ hacc7 rfl
        have hal2 := hRw.1
        refine ⟨_, rfl, .inl ⟨rfl, _, .inl (.inl hacc7)⟩, _, rfl, R, acc, _, rfl, rfl, hacc7, small1000 (by omega), ?_⟩
        refine ⟨_, _, _, _, _, _, _, put g c v, rows ++ [[t, c, v]], acc ++ [.ref ob], rfl, x07.mut _ hh hR0, ?_, upd_same, (hRw7.im im8).snoc (im8 _ _ rfl hob7), by rw [List.length_append]; exact Nat.succ_le_succ hrl, fun r hr => ?_, ?_, fun _ => hvf⟩
        · obtain ⟨kvs, h1, h2⟩ := hg7
          exact ⟨kvs, by rw [upd_ne hFR]; exact h1, h2⟩
        · rcases List.mem_append.mp hr with z | z
          · exact hr3 r z
          · rw [List.mem_singleton.mp z]
            rfl
        · rw [List.map_append]
          show chainRun _ _ _ (rows.map eI ++ [eI [t, c, v]]) = _
          rw [chainRun_snoc, hrun]
          exact hstep
  · rintro σ H3 ⟨o6, o7, o8, o9, o10, o11, o12, g, rows, acc, rfl, x3, hg, hacc, hRw, hrl, hr3, hrun, hpos⟩
    refine ⟨_, rfl, R, acc, rfl, .inl ⟨.inl (.inl hacc), fun qa hqa => ⟨(by show 2 ≤ sizeLine; decide), fun p hp => ?_⟩⟩⟩
    exact back H3 acc rows .non x3 hacc hRw hrl hr3 (.inl ⟨rfl, hpos (by omega)⟩) qa hqa p hp
end
end EC


set_option Elab.async false
set_option linter.all false
set_option maxRecDepth 100000
set_option maxHeartbeats 4000000
namespace EC
open PySem PySem.Spec PyProof.Rows L2
/-- data of tuples, texts, small ints -/
def tidy : Nat → PyData → Prop
  | _, .int i => 0 ≤ i ∧ i ≤ 9
  | _, .str x => PyData.strOk x = true
  | n + 1, .tuple ds => ds.length ≤ 30 ∧ ∀ d ∈ ds, tidy n d
  | _, _ => False
theorem tidy_nice : ∀ (n : Nat) (d : PyData), tidy n d → nice n d
  | n, .none, h => by cases n <;> exact h.elim
  | n, .bool _, h => by cases n <;> exact h.elim
  | n, .int _, _ => by cases n <;> trivial
  | n, .str x, h => by cases n <;> exact h
  | n, .list _, h => by cases n <;> exact h.elim
  | n, .dict _, h => by cases n <;> exact h.elim
  | 0, .tuple _, h => h.elim
  | n + 1, .tuple ds, h => ⟨h.1, fun d hd => tidy_nice n d (h.2 d hd)⟩
theorem tidy_mono : ∀ {n m : Nat} {d : PyData}, tidy n d → n ≤ m → tidy m d
  | n, m, .int _, h, _ => by cases n <;> cases m <;> exact h
  | n, m, .str x, h, _ => by cases n <;> cases m <;> exact h
  | n, m, .none, h, _ => by cases n <;> exact h.elim
  | n, m, .bool _, h, _ => by cases n <;> exact h.elim
  | n, m, .dict _, h, _ => by cases n <;> exact h.elim
  | n, m, .list _, h, _ => by cases n <;> exact h.elim
  | 0, _, .tuple _, h, _ => h.elim
  | n + 1, 0, .tuple _, _, hm => by omega
  | n + 1, m + 1, .tuple ds, h, hm => ⟨h.1, fun d hd => tidy_mono (h.2 d hd) (by omega)⟩
theorem tidy_int {n : Nat} {i : Int} (h0 : 0 ≤ i) (h1 : i ≤ 9) : tidy n (.int i) := by cases n <;> exact ⟨h0, h1⟩
theorem run_small {bk : List Rel} {ties : List Tie} {n : Nat} (hG : Good bk ties n) : ∀ (rows : List (List Int)) (f g : Fx), chainRun (vaOf bk) ties f (rows.map eI) = some g → ∀ r ∈ rows, tidy 1 (eI r)
  | [], _, _, _, r, hr => (nomatch hr)
  | row :: rows, f, g, h, r, hr => by
    have h' : (match stepRun (vaOf bk) ties f (eI row) with | some f' => chainRun (vaOf bk) ties f' (rows.map eI) | none => none) = some g := h
    cases e : stepRun (vaOf bk) ties f (eI row) with
    | none =>
      rw [e] at h'
      cases h'
    | some f' =>
      rw [e] at h'
      rcases List.mem_cons.mp hr with z | z
      · subst z
        unfold stepRun at e
        cases es : stepOf ties (eI r) with
        | none =>
          rw [es] at e
          cases e
        | some u =>
          obtain ⟨tie, c, v⟩ := u
          obtain ⟨t, er, h0, hti, hc, hv0, hv1⟩ := step_inv es
          have hlt := (List.getElem?_eq_some_iff.mp hti).1
          have ht6 := hG.t6
          have hn5 := hG.n5
          have hcc := (hG.tie tie (List.mem_of_getElem? hti)).cells c hc
          rw [er]
          refine ⟨by simp, fun d hd => ?_⟩
          simp only [List.mem_cons, List.not_mem_nil, or_false] at hd
          rcases hd with rfl | rfl | rfl
          · exact tidy_int h0 (by omega)
          · exact tidy_int hcc.1 (by omega)
          · exact tidy_int hv0 (by omega)
      · exact run_small hG rows f' g h' r z
theorem call_dictTK {X : Cx} {K : PySem.W.Frag} (hK : X.K = K) (hcalm : X.calm = true) : CallR X (.type "dict") (fun xs H Q => ∃ (a : Addr) (ps : List Addr) (kvs : List (Key × V)), xs = [.ref a] ∧ FrT H a (ps.map V.ref) ∧ Paired (fun p kv => SqT K H p [kV kv.1, kv.2]) ps kvs ∧
    ∀ p, H p = none → Q (.ref p) (upd H p (.dK (mergeK [] kvs)))) := by
  subst hK
  exact call_dictT hcalm
section
variable {P : Program} {w : World} {K : PySem.W.Frag} {mg : Str → Option Value} {base : Heap}
/-! ### _law_refute -/
def spRefute (K : PySem.W.Frag) (r : Nat) : Sp := fun vs H Q _ => ∃ (hd dr L a s : Addr) (n : Nat) (bk : List Rel) (ties : List Tie) (st : List (Int × Int)), vs = [.ref hd, .ref L, .int n, .ref a, .ref s] ∧ HandAt H hd dr ∧ L ≠ hd ∧ BookL K H L bk ∧ Good bk ties n ∧ TiesAt K H (.ref a) ties ∧ StAt K H s st ∧ StartG n st ∧ filled bk ties n st = false ∧ freeN n (lookS st) < r ∧
  ∀ H' v d, HX hd dr H H' → Dp K H' v d → tidy (r + 3) d → judge (vaOf bk) ties n d (lookS st) = true → Q v H'
theorem ok_law_refute (T : Txt K mg) : ∀ r, Ok P w K mg base (3 + r) d_law_refute ["_law_hand", "_law_book_here", "_law_cells", "_law_ties_here", "_law_start_here"] (spRefute K r)
  | 0 => by
    refine T.F_law_refute.ok sc_law_refute (fun vs H Q E h => ?_) (fun cdv A outer s H vs Q E hr h => ?_)
    · obtain ⟨hd, dr, L, a, so, n, bk, ties, st, rfl, _⟩ := h
      rfl
    · obtain ⟨hd, dr, L, a, so, n, bk, ties, st, rfl, _, _, _, _, _, _, _, _, hz, _⟩ := h
      exact absurd hz (Nat.not_lt_zero _)
  | r + 1 => by
    have G_law_refute : Ok P w K mg base (3 + r) d_law_refute ["_law_hand", "_law_book_here", "_law_cells", "_law_ties_here", "_law_start_here"] (spRefute K r) := ok_law_refute T r
    have G_law_take : Ok P w K mg base 1 d_law_take ["_law_hand", "_law_many"] (spTake K) := ok_law_take T
    have G_law_steps : Ok P w K mg base 2 d_law_steps ["_law_hand", "_law_book_here", "_law_ties_here", "_law_start_here"] (spSteps K) := ok_law_steps T
    have G_law_with : Ok P w K mg base 1 d_law_with ["_law_start_here", "_law_cell", "_law_value"] (spWithL K) := ok_law_with T
    refine T.F_law_refute.ok (k := 3 + r) sc_law_refute (fun vs H Q E h => ?_) (fun cdv A outer s H vs Q E hr h => ?_)
    · obtain ⟨hd, dr, L, a, so, n, bk, ties, st, rfl, _⟩ := h
      rfl
    obtain ⟨hd, dr, L, a, so, n, bk, ties, st, rfl, hh, nL, hB, hG, hT, hS, S, hfil, hfree, q⟩ := h
    refine ⟨_, PSs.nox (
    (pss_cons (ps_asg (pe_call G_law_steps (hr.mono (by omega)) (by rfl) T.g_law_steps T.F_law_steps.kp T.b_law_steps .nil pass0 (pa_cons (pv 0) (pa_cons (pv 1) (pa_cons (pv 3) (pa_cons (pv 4) pa_nil))))) (pg_tup rfl (pgs_cons (pg_name (i := 5) sc_law_refute.nd rfl (Or.inl rfl)) (pgs_cons (pg_name (i := 6) sc_law_refute.nd rfl (Or.inl rfl)) pgs_nil))))
      (pss_cons (ps_if (pt_cmpR op_notN (pv 6) pe_non (nomark _))
        (pss_one (ps_ret (pe_tup (pa_cons pe_str (pa_cons (pv 5) (pa_cons (pv 6) pa_nil))))))
        pss_nil)
      (pss_cons (ps_setLc (i := 7) (own := [("_law_cell", 8)]) (by rfl) sc_law_refute.nd rfl rfl (sw_true rfl rfl rfl (by decide +kernel)) (pi_range1 (by rfl) T.z_range (pa_cons (pv 2) pa_nil)) (blkOk_by (own := [("_law_cell", 8)]) (N := ["_law_hand", "_law_book_here", "_law_cells", "_law_ties_here", "_law_start_here", "_law_steps_here", "_law_t", "_law_free", "_law_cell", "_law_no"]) (sc := defScope s_law_refute) (by decide +kernel)) (fun _ _ _ _ _ => (pg_name (i := 8) sc_law_refute.nd rfl (Or.inl rfl))) (fun _ _ _ _ _ => pts_one (pt_cmp (pc_dnotin (hu_of hr) (pv 8) (pe_callTy (call_dictTK (K := K) rfl rfl) (by rfl) T.z_dict (by decide +kernel) (pa_cons (pv 4) pa_nil))))) (fun _ _ _ _ _ => (pv 8)))
      (pss_cons (ps_set (i := 8) sc_law_refute.nd rfl (Or.inl rfl) (pe_ix ix_list (pv 7) (pe_call G_law_take (hr.mono (by omega)) (by rfl) T.g_law_take T.F_law_take.kp T.b_law_take .nil pass0 (pa_cons (pv 0) (pa_cons (pe_callB call_len_seq (by rfl) T.z_len PySem.boot_len (pa_cons (pv 7) pa_nil)) pa_nil))) (fun _ _ => rfl)))
      (pss_cons (ps_set (i := 9) sc_law_refute.nd rfl (Or.inl rfl) (pe_call G_law_refute (hr.mono (by omega)) (by rfl) T.g_law_refute T.F_law_refute.kp T.b_law_refute .nil pass0 (pa_cons (pv 0) (pa_cons (pv 1) (pa_cons (pv 2) (pa_cons (pv 3) (pa_cons (pe_call G_law_with (hr.mono (by omega)) (by rfl) T.g_law_with T.F_law_with.kp T.b_law_with .nil pass0 (pa_cons (pv 4) (pa_cons (pv 8) (pa_cons pe_int pa_nil)))) pa_nil)))))))
      (pss_one (ps_ret (pe_tup (pa_cons pe_str (pa_cons (pv 8) (pa_cons (pv 9) (pa_cons (pe_call G_law_refute (hr.mono (by omega)) (by rfl) T.g_law_refute T.F_law_refute.kp T.b_law_refute .nil pass0 (pa_cons (pv 0) (pa_cons (pv 1) (pa_cons (pv 2) (pa_cons (pv 3) (pa_cons (pe_call G_law_with (hr.mono (by omega)) (by rfl) T.g_law_with T.F_law_with.kp T.b_law_with .nil pass0 (pa_cons (pv 4) (pa_cons (pv 8) (pa_cons pe_int pa_nil)))) pa_nil)))))) pa_nil))))))))))))
    ), ?_⟩
    have hn5 := hG.n5
    have hsl := start_len S
    have c1 : ∀ m, tidy m (.str "chain") := fun m => by cases m <;> (show PyData.strOk "chain" = true; decide +kernel)
    have c4 : ∀ m, tidy m (.str "split") := fun m => by cases m <;> (show PyData.strOk "split" = true; decide +kernel)
    refine ⟨_, rfl, _, rfl, _, rfl, _, rfl, hd, dr, L, a, so, n, bk, ties, st, rfl, hh, nL, hB, hG, hT, hS, S, fun H1 p qa v rows x1 hp hq hni hor => ?_⟩
    refine ⟨p, _, rfl, .inl (.inl hp), rfl, _, _, rfl, _, _, rfl, rfl, ?_⟩
    rcases hor with ⟨rfl, hvs⟩ | ⟨t, rfl, hch⟩
    · refine ⟨_, rfl, rfl, _, rfl, ifNT (decide_eq_true rfl) ?_⟩
      have hS1 := hS.im (x1.im hh)
      refine ⟨_, rfl, n, rfl, by omega, by omega, fun D hD => lc_range (n := ((n : Int)).toNat) (fun j H' => Same H1 H' ∧ ∃ fr : List Int, H' D = some (.lst (fr.map V.int)) ∧ fr.length ≤ j ∧ (∀ c ∈ fr, 0 ≤ c ∧ c < (n : Int) ∧ lookS st c = none) ∧ ∀ c : Int, 0 ≤ c → c < (j : Int) → lookS st c = none → c ∈ fr)
        ⟨same_new _ hD, [], upd_same, Nat.le_refl _, fun c h => (nomatch h), fun c h0 h1 => by omega⟩ ?_ ?_⟩
      · rintro j H2 hj ⟨s2, fr, hfr, hfl, hf1, hf2⟩
        have hjn : j < n := hj
        obtain ⟨ps, hps1, hps2⟩ := (hS1.im (im_same s2)).pairs
        refine ⟨rfl, _, rfl, _, rfl, so, ps, _, rfl, hps1, hps2, fun F hFn => ?_⟩
        have hFx := fxD_start (H := H2) (D := F) (st := st)
        have s3 : Same H2 (upd H2 F (.dK (mergeK [] (st.map fun p => ((Sum.inl p.1 : Key), V.int p.2))))) := same_new _ hFn
        generalize upd H2 F (.dK (mergeK [] (st.map fun p => ((Sum.inl p.1 : Key), V.int p.2)))) = H3 at hFx s3 ⊢
        have hfr3 := s3 _ _ hfr
        refine ⟨F, _, rfl, hFx.get (0 + (j : Int)), _, rfl, ?_⟩
        cases e : lookS st (0 + (j : Int)) with
        | some u =>
          refine iteF ⟨s2.trans s3, fr, hfr3, by omega, hf1, fun c h0 h1 h2 => ?_⟩
          by_cases hc : c = 0 + (j : Int)
          · subst hc
            rw [e] at h2
            cases h2
          · exact hf2 c h0 (by omega) h2
        | none =>
          refine iteT ⟨_, rfl, _, hfr3, small1000 (by rw [List.length_map]; omega), same_mut _ (s2.trans s3) hD, fr ++ [0 + (j : Int)], by rw [upd_same, List.map_append]; rfl, by rw [List.length_append]; exact Nat.succ_le_succ hfl, fun c hc => ?_, fun c h0 h1 h2 => ?_⟩
          · rcases List.mem_append.mp hc with z | z
            · exact hf1 c z
            · rw [List.mem_singleton.mp z]
              exact ⟨by omega, by omega, e⟩
          · by_cases hc : c = 0 + (j : Int)
            · exact List.mem_append_right _ (List.mem_singleton.mpr hc)
            · exact List.mem_append_left _ (hf2 c h0 (by omega) h2)
      rintro H2 ⟨s2, fr, hfr, hfl, hf1, hf2⟩
      have hfr0 : 0 < fr.length := by
        refine Nat.pos_of_ne_zero fun z => ?_
        have ef : fr = [] := List.length_eq_zero_iff.mp z
        have hfull := full_filled hG S (fun c h0 h1 h2 => by
          have := hf2 c h0 h1 h2
          rw [ef] at this
          cases this) hvs
        rw [hfil] at hfull
        cases hfull
      have x2 := x1.same s2
      have hDn : H D = none := x1.free hD
      have nD := (hh.ne hDn).1
      refine ⟨_, rfl, _, rfl, _, rfl, D, _, rfl, .inl (.inl (.inl hfr)), hd, dr, _, rfl, x2.hand, by rw [List.length_map]; omega, fun H3 k x3 k0 k1 => ?_⟩
      rw [List.length_map] at k1
      have hkl : k.toNat < fr.length := by omega
      obtain ⟨hc0, hc1, hcn⟩ := hf1 _ (List.getElem_mem hkl)
      have hatk : atI (fr.map V.int) k = some (.int fr[k.toNat]) := at_nn k0 (by rw [List.getElem?_map, List.getElem?_eq_getElem hkl]; rfl)
      generalize fr[k.toNat] = c at hc0 hc1 hcn hatk
      refine ⟨D, _, k, _, rfl, rfl, .inl (.inl (x3.at nD hfr)), hatk, ?_⟩
      have x03 := x2.trans x3
      have hS3 := hS.im (x03.im hh)
      have hst100 : st.length ≤ 100 := by omega
      have g0 := withS_good (v := 0) S hcn ⟨hc0, hc1⟩ (.inl rfl)
      have g1 := withS_good (v := 1) S hcn ⟨hc0, hc1⟩ (.inr rfl)
      have l0 := withS_look (v := 0) S hcn ⟨hc0, hc1⟩ (.inl rfl)
      have l1 := withS_look (v := 1) S hcn ⟨hc0, hc1⟩ (.inr rfl)
      have f0 := freeN_put (v := 0) hc0 hc1 hcn
      have f1 := freeN_put (v := 1) hc0 hc1 hcn
      refine ⟨_, rfl, _, rfl, _, rfl, _, rfl, _, rfl, _, rfl, so, c, 0, st, rfl, hS3, hst100, fun H4 s' s4 hS4 => ?_⟩
      have x04 := x03.same s4
      refine ⟨hd, dr, L, a, s', n, bk, ties, withS st c 0, rfl, x04.hand, nL, hB.hx x04 hh nL, hG, hT.im (x04.im hh), hS4, g0, with_unfilled hcn hfil, by rw [l0]; omega, fun H5 v5 d5 x5 hd5 hni5 hj5 => ?_⟩
      have x05 := x04.trans x5
      rw [l0] at hj5
      refine ⟨_, rfl, _, rfl, _, rfl, _, rfl, _, rfl, _, rfl, _, rfl, _, rfl, so, c, 1, st, rfl, hS.im (x05.im hh), hst100, fun H6 s'' s6 hS6 => ?_⟩
      have x06 := x05.same s6
      refine ⟨hd, dr, L, a, s'', n, bk, ties, withS st c 1, rfl, x06.hand, nL, hB.hx x06 hh nL, hG, hT.im (x06.im hh), hS6, g1, with_unfilled hcn hfil, by rw [l1]; omega, fun H7 v7 d7 x7 hd7 hni7 hj7 => ?_⟩
      rw [l1] at hj7
      refine ⟨(by show 4 ≤ sizeLine; decide), fun u hu => ?_⟩
      have s8 : Same H7 (upd H7 u (.tup [.str "split", .int c, v5, v7])) := same_new _ hu
      have hd57 : Dp K H7 v5 d5 := dp_hx x7 x06.hand (dp_same s6 hd5) (tidy_nice _ _ hni5)
      refine q _ _ (.tuple [.str "split", .int c, d5, d7]) ((x06.trans x7).same s8) (.tup (.inl (.inl upd_same)) (.cons (.str _) (.cons (.int c) (.cons (dp_same s8 hd57) (.cons (dp_same s8 hd7) .nil))))) ⟨by simp, fun e he => ?_⟩ ?_
      · simp only [List.mem_cons, List.not_mem_nil, or_false] at he
        rcases he with rfl | rfl | rfl | rfl
        · exact c4 _
        · exact tidy_int hc0 (by omega)
        · exact hni5
        · exact hni7
      · rw [judge_split hc0 hc1 hcn, hj5, hj7]
        rfl
    · refine ⟨_, rfl, rfl, _, rfl, ifNF (decide_eq_false fun z => (nomatch z)) ?_⟩
      refine ⟨_, rfl, _, rfl, (by show 3 ≤ sizeLine; decide), fun u hu => ?_⟩
      have s2 : Same H1 (upd H1 u (.tup [.str "chain", .ref qa, .int t])) := same_new _ hu
      refine q _ _ (.tuple [.str "chain", eR rows, .int t]) (x1.same s2) (.tup (.inl (.inl upd_same)) (.cons (.str _) (.cons (dp_same s2 hq) (.cons (.int t) .nil)))) ⟨by simp, fun e he => ?_⟩ ?_
      · simp only [List.mem_cons, List.not_mem_nil, or_false] at he
        have ht6 := hG.t6
        unfold chainOk at hch
        cases eg : chainRun (vaOf bk) ties (lookS st) (rows.map eI) with
        | none =>
          rw [eg] at hch
          cases hch
        | some g =>
        rw [eg] at hch
        have hend : endOk (vaOf bk) ties g (.int t) = true := hch
        rcases he with rfl | rfl | rfl
        · exact c1 _
        · refine tidy_mono (n := 2) ⟨hni.1, fun d hd => ?_⟩ (by omega)
          obtain ⟨r, hr, rfl⟩ := List.mem_map.mp hd
          exact run_small hG rows _ _ eg r hr
        · unfold endOk at hend
          cases et : tieAt ties (.int t) with
          | none =>
            rw [et] at hend
            cases hend
          | some tie =>
            obtain ⟨t', e1, h0, h1⟩ := tieAt_int et
            cases e1
            have := (List.getElem?_eq_some_iff.mp h1).1
            exact tidy_int h0 (by omega)
      · exact judge_chain.trans hch
end
end EC


set_option Elab.async false
set_option linter.all false
set_option maxRecDepth 100000
set_option maxHeartbeats 4000000
namespace EC
open PySem PySem.Spec PyProof.Rows L2
/-! ### tuples that stand while the hand moves: joined, cut -/
theorem pap_tup {K : PySem.W.Frag} {H : Hp} {hd : Addr} {v : V} {ds : List PyData} (h : PapAt K H hd v (.tuple ds)) : ∃ a xs, v = .ref a ∧ SqT K H a xs ∧ DpAll K (cutH H hd) xs ds := by
  obtain ⟨a, xs, e, h1, h2⟩ := dp_tup h
  exact ⟨a, xs, e, sqT_same cut_same h1, h2⟩
theorem same_cut {H H' : Hp} {hd : Addr} (s : Same H H') : Same (cutH H hd) (cutH H' hd) := cut_sx (sx_same s)
theorem pap_mk {K : PySem.W.Frag} {H : Hp} {hd p : Addr} {xs : List V} {ds : List PyData} (n : p ≠ hd) (h : H p = some (.tup xs)) (hds : DpAll K (cutH H hd) xs ds) : PapAt K H hd (.ref p) (.tuple ds) := .tup (.inl (.inl (cut_at n h))) hds
theorem cat_pap {K : PySem.W.Frag} {H : Hp} {hd dr : Addr} {v u : V} {ds es : List PyData} {Q : VK} (hh : HandAt H hd dr) (h1 : PapAt K H hd v (.tuple ds)) (h2 : PapAt K H hd u (.tuple es)) (hl : ds.length + es.length ≤ 1000) (q : ∀ p H', Same H H' → PapAt K H' hd p (.tuple (ds ++ es)) → Q p H') : rCatA K v u H Q := by
  have h1' := h1
  have h2' := h2
  obtain ⟨a, xs, rfl, ha, hx⟩ := pap_tup h1
  obtain ⟨b, ys, rfl, hb, hy⟩ := pap_tup h2
  have l1 := dpAll_len hx
  have l2 := dpAll_len hy
  refine ⟨a, b, xs, ys, rfl, rfl, ha, hb, Nat.le_of_lt (small1e6 (by omega)), fun e => ?_, fun _ e => ?_, fun _ _ p hp => ?_⟩
  · have e2 : ds = [] := List.length_eq_zero_iff.mp (by rw [← l1, e]; rfl)
    refine q _ H (.refl H) ?_
    rw [e2]
    exact h2'
  · have e2 : es = [] := List.length_eq_zero_iff.mp (by rw [← l2, e]; rfl)
    refine q _ H (.refl H) ?_
    rw [e2, List.append_nil]
    exact h1'
  · have s : Same H (upd H p (.tup (xs ++ ys))) := same_new _ hp
    exact q _ _ s (pap_mk (hh.ne hp).1 upd_same (dpAll_append (dpAll_same (same_cut s) hx) (dpAll_same (same_cut s) hy)))
theorem sl_pap {K : PySem.W.Frag} {H : Hp} {hd dr : Addr} {v : V} {ds : List PyData} {lo hi : Option Int} {Q : VK} (hh : HandAt H hd dr) (h1 : PapAt K H hd v (.tuple ds)) (q : ∀ p H' es, Same H H' → PapAt K H' hd p (.tuple es) → es.length ≤ ds.length → (∀ e ∈ es, e ∈ ds) → Q p H') : rSlA K v lo hi H Q := by
  have h1' := h1
  obtain ⟨a, xs, rfl, ha, hx⟩ := pap_tup h1
  refine ⟨a, xs, rfl, ha, fun _ => q _ H ds (.refl H) h1' (Nat.le_refl _) fun e h => h, fun _ p hp => ?_⟩
  have s : Same H (upd H p (.tup (cutV xs lo hi))) := same_new _ hp
  refine q _ _ ((ds.drop (HT.sIx xs.length 0 lo)).take (HT.sIx xs.length xs.length hi - HT.sIx xs.length 0 lo)) s (pap_mk (hh.ne hp).1 upd_same (dpAll_take _ (dpAll_drop _ (dpAll_same (same_cut s) hx)))) ?_ fun e he => List.mem_of_mem_drop (List.mem_of_mem_take he)
  rw [List.length_take, List.length_drop]
  omega
theorem pap_one {K : PySem.W.Frag} {H : Hp} {hd dr p : Addr} {v : V} {d : PyData} (hh : HandAt H hd dr) (hp : H p = none) (h : PapAt K H hd v d) : PapAt K (upd H p (.tup [v])) hd (.ref p) (.tuple [d]) :=
  pap_mk (hh.ne hp).1 upd_same (dpAll_one (dp_same (same_cut (same_new _ hp)) h))
theorem PapAt.same {K : PySem.W.Frag} {H H' : Hp} {hd : Addr} {v : V} {d : PyData} (s : Same H H') (h : PapAt K H hd v d) : PapAt K H' hd v d := h.sx (sx_same s)
theorem PapAt.at {K : PySem.W.Frag} {H : Hp} {hd : Addr} {v : V} {ds : List PyData} {i : Int} {d : PyData} (h : PapAt K H hd v (.tuple ds)) (h0 : 0 ≤ i) (hi : ds[i.toNat]? = some d) : ∃ a xs x, v = .ref a ∧ SqT K H a xs ∧ atI xs i = some x ∧ PapAt K H hd x d := by
  obtain ⟨a, xs, e, ha, hx⟩ := pap_tup h
  obtain ⟨x, h1, h2⟩ := dpAll_get hx hi
  exact ⟨a, xs, x, e, ha, at_nn h0 h1, h2⟩
theorem strI : ∀ i : Nat, i < 10 → PyData.strOk (toString (i : Int) : Str) = true ∧ ((i : Int)).natAbs.log2 < 1920 := by decide +kernel
theorem tidy_fine (n : Nat) (d : PyData) (h : tidy n d) : fine n d := nice_fine n d (tidy_nice n d h)
section
variable {P : Program} {w : World} {K : PySem.W.Frag} {mg : Str → Option Value} {base : Heap}
/-! ### _law_spoilt -/
def spSpoilt (K : PySem.W.Frag) (r : Nat) : Sp := fun vs H Q _ => ∃ (hd dr : Addr) (v : V) (d : PyData) (m : Nat) (dep : Int), vs = [.ref hd, v, .int dep] ∧ HandAt H hd dr ∧ PapAt K H hd v d ∧ tidy m d ∧ m < r ∧
  ∀ H' v' d', HX hd dr H H' → PapAt K H' hd v' d' → fine (m + 2) d' → Q v' H'
theorem ok_law_spoilt (T : Txt K mg) : ∀ r, Ok P w K mg base (1 + r) d_law_spoilt ["_law_hand", "_law_part", "_law_depth"] (spSpoilt K r)
  | 0 => by
    refine T.F_law_spoilt.ok sc_law_spoilt (fun vs H Q E h => ?_) (fun cdv A outer s H vs Q E hr h => ?_)
    · obtain ⟨hd, dr, v, d, m, dep, rfl, _⟩ := h
      rfl
    · obtain ⟨hd, dr, v, d, m, dep, rfl, _, _, _, hz, _⟩ := h
      exact absurd hz (Nat.not_lt_zero _)
  | r + 1 => by
    have G_law_spoilt : Ok P w K mg base (1 + r) d_law_spoilt ["_law_hand", "_law_part", "_law_depth"] (spSpoilt K r) := ok_law_spoilt T r
    have G_law_take : Ok P w K mg base 1 d_law_take ["_law_hand", "_law_many"] (spTake K) := ok_law_take T
    refine T.F_law_spoilt.ok (k := 1 + r) sc_law_spoilt (fun vs H Q E h => ?_) (fun cdv A outer s H vs Q E hr h => ?_)
    · obtain ⟨hd, dr, v, d, m, dep, rfl, _⟩ := h
      rfl
    obtain ⟨hd, dr, v, d, m, dep, rfl, hh, hd0, ht, hm, q⟩ := h
    refine ⟨_, PSs.nox (
    (pss_cons (ps_if (pt_val (pe_callB call_isi (by rfl) T.z_isinstance (by decide +kernel) (pa_cons (pv 1) (pa_cons (pe_bltn (v := .ty "int") (by rfl) T.z_int (by decide +kernel) rfl) pa_nil))))
        (pss_one (ps_ret (pe_ix ix_list (pe_lst (pa_cons (pe_op op_add (pv 1) pe_int) (pa_cons (pe_op op_sub (pv 1) pe_int) (pa_cons (pe_op op_sub pe_int (pv 1)) (pa_cons (pe_cmpR op_eq (pv 1) pe_int (nomark _)) (pa_cons pe_non (pa_cons (pe_callTy call_str_int (by rfl) T.z_str (by decide +kernel) (pa_cons (pv 1) pa_nil)) (pa_cons (pe_tup (pa_cons (pv 1) pa_nil)) pa_nil)))))))) (pe_call G_law_take (hr.mono (by omega)) (by rfl) T.g_law_take T.F_law_take.kp T.b_law_take .nil pass0 (pa_cons (pv 0) (pa_cons pe_int pa_nil))) (fun _ _ => rfl))))
        pss_nil)
      (pss_cons (ps_if (pt_val (pe_callB call_isi (by rfl) T.z_isinstance (by decide +kernel) (pa_cons (pv 1) (pa_cons (pe_bltn (v := .ty "str") (by rfl) T.z_str (by decide +kernel) rfl) pa_nil))))
        (pss_one (ps_ret (pe_ix ix_list (pe_lst (pa_cons pe_str (pa_cons pe_str (pa_cons pe_str (pa_cons pe_str (pa_cons pe_str (pa_cons pe_non pa_nil))))))) (pe_call G_law_take (hr.mono (by omega)) (by rfl) T.g_law_take T.F_law_take.kp T.b_law_take .nil pass0 (pa_cons (pv 0) (pa_cons pe_int pa_nil))) (fun _ _ => rfl))))
        pss_nil)
      (pss_cons (ps_set (i := 3) sc_law_spoilt.nd rfl (Or.inl rfl) (pe_call G_law_take (hr.mono (by omega)) (by rfl) T.g_law_take T.F_law_take.kp T.b_law_take .nil pass0 (pa_cons (pv 0) (pa_cons pe_int pa_nil))))
      (pss_cons (ps_if (PW.pt (pw_or (pt_cmpR op_eq (pe_callB call_len_seq (by rfl) T.z_len PySem.boot_len (pa_cons (pv 1) pa_nil)) pe_int (nomark _)) (pw_or1 (pt_cmpR op_eq (pv 3) pe_int (nomark _)))))
        (pss_one (ps_ret (pe_ix ix_list (pe_lst (pa_cons (pe_op op_catA (pv 1) (pe_tup (pa_cons (pe_tup (pa_cons pe_int (pa_cons pe_int (pa_cons pe_int pa_nil)))) pa_nil))) (pa_cons (pe_callTy call_list_of (by rfl) T.z_list (by decide +kernel) (pa_cons (pv 1) pa_nil)) (pa_cons (pe_op op_catA (pv 1) (pe_tup (pa_cons pe_int pa_nil))) (pa_cons pe_non pa_nil))))) (pe_call G_law_take (hr.mono (by omega)) (by rfl) T.g_law_take T.F_law_take.kp T.b_law_take .nil pass0 (pa_cons (pv 0) (pa_cons pe_int pa_nil))) (fun _ _ => rfl))))
        pss_nil)
      (pss_cons (ps_set (i := 4) sc_law_spoilt.nd rfl (Or.inl rfl) (pe_call G_law_take (hr.mono (by omega)) (by rfl) T.g_law_take T.F_law_take.kp T.b_law_take .nil pass0 (pa_cons (pv 0) (pa_cons (pe_callB call_len_seq (by rfl) T.z_len PySem.boot_len (pa_cons (pv 1) pa_nil)) pa_nil))))
      (pss_cons (ps_if (pt_cmpR op_eq (pv 3) pe_int (nomark _))
        (pss_one (ps_ret (pe_op op_catA (pe_slice sl_tupA (pv 1) po_none (po_some (pv 4))) (pe_slice sl_tupA (pv 1) (po_some (pe_op op_add (pv 4) pe_int)) po_none))))
        pss_nil)
      (pss_cons (ps_if (pt_cmpR op_eq (pv 3) pe_int (nomark _))
        (pss_one (ps_ret (pe_op op_catA (pe_op op_catA (pe_slice sl_tupA (pv 1) po_none (po_some (pv 4))) (pe_tup (pa_cons (pe_ix ix_tup (pv 1) (pv 4) (fun _ _ => rfl)) pa_nil))) (pe_slice sl_tupA (pv 1) (po_some (pv 4)) po_none))))
        pss_nil)
      (C8.pss_cut (ps_if (PW.pt (pw_and (pt_cmpR op_eq (pv 3) pe_int (nomark _)) (pw_and1 (pt_cmpR op_gt (pe_callB call_len_seq (by rfl) T.z_len PySem.boot_len (pa_cons (pv 1) pa_nil)) pe_int (nomark _)))))
        (pss_cons (ps_set (i := 5) sc_law_spoilt.nd rfl (Or.inl rfl) (pe_call G_law_take (hr.mono (by omega)) (by rfl) T.g_law_take T.F_law_take.kp T.b_law_take .nil pass0 (pa_cons (pv 0) (pa_cons (pe_callB call_len_seq (by rfl) T.z_len PySem.boot_len (pa_cons (pv 1) pa_nil)) pa_nil))))
        (pss_cons (ps_par (i := 6) (j := 7) (by rfl) sc_law_spoilt.nd rfl rfl (by decide) rfl rfl (pa_cons (pv 4) (pa_cons (pv 5) pa_nil)) (by rfl))
        (C8.pss_cut (ps_if (pt_cmpR op_gt (pv 6) (pv 7) (nomark _))
          (pss_one (ps_par (i := 6) (j := 7) (by rfl) sc_law_spoilt.nd rfl rfl (by decide) rfl rfl (pa_cons (pv 5) (pa_cons (pv 4) pa_nil)) (by rfl)))
          pss_nil)
        (pss_one (ps_if (pt_cmpR op_lt (pv 6) (pv 7) (nomark _))
          (pss_one (ps_ret (pe_op op_catA (pe_op op_catA (pe_op op_catA (pe_op op_catA (pe_slice sl_tupA (pv 1) po_none (po_some (pv 6))) (pe_tup (pa_cons (pe_ix ix_tup (pv 1) (pv 7) (fun _ _ => rfl)) pa_nil))) (pe_slice sl_tupA (pv 1) (po_some (pe_op op_add (pv 6) pe_int)) (po_some (pv 7)))) (pe_tup (pa_cons (pe_ix ix_tup (pv 1) (pv 6) (fun _ _ => rfl)) pa_nil))) (pe_slice sl_tupA (pv 1) (po_some (pe_op op_add (pv 7) pe_int)) po_none))))
          pss_nil)))))
        pss_nil)
      (pss_one (ps_ret (pe_op op_catA (pe_op op_catA (pe_slice sl_tupA (pv 1) po_none (po_some (pv 4))) (pe_tup (pa_cons (pe_call G_law_spoilt (hr.mono (by omega)) (by rfl) T.g_law_spoilt T.F_law_spoilt.kp T.b_law_spoilt .nil pass0 (pa_cons (pv 0) (pa_cons (pe_ix ix_tup (pv 1) (pv 4) (fun _ _ => rfl)) (pa_cons (pe_op op_add (pv 2) pe_int) pa_nil)))) pa_nil))) (pe_slice sl_tupA (pv 1) (po_some (pe_op op_add (pv 4) pe_int)) po_none))))))))))))
    ), ?_⟩
    have hdp := hd0.dp
    obtain ⟨t1, ht1, hk1⟩ := isi_int hdp
    refine ⟨_, rfl, _, _, t1, _, _, rfl, .ty _, ht1, hk1, _, rfl, ?_⟩
    cases d with
    | none => exact absurd ht (by cases m <;> exact id)
    | bool _ => exact absurd ht (by cases m <;> exact id)
    | list _ => exact absurd ht (by cases m <;> exact id)
    | dict _ => exact absurd ht (by cases m <;> exact id)
    | int i =>
      have hi : 0 ≤ i ∧ i ≤ 9 := by cases m <;> exact ht
      have ev := dp_int hdp
      subst ev
      refine iteT ?_
      obtain ⟨so1, so2⟩ := strI i.toNat (by omega)
      rw [Int.toNat_of_nonneg hi.1] at so1 so2
      refine ⟨_, rfl, _, _, rfl, rfl, _, rfl, _, _, rfl, rfl, _, rfl, _, _, rfl, rfl, _, rfl, rfl, _, rfl, _, rfl, so2, _, rfl, (by show 1 ≤ sizeLine; decide), fun u hu => ⟨(by show 7 ≤ sizeLine; decide), fun L hL => ?_⟩⟩
      have s1 : Same H (upd H u (.tup [.int i])) := same_new _ hu
      have hu1 : upd H u (.tup [.int i]) u = some (.tup [.int i]) := upd_same
      have nu := (hh.ne hu).1
      generalize upd H u (.tup [.int i]) = H1 at s1 hu1 hL ⊢
      have x1 := HX.of hh s1
      have nL := (x1.hand.ne hL).1
      refine ⟨_, rfl, hd, dr, 7, rfl, (x1.new _ hL).hand, by decide, fun H3 k x3 k0 k1 => ?_⟩
      have x13 := (x1.new _ hL).trans x3
      have hL3 := x3.at nL upd_same
      have hu3 : H3 u = some (.tup [.int i]) := x3.at nu (same_new _ hL _ _ hu1)
      have : k = 0 ∨ k = 1 ∨ k = 2 ∨ k = 3 ∨ k = 4 ∨ k = 5 ∨ k = 6 := by omega
      rcases this with rfl | rfl | rfl | rfl | rfl | rfl | rfl
      · exact ⟨L, _, _, _, rfl, rfl, .inl (.inl hL3), rfl, q _ _ (.int (i + 1)) x13 (.int _) (by trivial)⟩
      · exact ⟨L, _, _, _, rfl, rfl, .inl (.inl hL3), rfl, q _ _ (.int (i - 1)) x13 (.int _) (by trivial)⟩
      · exact ⟨L, _, _, _, rfl, rfl, .inl (.inl hL3), rfl, q _ _ (.int (1 - i)) x13 (.int _) (by trivial)⟩
      · exact ⟨L, _, _, _, rfl, rfl, .inl (.inl hL3), rfl, q _ _ (.bool (decide (V.int i = V.int 1))) x13 (.bl _) (by trivial)⟩
      · exact ⟨L, _, _, _, rfl, rfl, .inl (.inl hL3), rfl, q _ _ .none x13 .non (by trivial)⟩
      · exact ⟨L, _, _, _, rfl, rfl, .inl (.inl hL3), rfl, q _ _ (.str (toString i)) x13 (.str _) so1⟩
      · exact ⟨L, _, _, _, rfl, rfl, .inl (.inl hL3), rfl, q _ _ (.tuple [.int i]) x13 (pap_mk nu hu3 (dpAll_one (.int i))) ⟨by simp, fun e he => by rw [List.mem_singleton.mp he]; trivial⟩⟩
    | str x =>
      have ev := dp_str hdp
      subst ev
      refine iteF ?_
      obtain ⟨t2, ht2, hk2⟩ := isi_str hdp
      refine ⟨_, rfl, _, _, t2, _, _, rfl, .ty _, ht2, hk2, _, rfl, iteT ?_⟩
      refine ⟨(by show 6 ≤ sizeLine; decide), fun L hL => ?_⟩
      have nL := (hh.ne hL).1
      refine ⟨_, rfl, hd, dr, 6, rfl, (HX.of hh (same_new _ hL)).hand, by decide, fun H3 k x3 k0 k1 => ?_⟩
      have x13 := (HX.of hh (same_new _ hL)).trans x3
      have hL3 := x3.at nL upd_same
      have : k = 0 ∨ k = 1 ∨ k = 2 ∨ k = 3 ∨ k = 4 ∨ k = 5 := by omega
      rcases this with rfl | rfl | rfl | rfl | rfl | rfl
      · exact ⟨L, _, _, _, rfl, rfl, .inl (.inl hL3), rfl, q _ _ (.str "chain") x13 (.str _) (show PyData.strOk "chain" = true by decide +kernel)⟩
      · exact ⟨L, _, _, _, rfl, rfl, .inl (.inl hL3), rfl, q _ _ (.str "ring") x13 (.str _) (show PyData.strOk "ring" = true by decide +kernel)⟩
      · exact ⟨L, _, _, _, rfl, rfl, .inl (.inl hL3), rfl, q _ _ (.str "sum") x13 (.str _) (show PyData.strOk "sum" = true by decide +kernel)⟩
      · exact ⟨L, _, _, _, rfl, rfl, .inl (.inl hL3), rfl, q _ _ (.str "split") x13 (.str _) (show PyData.strOk "split" = true by decide +kernel)⟩
      · exact ⟨L, _, _, _, rfl, rfl, .inl (.inl hL3), rfl, q _ _ (.str "x") x13 (.str _) (show PyData.strOk "x" = true by decide +kernel)⟩
      · exact ⟨L, _, _, _, rfl, rfl, .inl (.inl hL3), rfl, q _ _ .none x13 .non (by trivial)⟩
    | tuple ds =>
      obtain ⟨m', rfl, hdl, htd⟩ : ∃ m', m = m' + 1 ∧ ds.length ≤ 30 ∧ ∀ d ∈ ds, tidy m' d := by
        cases m with
        | zero => exact ht.elim
        | succ m' => exact ⟨m', rfl, ht⟩
      refine iteF ?_
      obtain ⟨t2, ht2, hk2⟩ := isi_str hdp
      refine ⟨_, rfl, _, _, t2, _, _, rfl, .ty _, ht2, hk2, _, rfl, iteF ?_⟩
      refine ⟨_, rfl, hd, dr, 7, rfl, hh, by decide, fun H1 kind x1 _ _ => ?_⟩
      have hd1 := hd0.sx x1.sx
      obtain ⟨a, xs, rfl, ha, hx⟩ := pap_tup hd1
      have hxl := dpAll_len hx
      refine ⟨_, rfl, a, xs, rfl, .inr ha, rfl, _, rfl, ?_⟩
      rw [dec_eq]
      by_cases hl0 : (xs.length : Int) = 0
      · refine ifT (decide_eq_true hl0) ?_
        refine ⟨_, rfl, (by show 3 ≤ sizeLine; decide), fun u1 hu1 => ⟨(by show 1 ≤ sizeLine; decide), fun u2 hu2 => ?_⟩⟩
        have s1 : Same H1 (upd H1 u1 (.tup [.int 0, .int 0, .int 0])) := same_new _ hu1
        have hu1' : PapAt K (upd H1 u1 (.tup [.int 0, .int 0, .int 0])) hd (.ref u1) (eI [0, 0, 0]) := pap_mk (x1.hand.ne hu1).1 upd_same (.cons (.int 0) (.cons (.int 0) (.cons (.int 0) .nil)))
        generalize upd H1 u1 (.tup [.int 0, .int 0, .int 0]) = H2 at s1 hu1' hu2 ⊢
        have hh2 := x1.hand.same s1
        have s2 : Same H2 (upd H2 u2 (.tup [.ref u1])) := same_new _ hu2
        have hu2' := pap_one hh2 hu2 hu1'
        generalize upd H2 u2 (.tup [.ref u1]) = H3 at s2 hu2' ⊢
        have hh3 := hh2.same s2
        refine cat_pap hh3 (hd1.same (s1.trans s2)) hu2' (by simp; omega) fun p1 H4 s4 hp1 => ?_
        have s14 := (s1.trans s2).trans s4
        have hh4 := x1.hand.same s14
        refine ⟨_, rfl, a, xs, rfl, .inr (sqT_same s14 ha), fun l hl => ?_⟩
        have s5 : Same H4 (upd H4 l (.lst xs)) := same_new _ hl
        have hl5 : PapAt K (upd H4 l (.lst xs)) hd (.ref l) (.list ds) := .lst (.inl (.inl (cut_at (hh4.ne hl).1 upd_same))) (dpAll_same (same_cut (s14.trans s5)) hx)
        generalize upd H4 l (.lst xs) = H5 at s5 hl5 ⊢
        have hh5 := hh4.same s5
        refine ⟨_, rfl, (by show 1 ≤ sizeLine; decide), fun u3 hu3 => ?_⟩
        have s6 : Same H5 (upd H5 u3 (.tup [.int 0])) := same_new _ hu3
        have hu3' : PapAt K (upd H5 u3 (.tup [.int 0])) hd (.ref u3) (.tuple [.int 0]) := pap_one hh5 hu3 (.int 0)
        generalize upd H5 u3 (.tup [.int 0]) = H6 at s6 hu3' ⊢
        have hh6 := hh5.same s6
        refine cat_pap hh6 (hd1.same ((s14.trans s5).trans s6)) hu3' (by simp; omega) fun p3 H7 s7 hp3 => ?_
        have s47 := (s5.trans s6).trans s7
        have x7 := x1.same (s14.trans s47)
        refine ⟨(by show 4 ≤ sizeLine; decide), fun L hL => ?_⟩
        have nL := (x7.hand.ne hL).1
        refine ⟨_, rfl, hd, dr, 4, rfl, (x7.new _ hL).hand, by decide, fun H9 k x9 k0 k1 => ?_⟩
        have x19 := (x7.new _ hL).trans x9
        have sx79 : SX hd H7 H9 := (sx_same (same_new _ hL)).trans x9.sx
        have hL9 := x9.at nL upd_same
        have hbig : ∀ e, (∀ d ∈ e, d ∈ ds ∨ d = eI [0, 0, 0] ∨ d = .int 0) → e.length ≤ 40 → fine (m' + 1 + 2) (.tuple e) := fun e he hle => ⟨by omega, fun d hd' => by
          rcases he d hd' with z | z | z
          · exact fine_mono (tidy_fine _ _ (htd d z)) (by omega)
          · rw [z]
            exact fine_ints (by simp) (m' + 1)
          · rw [z]
            trivial⟩
        have : k = 0 ∨ k = 1 ∨ k = 2 ∨ k = 3 := by omega
        rcases this with rfl | rfl | rfl | rfl
        · refine ⟨L, _, _, _, rfl, rfl, .inl (.inl hL9), rfl, q _ _ _ x19 ((hp1.same s47).sx sx79) (hbig _ (fun d hd' => ?_) (by simp; omega))⟩
          rcases List.mem_append.mp hd' with z | z
          · exact .inl z
          · exact .inr (.inl (List.mem_singleton.mp z))
        · exact ⟨L, _, _, _, rfl, rfl, .inl (.inl hL9), rfl, q _ _ _ x19 ((hl5.same (s6.trans s7)).sx sx79) (show ds.length ≤ 100 ∧ _ from ⟨by omega, fun d hd' => fine_mono (tidy_fine _ _ (htd d hd')) (by omega)⟩)⟩
        · refine ⟨L, _, _, _, rfl, rfl, .inl (.inl hL9), rfl, q _ _ _ x19 (hp3.sx sx79) (hbig _ (fun d hd' => ?_) (by simp; omega))⟩
          rcases List.mem_append.mp hd' with z | z
          · exact .inl z
          · exact .inr (.inr (List.mem_singleton.mp z))
        · exact ⟨L, _, _, _, rfl, rfl, .inl (.inl hL9), rfl, q _ _ .none x19 .non (by trivial)⟩
      refine ifF (decide_eq_false hl0) ?_
      refine ⟨_, rfl, rfl, _, rfl, ifB (fun _ => ?_) fun _ => ?_⟩
      · refine ⟨_, rfl, (by show 3 ≤ sizeLine; decide), fun u1 hu1 => ⟨(by show 1 ≤ sizeLine; decide), fun u2 hu2 => ?_⟩⟩
        have s1 : Same H1 (upd H1 u1 (.tup [.int 0, .int 0, .int 0])) := same_new _ hu1
        have hu1' : PapAt K (upd H1 u1 (.tup [.int 0, .int 0, .int 0])) hd (.ref u1) (eI [0, 0, 0]) := pap_mk (x1.hand.ne hu1).1 upd_same (.cons (.int 0) (.cons (.int 0) (.cons (.int 0) .nil)))
        generalize upd H1 u1 (.tup [.int 0, .int 0, .int 0]) = H2 at s1 hu1' hu2 ⊢
        have hh2 := x1.hand.same s1
        have s2 : Same H2 (upd H2 u2 (.tup [.ref u1])) := same_new _ hu2
        have hu2' := pap_one hh2 hu2 hu1'
        generalize upd H2 u2 (.tup [.ref u1]) = H3 at s2 hu2' ⊢
        have hh3 := hh2.same s2
        refine cat_pap hh3 (hd1.same (s1.trans s2)) hu2' (by simp; omega) fun p1 H4 s4 hp1 => ?_
        have s14 := (s1.trans s2).trans s4
        have hh4 := x1.hand.same s14
        refine ⟨_, rfl, a, xs, rfl, .inr (sqT_same s14 ha), fun l hl => ?_⟩
        have s5 : Same H4 (upd H4 l (.lst xs)) := same_new _ hl
        have hl5 : PapAt K (upd H4 l (.lst xs)) hd (.ref l) (.list ds) := .lst (.inl (.inl (cut_at (hh4.ne hl).1 upd_same))) (dpAll_same (same_cut (s14.trans s5)) hx)
        generalize upd H4 l (.lst xs) = H5 at s5 hl5 ⊢
        have hh5 := hh4.same s5
        refine ⟨_, rfl, (by show 1 ≤ sizeLine; decide), fun u3 hu3 => ?_⟩
        have s6 : Same H5 (upd H5 u3 (.tup [.int 0])) := same_new _ hu3
        have hu3' : PapAt K (upd H5 u3 (.tup [.int 0])) hd (.ref u3) (.tuple [.int 0]) := pap_one hh5 hu3 (.int 0)
        generalize upd H5 u3 (.tup [.int 0]) = H6 at s6 hu3' ⊢
        have hh6 := hh5.same s6
        refine cat_pap hh6 (hd1.same ((s14.trans s5).trans s6)) hu3' (by simp; omega) fun p3 H7 s7 hp3 => ?_
        have s47 := (s5.trans s6).trans s7
        have x7 := x1.same (s14.trans s47)
        refine ⟨(by show 4 ≤ sizeLine; decide), fun L hL => ?_⟩
        have nL := (x7.hand.ne hL).1
        refine ⟨_, rfl, hd, dr, 4, rfl, (x7.new _ hL).hand, by decide, fun H9 k x9 k0 k1 => ?_⟩
        have x19 := (x7.new _ hL).trans x9
        have sx79 : SX hd H7 H9 := (sx_same (same_new _ hL)).trans x9.sx
        have hL9 := x9.at nL upd_same
        have hbig : ∀ e, (∀ d ∈ e, d ∈ ds ∨ d = eI [0, 0, 0] ∨ d = .int 0) → e.length ≤ 40 → fine (m' + 1 + 2) (.tuple e) := fun e he hle => ⟨by omega, fun d hd' => by
          rcases he d hd' with z | z | z
          · exact fine_mono (tidy_fine _ _ (htd d z)) (by omega)
          · rw [z]
            exact fine_ints (by simp) (m' + 1)
          · rw [z]
            trivial⟩
        have : k = 0 ∨ k = 1 ∨ k = 2 ∨ k = 3 := by omega
        rcases this with rfl | rfl | rfl | rfl
        · refine ⟨L, _, _, _, rfl, rfl, .inl (.inl hL9), rfl, q _ _ _ x19 ((hp1.same s47).sx sx79) (hbig _ (fun d hd' => ?_) (by simp; omega))⟩
          rcases List.mem_append.mp hd' with z | z
          · exact .inl z
          · exact .inr (.inl (List.mem_singleton.mp z))
        · exact ⟨L, _, _, _, rfl, rfl, .inl (.inl hL9), rfl, q _ _ _ x19 ((hl5.same (s6.trans s7)).sx sx79) (show ds.length ≤ 100 ∧ _ from ⟨by omega, fun d hd' => fine_mono (tidy_fine _ _ (htd d hd')) (by omega)⟩)⟩
        · refine ⟨L, _, _, _, rfl, rfl, .inl (.inl hL9), rfl, q _ _ _ x19 (hp3.sx sx79) (hbig _ (fun d hd' => ?_) (by simp; omega))⟩
          rcases List.mem_append.mp hd' with z | z
          · exact .inl z
          · exact .inr (.inr (List.mem_singleton.mp z))
        · exact ⟨L, _, _, _, rfl, rfl, .inl (.inl hL9), rfl, q _ _ .none x19 .non (by trivial)⟩
      refine ⟨_, rfl, _, rfl, a, xs, rfl, .inr ha, hd, dr, _, rfl, x1.hand, by omega, fun H2 at_ x2 a0 a1 => ?_⟩
      have hat : at_.toNat < ds.length := by omega
      have hdi := List.getElem?_eq_getElem hat
      have hti := htd _ (List.getElem_mem hat)
      have hmi : ds[at_.toNat] ∈ ds := List.getElem_mem hat
      generalize ds[at_.toNat] = di at hdi hti hmi
      have x12 := x1.trans x2
      have hd2 := hd1.sx x2.sx
      have fineS : ∀ e : List PyData, (∀ d ∈ e, d ∈ ds ∨ fine (m' + 2) d) → e.length ≤ 100 → fine (m' + 1 + 2) (.tuple e) := fun e he hle => ⟨hle, fun d hd' => by
        rcases he d hd' with z | z
        · exact fine_mono (tidy_fine _ _ (htd d z)) (by omega)
        · exact z⟩
      refine ⟨_, rfl, rfl, _, rfl, ifB (fun _ => ?_) fun _ => ?_⟩
      · refine ⟨_, rfl, _, rfl, _, rfl, sl_pap x12.hand hd2 fun p1 H3 es1 s3 hp1 hl1 hm1 => ?_⟩
        refine ⟨_, rfl, _, rfl, _, _, rfl, rfl, _, rfl, ?_⟩
        unfold tNoPart
        refine sl_pap (lo := some (at_ + 1)) (hi := none) (x12.hand.same s3) (hd2.same s3) fun p2 H4 es2 s4 hp2 hl2 hm2 => ?_
        refine cat_pap (x12.hand.same (s3.trans s4)) (hp1.same s4) hp2 (by omega) fun p H5 s5 hp => ?_
        refine q _ _ _ (x12.same ((s3.trans s4).trans s5)) hp (fineS _ (fun d hd' => ?_) (by rw [List.length_append]; omega))
        rcases List.mem_append.mp hd' with z | z
        · exact .inl (hm1 d z)
        · exact .inl (hm2 d z)
      refine ⟨_, rfl, rfl, _, rfl, ifB (fun _ => ?_) fun _ => ?_⟩
      · refine ⟨_, rfl, _, rfl, _, rfl, sl_pap x12.hand hd2 fun p1 H3 es1 s3 hp1 hl1 hm1 => ?_⟩
        have hh3 := x12.hand.same s3
        obtain ⟨a', xs', x', ea, ha', hat', hx'⟩ := (hd2.same s3).at a0 hdi
        refine ⟨_, rfl, _, rfl, a', xs', at_, x', ea, rfl, ha', hat', (by show 1 ≤ sizeLine; decide), fun u hu => ?_⟩
        have s4 : Same H3 (upd H3 u (.tup [x'])) := same_new _ hu
        have hu' := pap_one hh3 hu hx'
        generalize upd H3 u (.tup [x']) = H4 at s4 hu' ⊢
        have hh4 := hh3.same s4
        refine cat_pap hh4 (hp1.same s4) hu' (by simp; omega) fun p2 H5 s5 hp2 => ?_
        have s25 := (s3.trans s4).trans s5
        refine ⟨_, rfl, _, rfl, _, rfl, ?_⟩
        unfold tNoPart
        refine sl_pap (lo := some at_) (hi := none) (x12.hand.same s25) (hd2.same s25) fun p3 H6 es3 s6 hp3 hl3 hm3 => ?_
        refine cat_pap (x12.hand.same (s25.trans s6)) (hp2.same s6) hp3 (by simp; omega) fun p H7 s7 hp => ?_
        refine q _ _ _ (x12.same ((s25.trans s6).trans s7)) hp (fineS _ (fun d hd' => ?_) (by simp; omega))
        rcases List.mem_append.mp hd' with z | z
        · rcases List.mem_append.mp z with z | z
          · exact .inl (hm1 d z)
          · rw [List.mem_singleton.mp z]
            exact .inl hmi
        · exact .inl (hm3 d z)
      have ha2 := sqT_im (x2.im x1.hand) ha
      refine ⟨fun σ H' => ∃ o5 o6 o7 : Option V, σ = [some (.ref hd), some (.ref a), some (.int dep), some (.int kind), some (.int at_), o5, o6, o7] ∧ HX hd dr H2 H', ?_, ?_⟩
      · refine ⟨_, rfl, rfl, _, rfl, ifB (fun _ => ?_) fun _ => ⟨_, _, _, rfl, HX.refl x12.hand⟩⟩
        refine ⟨_, rfl, a, xs, rfl, .inr ha2, _, _, rfl, rfl, _, rfl, ifB (fun _ => ?_) fun _ => ⟨_, _, _, rfl, HX.refl x12.hand⟩⟩
        refine ⟨_, rfl, _, rfl, a, xs, rfl, .inr ha2, hd, dr, _, rfl, x12.hand, by omega, fun H3 ot x3 o0 o1 => ?_⟩
        refine ⟨_, rfl, _, rfl, _, _, rfl, ?_⟩
        refine ⟨fun σ H' => ∃ lo hi : Int, σ = [some (.ref hd), some (.ref a), some (.int dep), some (.int kind), some (.int at_), some (.int ot), some (.int lo), some (.int hi)] ∧ H' = H3 ∧ 0 ≤ lo ∧ lo < (ds.length : Int) ∧ 0 ≤ hi ∧ hi < (ds.length : Int), ?_, ?_⟩
        · refine ⟨_, rfl, _, rfl, _, _, rfl, rfl, _, rfl, ifB (fun _ => ?_) fun _ => ⟨at_, ot, rfl, rfl, a0, by omega, o0, by omega⟩⟩
          exact ⟨_, rfl, _, rfl, _, _, rfl, ot, at_, rfl, rfl, o0, by omega, a0, by omega⟩
        · rintro σ H3' ⟨lo, hi, rfl, rfl, l0, l1, h0, h1⟩
          refine ⟨_, rfl, _, rfl, _, _, rfl, rfl, _, rfl, ifB (fun _ => ?_) fun _ => ⟨_, _, _, rfl, x3⟩⟩
          have hlt : lo.toNat < ds.length := by omega
          have hht : hi.toNat < ds.length := by omega
          have hdlo := List.getElem?_eq_getElem hlt
          have hdhi := List.getElem?_eq_getElem hht
          have hmlo : ds[lo.toNat] ∈ ds := List.getElem_mem hlt
          have hmhi : ds[hi.toNat] ∈ ds := List.getElem_mem hht
          generalize ds[lo.toNat] = dlo at hdlo hmlo
          generalize ds[hi.toNat] = dhi at hdhi hmhi
          have x13 := x12.trans x3
          have hd3 := hd2.sx x3.sx
          refine ⟨_, rfl, _, rfl, _, rfl, sl_pap x13.hand hd3 fun p1 H4 es1 s4 hp1 hl1 hm1 => ?_⟩
          obtain ⟨a', xs', x', ea, ha', hat', hx'⟩ := (hd3.same s4).at h0 hdhi
          refine ⟨_, rfl, _, rfl, a', xs', hi, x', ea, rfl, ha', hat', (by show 1 ≤ sizeLine; decide), fun u hu => ?_⟩
          have s5 : Same H4 (upd H4 u (.tup [x'])) := same_new _ hu
          have hu' := pap_one (x13.hand.same s4) hu hx'
          generalize upd H4 u (.tup [x']) = H5 at s5 hu' ⊢
          have s35 := s4.trans s5
          refine cat_pap (x13.hand.same s35) (hp1.same s5) hu' (by simp; omega) fun p2 H6 s6 hp2 => ?_
          have s36 := s35.trans s6
          refine ⟨_, rfl, _, rfl, _, _, rfl, rfl, _, rfl, _, rfl, _, rfl, sl_pap (x13.hand.same s36) (hd3.same s36) fun p3 H7 es3 s7 hp3 hl3 hm3 => ?_⟩
          have s37 := s36.trans s7
          refine cat_pap (x13.hand.same s37) (hp2.same s7) hp3 (by simp; omega) fun p4 H8 s8 hp4 => ?_
          have s38 := s37.trans s8
          obtain ⟨a2, xs2, x2', ea2, ha2', hat2, hx2⟩ := (hd3.same s38).at l0 hdlo
          refine ⟨_, rfl, _, rfl, a2, xs2, lo, x2', ea2, rfl, ha2', hat2, (by show 1 ≤ sizeLine; decide), fun u2 hu2 => ?_⟩
          have s9 : Same H8 (upd H8 u2 (.tup [x2'])) := same_new _ hu2
          have hu2' := pap_one (x13.hand.same s38) hu2 hx2
          generalize upd H8 u2 (.tup [x2']) = H9 at s9 hu2' ⊢
          have s39 := s38.trans s9
          refine cat_pap (x13.hand.same s39) (hp4.same s9) hu2' (by simp; omega) fun p5 H10 s10 hp5 => ?_
          have s310 := s39.trans s10
          refine ⟨_, rfl, _, rfl, _, _, rfl, rfl, _, rfl, ?_⟩
          unfold tNoPart
          refine sl_pap (lo := some (hi + 1)) (hi := none) (x13.hand.same s310) (hd3.same s310) fun p6 H11 es6 s11 hp6 hl6 hm6 => ?_
          have s311 := s310.trans s11
          refine cat_pap (x13.hand.same s311) (hp5.same s11) hp6 (by simp; omega) fun p H12 s12 hp => ?_
          refine q _ _ _ (x13.same (s311.trans s12)) hp (fineS _ (fun d hd' => ?_) (by simp; omega))
          rcases List.mem_append.mp hd' with z | z
          · rcases List.mem_append.mp z with z | z
            · rcases List.mem_append.mp z with z | z
              · rcases List.mem_append.mp z with z | z
                · exact .inl (hm1 d z)
                · rw [List.mem_singleton.mp z]
                  exact .inl hmhi
              · exact .inl (hm3 d z)
            · rw [List.mem_singleton.mp z]
              exact .inl hmlo
          · exact .inl (hm6 d z)
      · rintro σ H3 ⟨o5, o6, o7, rfl, x3⟩
        have x13 := x12.trans x3
        have hd3 := hd2.sx x3.sx
        refine ⟨_, rfl, _, rfl, _, rfl, sl_pap x13.hand hd3 fun p1 H4 es1 s4 hp1 hl1 hm1 => ?_⟩
        obtain ⟨a', xs', x', ea, ha', hat', hx'⟩ := (hd3.same s4).at a0 hdi
        refine ⟨_, rfl, _, rfl, _, rfl, a', xs', at_, x', ea, rfl, ha', hat', _, rfl, _, _, rfl, rfl, hd, dr, x', di, m', dep + 1, rfl, x13.hand.same s4, hx', hti, by omega, fun H5 v5 d5 x5 hp5 hf5 => ⟨(by show 1 ≤ sizeLine; decide), fun u hu => ?_⟩⟩
        have s6 : Same H5 (upd H5 u (.tup [v5])) := same_new _ hu
        have hu' := pap_one x5.hand hu hp5
        generalize upd H5 u (.tup [v5]) = H6 at s6 hu' ⊢
        have x46 := x5.same s6
        refine cat_pap x46.hand (hp1.sx x46.sx) hu' (by simp; omega) fun p2 H7 s7 hp2 => ?_
        have x47 := x46.same s7
        have x17 := (x13.same s4).trans x47
        refine ⟨_, rfl, _, rfl, _, _, rfl, rfl, _, rfl, ?_⟩
        unfold tNoPart
        refine sl_pap (lo := some (at_ + 1)) (hi := none) x47.hand ((hd3.same s4).sx x47.sx) fun p3 H8 es3 s8 hp3 hl3 hm3 => ?_
        refine cat_pap (x47.hand.same s8) (hp2.same s8) hp3 (by simp; omega) fun p H9 s9 hp => ?_
        refine q _ _ _ (x17.same (s8.trans s9)) hp (fineS _ (fun d hd' => ?_) (by simp; omega))
        rcases List.mem_append.mp hd' with z | z
        · rcases List.mem_append.mp z with z | z
          · exact .inl (hm1 d z)
          · rw [List.mem_singleton.mp z]
            exact .inr hf5
        · exact .inl (hm3 d z)
end
end EC


set_option Elab.async false
set_option linter.all false
set_option maxRecDepth 100000
set_option maxHeartbeats 4000000
namespace EC
open PySem PySem.Spec PyProof.Rows L2
theorem op_notBl {X : Cx} : OpR X (compareOp .IsNot) (fun x y H Q => ∃ a b, x = .bl a ∧ y = .bl b ∧ Q (.bl (!decide (a = b))) H) := by
  intro pins s σ H x y v u Q I rx ry h
  obtain ⟨a, b, rfl, rfl, q⟩ := h
  cases (show v = Value.bool a from rx)
  cases (show u = Value.bool b from ry)
  cases a <;> cases b <;> exact wpAny_isNot_plain rfl (fin_bl I q rfl)
def PapsAt (K : PySem.W.Frag) (H : Hp) (hd : Addr) (xs : List V) : Prop := ∀ x ∈ xs, ∃ d k, PapAt K H hd x d ∧ fine k d ∧ k ≤ 60
theorem PapsAt.sx {K : PySem.W.Frag} {H H' : Hp} {hd : Addr} {xs : List V} (s : SX hd H H') (h : PapsAt K H hd xs) : PapsAt K H' hd xs := fun x hx => let ⟨d, k, h1, h2⟩ := h x hx; ⟨d, k, h1.sx s, h2⟩
theorem PapsAt.append {K : PySem.W.Frag} {H : Hp} {hd : Addr} {xs ys : List V} (h : PapsAt K H hd xs) (g : PapsAt K H hd ys) : PapsAt K H hd (xs ++ ys) := fun x hx => (List.mem_append.mp hx).elim (h x) (g x)
theorem PapsAt.one {K : PySem.W.Frag} {H : Hp} {hd : Addr} {v : V} {d : PyData} {k : Nat} (h : PapAt K H hd v d) (hf : fine k d) (hk : k ≤ 60) : PapsAt K H hd [v] := fun x hx => by
  rw [List.mem_singleton.mp hx]
  exact ⟨d, k, h, hf, hk⟩
/-- papers without a list -/
def NicesAt (K : PySem.W.Frag) (H : Hp) (xs : List V) : Prop := ∀ x ∈ xs, ∃ d k, Dp K H x d ∧ nice k d ∧ k ≤ 50
theorem NicesAt.im {K : PySem.W.Frag} {H H' : Hp} {xs : List V} (e : Im H H') (h : NicesAt K H xs) : NicesAt K H' xs := fun x hx => let ⟨d, k, h1, h2, h3⟩ := h x hx; ⟨d, k, dp_im e h1 (nice_noL k d h2), h2, h3⟩
theorem NicesAt.append {K : PySem.W.Frag} {H : Hp} {xs ys : List V} (h : NicesAt K H xs) (g : NicesAt K H ys) : NicesAt K H (xs ++ ys) := fun x hx => (List.mem_append.mp hx).elim (h x) (g x)
theorem NicesAt.one {K : PySem.W.Frag} {H : Hp} {v : V} {d : PyData} {k : Nat} (h : Dp K H v d) (hf : nice k d) (hk : k ≤ 50) : NicesAt K H [v] := fun x hx => by
  rw [List.mem_singleton.mp hx]
  exact ⟨d, k, h, hf, hk⟩
theorem NicesAt.paps {K : PySem.W.Frag} {H : Hp} {hd dr : Addr} {xs : List V} (hh : HandAt H hd dr) (h : NicesAt K H xs) : PapsAt K H hd xs := fun x hx => let ⟨d, k, h1, h2, h3⟩ := h x hx; ⟨d, k, PapAt.of hh h1 h2, nice_fine k d h2, by omega⟩
theorem BookL.im {K : PySem.W.Frag} {H H' : Hp} {L : Addr} {bk : List Rel} (e : Im H H') (eL : ∀ xs, H L = some (.lst xs) → H' L = some (.lst xs)) (h : BookL K H L bk) : BookL K H' L bk := by
  obtain ⟨xs, h1, h2, h3⟩ := h
  exact ⟨xs, eL xs h1, h2, fun i rel hr => let ⟨x, q1, q2⟩ := h3 i rel hr; ⟨x, q1, q2.im e⟩⟩
theorem word6 {k : Int} (h0 : 0 ≤ k) (h1 : k < 6) : ∃ x : Str, atI [V.str "", .str "", .str "and", .str "majority", .str "odd one", .str "all no"] k = some (.str x) ∧ (x = "" ∨ x ∈ words) := by
  have : k = 0 ∨ k = 1 ∨ k = 2 ∨ k = 3 ∨ k = 4 ∨ k = 5 := by omega
  rcases this with rfl | rfl | rfl | rfl | rfl | rfl
  · exact ⟨"", rfl, .inl rfl⟩
  · exact ⟨"", rfl, .inl rfl⟩
  · exact ⟨"and", rfl, .inr (by decide +kernel)⟩
  · exact ⟨"majority", rfl, .inr (by decide +kernel)⟩
  · exact ⟨"odd one", rfl, .inr (by decide +kernel)⟩
  · exact ⟨"all no", rfl, .inr (by decide +kernel)⟩
theorem share3 {k : Int} (h0 : 0 ≤ k) (h1 : k < 3) : ∃ x : Int, atI [V.int 2, .int 4, .int 9] k = some (.int x) ∧ 0 < x := by
  have : k = 0 ∨ k = 1 ∨ k = 2 := by omega
  rcases this with rfl | rfl | rfl
  · exact ⟨2, rfl, by decide⟩
  · exact ⟨4, rfl, by decide⟩
  · exact ⟨9, rfl, by decide⟩
section
variable {P : Program} {w : World} {K : PySem.W.Frag} {mg : Str → Option Value} {base : Heap}
/-! ### law -/
def spLaw (K : PySem.W.Frag) : Sp := fun vs H Q _ => ∃ (a : Addr) (ns : List Int), vs = [.ref a] ∧ SqL K H a (ns.map V.int) ∧ ns.length ≤ 63 ∧ ∀ H', Q (.bl true) H'
theorem ok_law (T : Txt K mg) : Ok P w K mg base 40 d_law ["_law_script"] (spLaw K) := by
  have G_law_draws : Ok P w K mg base 1 d_law_draws ["_law_script", "_law_many"] (spDraws K) := ok_law_draws T
  have G_law_take : Ok P w K mg base 1 d_law_take ["_law_hand", "_law_many"] (spTake K) := ok_law_take T
  have G_law_book : Ok P w K mg base 4 d_law_book ["_law_hand", "_law_word"] (spBook K) := ok_law_book T
  have G_law_ties : Ok P w K mg base 2 d_law_ties ["_law_hand", "_law_book_here", "_law_cells", "_law_many"] (spTies K) := ok_law_ties T
  have G_law_start : Ok P w K mg base 2 d_law_start ["_law_hand", "_law_cells", "_law_share"] (spStartL K) := ok_law_start T
  have G_law_puzzle : Ok P w K mg base 6 d_law_puzzle ["_law_book_here", "_law_cells", "_law_ties_here"] (spPuzzle K) := ok_law_puzzle T
  have G_law_fillings : Ok P w K mg base 2 d_law_fillings ["_law_book_here", "_law_cells", "_law_ties_here", "_law_start_here"] (spFillings K) := ok_law_fillings T
  have G_law_drawn_paper : Ok P w K mg base 6 d_law_drawn_paper ["_law_hand", "_law_cells", "_law_ties_here", "_law_depth"] (spPaper K 3) := ok_law_drawn_paper T 3
  have G_law_refute : Ok P w K mg base 9 d_law_refute ["_law_hand", "_law_book_here", "_law_cells", "_law_ties_here", "_law_start_here"] (spRefute K 6) := ok_law_refute T 6
  have G_none_holds : Ok P w K mg base 7 d_none_holds ["puzzle", "start", "paper"] (spNone K) := ok_none_holds T
  have G_law_spoilt : Ok P w K mg base 21 d_law_spoilt ["_law_hand", "_law_part", "_law_depth"] (spSpoilt K 20) := ok_law_spoilt T 20
  have G_law_is_sound : Ok P w K mg base 11 d_law_is_sound ["_law_book_here", "_law_cells", "_law_ties_here", "_law_puzzle_here", "_law_start_here", "_law_paper", "_law_filled"] (spSound K) := ok_law_is_sound T
  refine T.F_law.ok (k := 39) sc_law (fun vs H Q E h => ?_) (fun cdv A outer s H vs Q E hr h => ?_)
  · obtain ⟨a, ns, rfl, _⟩ := h
    rfl
  obtain ⟨a, ns, rfl, hS, hl, q⟩ := h
  refine ⟨_, PSs.nox (
  (pss_cons (ps_set (i := 1) sc_law.nd rfl (Or.inr rfl) (pe_lst (pa_cons (pe_call G_law_draws (hr.mono (by omega)) (by rfl) T.g_law_draws T.F_law_draws.kp T.b_law_draws .nil pass0 (pa_cons (pv 0) (pa_cons pe_int pa_nil))) (pa_cons pe_int pa_nil))))
    (pss_cons (ps_set (i := 2) sc_law.nd rfl (Or.inl rfl) (pe_lst (pa_cons (pe_tup (pa_cons pe_str (pa_cons (pe_tup pa_nil) (pa_cons pe_int pa_nil)))) pa_nil)))
    (pss_cons (ps_for PassesOwn.never rfl (pi_range1 (by rfl) T.z_range (pa_cons pe_int pa_nil)) (pg_name (i := 3) sc_law.nd rfl (Or.inl rfl))
      (pss_cons (ps_set (i := 4) sc_law.nd rfl (Or.inl rfl) (pe_ix ix_list (pe_lst (pa_cons pe_str (pa_cons pe_str (pa_cons pe_str (pa_cons pe_str (pa_cons pe_str (pa_cons pe_str pa_nil))))))) (pe_call G_law_take (hr.mono (by omega)) (by rfl) T.g_law_take T.F_law_take.kp T.b_law_take .nil pass0 (pa_cons (pv 1) (pa_cons pe_int pa_nil))) (fun _ _ => rfl)))
      (pss_cons (ps_set (i := 5) sc_law.nd rfl (Or.inl rfl) (pe_call G_law_book (hr.mono (by omega)) (by rfl) T.g_law_book T.F_law_book.kp T.b_law_book .nil pass0 (pa_cons (pv 1) (pa_cons (pv 4) pa_nil))))
      (pss_cons (ps_set (i := 6) sc_law.nd rfl (Or.inr rfl) (pe_op op_add pe_int (pe_call G_law_take (hr.mono (by omega)) (by rfl) T.g_law_take T.F_law_take.kp T.b_law_take .nil pass0 (pa_cons (pv 1) (pa_cons pe_int pa_nil)))))
      (pss_cons (ps_set (i := 7) sc_law.nd rfl (Or.inr rfl) (pe_call G_law_ties (hr.mono (by omega)) (by rfl) T.g_law_ties T.F_law_ties.kp T.b_law_ties .nil pass0 (pa_cons (pv 1) (pa_cons (pv 5) (pa_cons (pv 6) (pa_cons (pe_op op_add pe_int (pe_call G_law_take (hr.mono (by omega)) (by rfl) T.g_law_take T.F_law_take.kp T.b_law_take .nil pass0 (pa_cons (pv 1) (pa_cons pe_int pa_nil)))) pa_nil))))))
      (pss_cons (ps_set (i := 8) sc_law.nd rfl (Or.inl rfl) (pe_call G_law_start (hr.mono (by omega)) (by rfl) T.g_law_start T.F_law_start.kp T.b_law_start .nil pass0 (pa_cons (pv 1) (pa_cons (pv 6) (pa_cons (pe_ix ix_list (pe_lst (pa_cons pe_int (pa_cons pe_int (pa_cons pe_int pa_nil)))) (pe_call G_law_take (hr.mono (by omega)) (by rfl) T.g_law_take T.F_law_take.kp T.b_law_take .nil pass0 (pa_cons (pv 1) (pa_cons pe_int pa_nil))) (fun _ _ => rfl)) pa_nil)))))
      (pss_cons (ps_set (i := 9) sc_law.nd rfl (Or.inl rfl) (pe_call G_law_puzzle (hr.mono (by omega)) (by rfl) T.g_law_puzzle T.F_law_puzzle.kp T.b_law_puzzle .nil pass0 (pa_cons (pv 5) (pa_cons (pv 6) (pa_cons (pv 7) pa_nil)))))
      (pss_cons (ps_set (i := 10) sc_law.nd rfl (Or.inl rfl) (pe_cmpR op_gt (pe_callB call_len_seq (by rfl) T.z_len PySem.boot_len (pa_cons (pe_call G_law_fillings (hr.mono (by omega)) (by rfl) T.g_law_fillings T.F_law_fillings.kp T.b_law_fillings .nil pass0 (pa_cons (pv 5) (pa_cons (pv 6) (pa_cons (pv 7) (pa_cons (pv 8) pa_nil))))) pa_nil)) pe_int (nomark _)))
      (pss_cons (ps_set (i := 11) sc_law.nd rfl (Or.inl rfl) (pe_op op_cat (pe_lc (own := [("_law_k", 14)]) rfl sc_law.nd (pi_range1 (by rfl) T.z_range (pa_cons pe_int pa_nil)) (blkOk_by (own := [("_law_k", 14)]) (N := ["_law_script", "_law_hand", "_law_kept", "_law_t", "_law_word", "_law_book_here", "_law_cells", "_law_ties_here", "_law_start_here", "_law_puzzle_here", "_law_filled", "_law_papers", "_law_paper", "_law_other", "_law_k"]) (sc := defScope s_law) (by decide +kernel)) (fun _ _ _ _ _ => (pg_name (i := 14) sc_law.nd rfl (Or.inl rfl))) (fun _ _ _ _ _ => pts_nil) (fun _ _ _ _ _ => (pe_call G_law_drawn_paper (hr.mono (by omega)) (by rfl) T.g_law_drawn_paper T.F_law_drawn_paper.kp T.b_law_drawn_paper .nil pass0 (pa_cons (pv 1) (pa_cons (pv 6) (pa_cons (pv 7) (pa_cons pe_int pa_nil))))))) (pv 2)))
      (C8.pss_cut (ps_if (pt_not (pt_val (pv 10)))
        (pss_cons (ps_set (i := 12) sc_law.nd rfl (Or.inl rfl) (pe_call G_law_refute (hr.mono (by omega)) (by rfl) T.g_law_refute T.F_law_refute.kp T.b_law_refute .nil pass0 (pa_cons (pv 1) (pa_cons (pv 5) (pa_cons (pv 6) (pa_cons (pv 7) (pa_cons (pv 8) pa_nil)))))))
        (pss_cons (ps_if (pt_cmpR op_notBl (pe_call G_none_holds (hr.mono (by omega)) (by rfl) T.g_none_holds T.F_none_holds.kp T.b_none_holds .nil pass0 (pa_cons (pv 9) (pa_cons (pv 8) (pa_cons (pv 12) pa_nil)))) pe_bl (nomark _))
          (pss_one (ps_ret pe_bl))
          pss_nil)
        (pss_cons (ps_expr (pe_bm PySem.F.plainAttrs_list PySem.F.slot_list_append PySem.F.type_list_append mt_append (pv 2) (pa_cons (pv 12) pa_nil)))
        (pss_one (ps_set (i := 11) sc_law.nd rfl (Or.inl rfl) (pe_op op_cat (pv 11) (pe_lst (pa_cons (pv 12) (pa_cons (pe_call G_law_spoilt (hr.mono (by omega)) (by rfl) T.g_law_spoilt T.F_law_spoilt.kp T.b_law_spoilt .nil pass0 (pa_cons (pv 1) (pa_cons (pv 12) (pa_cons pe_int pa_nil)))) (pa_cons (pe_call G_law_spoilt (hr.mono (by omega)) (by rfl) T.g_law_spoilt T.F_law_spoilt.kp T.b_law_spoilt .nil pass0 (pa_cons (pv 1) (pa_cons (pv 12) (pa_cons pe_int pa_nil)))) pa_nil))))))))))
        pss_nil)
      (pss_cons (ps_for PassesOwn.never rfl (pi_list (pv 11)) (pg_name (i := 12) sc_law.nd rfl (Or.inl rfl))
        (pss_one (ps_if (pt_not (pt_val (pe_call G_law_is_sound (hr.mono (by omega)) (by rfl) T.g_law_is_sound T.F_law_is_sound.kp T.b_law_is_sound .nil pass0 (pa_cons (pv 5) (pa_cons (pv 6) (pa_cons (pv 7) (pa_cons (pv 9) (pa_cons (pv 8) (pa_cons (pv 12) (pa_cons (pv 10) pa_nil))))))))))
          (pss_one (ps_ret pe_bl))
          pss_nil)))
      (pss_cons (ps_set (i := 13) sc_law.nd rfl (Or.inl rfl) (pe_call G_law_start (hr.mono (by omega)) (by rfl) T.g_law_start T.F_law_start.kp T.b_law_start .nil pass0 (pa_cons (pv 1) (pa_cons (pv 6) (pa_cons pe_int pa_nil)))))
      (pss_cons (ps_set (i := 10) sc_law.nd rfl (Or.inl rfl) (pe_cmpR op_gt (pe_callB call_len_seq (by rfl) T.z_len PySem.boot_len (pa_cons (pe_call G_law_fillings (hr.mono (by omega)) (by rfl) T.g_law_fillings T.F_law_fillings.kp T.b_law_fillings .nil pass0 (pa_cons (pv 5) (pa_cons (pv 6) (pa_cons (pv 7) (pa_cons (pv 13) pa_nil))))) pa_nil)) pe_int (nomark _)))
      (pss_one (ps_for PassesOwn.never rfl (pi_list (pe_slice sl_list (pv 11) (po_some pe_int) po_none)) (pg_name (i := 12) sc_law.nd rfl (Or.inl rfl))
        (pss_one (ps_if (pt_not (pt_val (pe_call G_law_is_sound (hr.mono (by omega)) (by rfl) T.g_law_is_sound T.F_law_is_sound.kp T.b_law_is_sound .nil pass0 (pa_cons (pv 5) (pa_cons (pv 6) (pa_cons (pv 7) (pa_cons (pv 9) (pa_cons (pv 13) (pa_cons (pv 12) (pa_cons (pv 10) pa_nil))))))))))
          (pss_one (ps_ret pe_bl))
          pss_nil)))))))))))))))))
    (pss_one (ps_ret pe_bl)))))
  ), ?_⟩
  refine ⟨_, rfl, a, ns, rfl, hS, hl, fun H1 dr dn s1 hdn hdl => ⟨(by show 2 ≤ sizeLine; decide), fun hd hhd => ?_⟩⟩
  have hh2 : HandAt (upd H1 hd (.lst [.ref dr, .int 0])) hd dr := ⟨0, dn, upd_same, ne_of_none hdl hhd, by rw [upd_ne (ne_of_none hdl hhd)]; exact hdl⟩
  generalize upd H1 hd (.lst [.ref dr, .int 0]) = H2 at hh2 ⊢
  refine ⟨(by show 0 ≤ sizeLine; exact Nat.zero_le _), fun u0 hu0 => ⟨(by show 3 ≤ sizeLine; decide), fun u1 hu1 => ⟨(by show 1 ≤ sizeLine; decide), fun Kp hKp => ?_⟩⟩⟩
  have s3 : Same H2 (upd H2 u0 (.tup [])) := same_new _ hu0
  have hu03 : PapAt K (upd H2 u0 (.tup [])) hd (.ref u0) (.tuple []) := pap_mk (hh2.ne hu0).1 upd_same .nil
  generalize upd H2 u0 (.tup []) = H3 at s3 hu03 hu1 hKp ⊢
  have hh3 := hh2.same s3
  have s4 : Same H3 (upd H3 u1 (.tup [.str "chain", .ref u0, .int 0])) := same_new _ hu1
  have hu14 : PapAt K (upd H3 u1 (.tup [.str "chain", .ref u0, .int 0])) hd (.ref u1) (.tuple [.str "chain", .tuple [], .int 0]) := pap_mk (hh3.ne hu1).1 upd_same (.cons (.str _) (.cons (hu03.same s4) (.cons (.int 0) .nil)))
  generalize upd H3 u1 (.tup [.str "chain", .ref u0, .int 0]) = H4 at s4 hu14 hKp ⊢
  have hh4 := hh3.same s4
  have f0 : nice 2 (.tuple [.str "chain", .tuple [], .int 0]) := ⟨by simp, fun e he => by
    simp only [List.mem_cons, List.not_mem_nil, or_false] at he
    rcases he with rfl | rfl | rfl
    · exact show PyData.strOk "chain" = true by decide +kernel
    · exact ⟨by simp, fun d h => (nomatch h)⟩
    · trivial⟩
  have nKp := (hh4.ne hKp).1
  have x5 := HX.of hh4 (same_new (.lst [.ref u1]) hKp)
  refine ⟨_, rfl, by decide, by decide, for_range (n := 2) (fun i σ H' => ∃ (o3 o4 o5 o6 o7 o8 o9 o10 o11 o12 o13 : Option V) (kacc : List V), σ = [some (.ref a), some (.ref hd), some (.ref Kp), o3, o4, o5, o6, o7, o8, o9, o10, o11, o12, o13, none] ∧ HX hd dr H4 H' ∧ H' Kp = some (.lst kacc) ∧ NicesAt K H' kacc ∧ kacc.length ≤ 1 + i)
    ⟨_, _, _, _, _, _, _, _, _, _, _, [.ref u1], rfl, x5, upd_same, (NicesAt.one hu14.dp f0 (by decide)).im (im_same (same_new _ hKp)), Nat.le_refl _⟩ ?_ ?_⟩
  · rintro i σ H5 hi ⟨o3, o4, o5, o6, o7, o8, o9, o10, o11, o12, o13, kacc, rfl, x5, hkl, hkp, hkn⟩
    refine ⟨(by show 6 ≤ sizeLine; decide), fun L1 hL1 => ?_⟩
    have x6 := x5.new (.lst [V.str "", .str "", .str "and", .str "majority", .str "odd one", .str "all no"]) hL1
    have hL1l : upd H5 L1 (.lst [V.str "", .str "", .str "and", .str "majority", .str "odd one", .str "all no"]) L1 = some (.lst [V.str "", .str "", .str "and", .str "majority", .str "odd one", .str "all no"]) := upd_same
    have nL1 := (x5.hand.ne hL1).1
    have s56 : Same H5 (upd H5 L1 (.lst [V.str "", .str "", .str "and", .str "majority", .str "odd one", .str "all no"])) := same_new _ hL1
    generalize upd H5 L1 (.lst [V.str "", .str "", .str "and", .str "majority", .str "odd one", .str "all no"]) = H6 at x6 hL1l s56 ⊢
    refine ⟨_, rfl, hd, dr, 6, rfl, x6.hand, by decide, fun H7 k x67 k0 k1 => ?_⟩
    obtain ⟨x, hx, hxw⟩ := word6 k0 k1
    refine ⟨L1, _, k, _, rfl, rfl, .inl (.inl (x67.at nL1 hL1l)), hx, ?_⟩
    -- the book
    refine ⟨_, rfl, _, rfl, hd, dr, x, rfl, x67.hand, hxw, fun H8 L bk x78 hLn hB8 hb1 hb6 hrg => ?_⟩
    have nL := (x67.hand.ne hLn).1
    have hLK : L ≠ Kp := by
      rintro rfl
      rw [x67.at nKp (s56 _ _ hkl)] at hLn
      cases hLn
    refine ⟨_, rfl, hd, dr, 5, rfl, x78.hand, by decide, fun H9 c x89 c0 c1 => ⟨_, _, rfl, rfl, ?_⟩⟩
    obtain ⟨j, rfl⟩ : ∃ j : Nat, c = (j : Int) := ⟨c.toNat, (Int.toNat_of_nonneg c0).symm⟩
    have hB9 := hB8.hx x89 x78.hand nL
    -- ties
    refine ⟨_, rfl, _, rfl, _, rfl, _, rfl, hd, dr, 6, rfl, x89.hand, by decide, fun H10 c2 x910 c20 c21 => ⟨_, _, rfl, rfl, ?_⟩⟩
    obtain ⟨j2, rfl⟩ : ∃ j : Nat, c2 = (j : Int) := ⟨c2.toNat, (Int.toNat_of_nonneg c20).symm⟩
    have hB10 := hB9.hx x910 x89.hand nL
    refine ⟨hd, dr, L, 1 + j, 1 + j2, bk, rfl, x910.hand, nL, hB10, hb1, hb6, hrg, by omega, by omega, by omega, fun H11 tv ties x1011 hT11 htl htg => ?_⟩
    have hB11 := hB10.hx x1011 x910.hand nL
    have hG : Good bk ties (1 + j) := ⟨hb1, hb6, hrg, by omega, by omega, by omega, by omega, htg⟩
    have hT11' := hT11
    obtain ⟨ta, _, rfl, _⟩ := hT11'
    -- start
    refine ⟨_, rfl, _, rfl, (by show 3 ≤ sizeLine; decide), fun L2' hL2 => ?_⟩
    have s1112 : Same H11 (upd H11 L2' (.lst [V.int 2, .int 4, .int 9])) := same_new _ hL2
    have hL2l : upd H11 L2' (.lst [V.int 2, .int 4, .int 9]) L2' = some (.lst [V.int 2, .int 4, .int 9]) := upd_same
    have nL2 := (x1011.hand.ne hL2).1
    generalize upd H11 L2' (.lst [V.int 2, .int 4, .int 9]) = H12 at s1112 hL2l ⊢
    have x1012 := x1011.same s1112
    refine ⟨_, rfl, hd, dr, 3, rfl, x1012.hand, by decide, fun H13 k3 x1213 k30 k31 => ?_⟩
    obtain ⟨sh, hsh, hsh0⟩ := share3 k30 k31
    refine ⟨L2', _, k3, _, rfl, rfl, .inl (.inl (x1213.at nL2 hL2l)), hsh, ?_⟩
    refine ⟨hd, dr, 1 + j, sh, rfl, x1213.hand, by omega, hsh0, fun H14 so st x1314 hS14 S => ?_⟩
    have x1114 : HX hd dr H11 H14 := ⟨((sx_same s1112).trans x1213.sx).trans x1314.sx, x1314.hand⟩
    have hB14 := hB11.hx x1114 x1011.hand nL
    have hT14 := hT11.im (x1114.im x1011.hand)
    -- puzzle
    refine ⟨_, rfl, _, rfl, _, rfl, L, 1 + j, .ref ta, bk, ties, rfl, hB14, hG, hT14, fun H15 pz bk' s1415 hP15 lk hG' => ?_⟩
    have hB15 := hB14.same s1415
    have hT15 := hT14.im (im_same s1415)
    have hS15 := hS14.im (im_same s1415)
    -- fillings
    refine ⟨_, rfl, _, rfl, _, rfl, _, rfl, L, so, 1 + j, .ref ta, bk, ties, st, rfl, hB15, hG, hT15, hS15, S, fun H16 R rs s1516 hRn hR hfil => ?_⟩
    refine ⟨R, rs, rfl, .inl (.inl (.inl hR)), _, _, rfl, rfl, ?_⟩
    have efil : decide ((0 : Int) < (rs.length : Int)) = filled bk ties (1 + j) st := by
      rw [← hfil, decide_eq_decide]
      omega
    have x1116 := x1114.same (s1415.trans s1516)
    have x516 : HX hd dr H5 H16 := ⟨((((((sx_same s56).trans x67.sx).trans x78.sx).trans x89.sx).trans x910.sx).trans x1011.sx).trans x1116.sx, x1116.hand⟩
    have x416 := x5.trans x516
    have hkl16 := x516.at nKp hkl
    have hkp16 := hkp.im (x516.im x5.hand)
    have hB16 := hB15.same s1516
    have hT16 := hT15.im (im_same s1516)
    have hS16 := hS15.im (im_same s1516)
    have hP16 := hP15.im (im_same s1516)
    -- the papers
    refine ⟨_, rfl, by decide, by decide, fun D hD => lc_range (n := 6) (fun e H' => HX hd dr H16 H' ∧ ∃ acc : List V, H' D = some (.lst acc) ∧ NicesAt K H' acc ∧ acc.length = e)
      ⟨(HX.refl x416.hand).new _ hD, [], upd_same, fun x h => (nomatch h), rfl⟩ ?_ ?_⟩
    · rintro e H17 he ⟨x1617, acc, hacc, hap, hal⟩
      have nD := (x416.hand.ne hD).1
      refine ⟨rfl, _, rfl, _, rfl, _, rfl, hd, dr, ta, 1 + j, 2, bk, ties, rfl, x1617.hand, hG, hT16.im (x1617.im x416.hand), by decide, fun H18 v d x1718 hd18 hni => ?_⟩
      have hacc18 := x1718.at nD hacc
      have x1618 := x1617.trans x1718
      have im19 : Im H18 (upd H18 D (.lst (acc ++ [v]))) := im_mut _ hacc18 rfl
      exact ⟨acc, hacc18, small1000 (by omega), x1618.mut (.lst (acc ++ [v])) x416.hand hD, acc ++ [v], upd_same, ((hap.im (x1718.im x1617.hand)).append (NicesAt.one hd18 hni (by decide))).im im19, by rw [List.length_append, hal]; rfl⟩
    rintro H17 ⟨x1617, acc, hacc, hap, hal⟩
    have hkl17 := x1617.at nKp hkl16
    have hkp17 := hkp16.im (x1617.im x416.hand)
    refine ⟨_, rfl, D, Kp, acc, kacc, rfl, rfl, hacc, hkl17, Nat.le_of_lt (small1000 (by omega)), fun Pp hPp => ?_⟩
    have s1718 : Same H17 (upd H17 Pp (.lst (acc ++ kacc))) := same_new _ hPp
    have hPl : upd H17 Pp (.lst (acc ++ kacc)) Pp = some (.lst (acc ++ kacc)) := upd_same
    have hPK : Pp ≠ Kp := by
      rintro rfl
      rw [hkl17] at hPp
      cases hPp
    have nP := (x1617.hand.ne hPp).1
    generalize upd H17 Pp (.lst (acc ++ kacc)) = H18 at s1718 hPl ⊢
    have x1618 := x1617.same s1718
    have hkl18 := s1718 _ _ hkl17
    have hpap18 := (hap.append hkp17).im (im_same s1718)
    have hkp18 := hkp17.im (im_same s1718)
    have im1618 := x1618.im x416.hand
    have hB18 := hB16.hx x1618 x416.hand nL
    have x418 := x416.trans x1618
    -- what stands behind the if
    refine ⟨fun σ H' => ∃ (o12 o13 : Option V) (Pq : Addr) (pacc kacc' : List V), σ = [some (.ref a), some (.ref hd), some (.ref Kp), some (.int (0 + (i : Nat))), some (.str x), some (.ref L), some (.int (1 + (j : Int))), some (.ref ta), some (.ref so), some (.ref pz), some (.bl (filled bk ties (1 + j) st)), some (.ref Pq), o12, o13, none] ∧ HX hd dr H4 H' ∧ Im H18 H' ∧ BookL K H' L bk ∧ H' Kp = some (.lst kacc') ∧ NicesAt K H' kacc' ∧ kacc'.length ≤ 1 + (i + 1) ∧ Pq ≠ hd ∧ H' Pq = some (.lst pacc) ∧ PapsAt K H' hd pacc, ?_, ?_⟩
    · refine ⟨_, rfl, _, rfl, ?_⟩
      by_cases hb : (0 : Int) < (rs.length : Int)
      · refine ifNT (decide_eq_true hb) ?_
        exact ⟨_, _, Pp, _, kacc, by rw [← efil]; rfl, x418, Im.refl _, hB18, hkl18, hkp18, by omega, nP, hPl, hpap18.paps x1618.hand⟩
      · refine ifNF (decide_eq_false hb) ?_
        have hfilF : filled bk ties (1 + j) st = false := by
          rw [← efil]
          exact decide_eq_false hb
        have hT18 := hT16.im im1618
        have hS18 := hS16.im im1618
        refine ⟨_, rfl, _, rfl, _, rfl, _, rfl, _, rfl, hd, dr, L, ta, so, 1 + j, bk, ties, st, rfl, x1618.hand, nL, hB18, hG, hT18, hS18, S, hfilF, by have := freeN_le (1 + j) (lookS st); omega, fun H19 v d x19 hd19 htd hj => ?_⟩
        have im19 := x19.im x1618.hand
        refine ⟨_, rfl, _, rfl, _, rfl, pz, so, v, d, 9, 1 + j, bk', ties, st, rfl, (hP16.im im1618).im im19, hG', hS18.im im19, S, hd19, tidy_fine _ _ htd, by decide, fun H20 s20 => ?_⟩
        rw [lk.va, hj]
        refine ⟨_, _, rfl, rfl, _, rfl, iteF ?_⟩
        have x1820 := x19.same s20
        have hkl20 := x1820.at nKp hkl18
        have hP20 := x1820.at nP hPl
        have im1820 := x1820.im x1618.hand
        have hpap20 := hpap18.im im1820
        have hkp20 := hkp18.im im1820
        have hd20 := dp_same s20 hd19
        have hB20 := hB18.hx x1820 x1618.hand nL
        refine ⟨_, rfl, .inl ⟨rfl, _, .inl (.inl hkl20)⟩, _, rfl, Kp, kacc, _, rfl, rfl, hkl20, small1000 (by omega), ?_⟩
        have x421 := (x418.trans x1820).mut (.lst (kacc ++ [v])) hh4 hKp
        have im2021 : Im H20 (upd H20 Kp (.lst (kacc ++ [v]))) := im_mut _ hkl20 rfl
        have hkl21 : upd H20 Kp (.lst (kacc ++ [v])) Kp = some (.lst (kacc ++ [v])) := upd_same
        have hP21 : upd H20 Kp (.lst (kacc ++ [v])) Pp = some (.lst (acc ++ kacc)) := by
          rw [upd_ne hPK]
          exact hP20
        have hB21 : BookL K (upd H20 Kp (.lst (kacc ++ [v]))) L bk := hB20.im im2021 fun xs h => by
          rw [upd_ne hLK]
          exact h
        generalize upd H20 Kp (.lst (kacc ++ [v])) = H21 at x421 im2021 hkl21 hP21 hB21 ⊢
        have hd21 := dp_im im2021 hd20 (nice_noL _ _ (tidy_nice _ _ htd))
        have hpv : PapAt K H21 hd v d := PapAt.of x421.hand hd21 (tidy_nice _ _ htd)
        have hkp21 : NicesAt K H21 (kacc ++ [v]) := (hkp20.im im2021).append (NicesAt.one hd21 (tidy_nice _ _ htd) (by decide))
        have hpap21 := (hpap20.im im2021).paps x421.hand
        refine ⟨_, rfl, _, rfl, _, rfl, _, rfl, hd, dr, v, d, 9, 0, rfl, x421.hand, hpv, htd, by decide, fun H22 v2 d2 x22 hp22 hf22 => ?_⟩
        refine ⟨_, rfl, _, rfl, hd, dr, v, d, 9, 0, rfl, x22.hand, hpv.sx x22.sx, htd, by decide, fun H23 v3 d3 x23 hp23 hf23 => ⟨(by show 3 ≤ sizeLine; decide), fun Lq hLq => ?_⟩⟩
        have s24 : Same H23 (upd H23 Lq (.lst [v, v2, v3])) := same_new _ hLq
        have hLq' : upd H23 Lq (.lst [v, v2, v3]) Lq = some (.lst [v, v2, v3]) := upd_same
        generalize upd H23 Lq (.lst [v, v2, v3]) = H24 at s24 hLq' ⊢
        have x2124 := (x22.trans x23).same s24
        refine ⟨Pp, Lq, _, _, rfl, rfl, x2124.at nP hP21, hLq', Nat.le_of_lt (small1000 (by simp; omega)), fun Pq hPq => ?_⟩
        have s25 : Same H24 (upd H24 Pq (.lst ((acc ++ kacc) ++ [v, v2, v3]))) := same_new _ hPq
        have x2125 := x2124.same s25
        have s2325 := s24.trans s25
        refine ⟨_, _, Pq, _, kacc ++ [v], by rw [← efil]; rfl, x421.trans x2125, (im1820.trans im2021).trans (x2125.im x421.hand), hB21.hx x2125 x421.hand nL, x2125.at nKp hkl21, hkp21.im (x2125.im x421.hand), by rw [List.length_append, List.length_singleton]; omega, (x2124.hand.ne hPq).1, upd_same, (hpap21.sx x2125.sx).append fun y hy => ?_⟩
        simp only [List.mem_cons, List.not_mem_nil, or_false] at hy
        rcases hy with rfl | rfl | rfl
        · exact ⟨d, 9, hpv.sx x2125.sx, tidy_fine _ _ htd, by decide⟩
        · exact ⟨d2, 11, (hp22.sx x23.sx).same s2325, hf22, by decide⟩
        · exact ⟨d3, 11, hp23.same s2325, hf23, by decide⟩
    · rintro σ H19 ⟨o12, o13, Pq, pacc, kacc', rfl, x419, im19, hB19, hkl19, hkp19, hkn19, nPq, hPq, hpaps⟩
      have im1619 := im1618.trans im19
      have hT19 := hT16.im im1619
      have hS19 := hS16.im im1619
      have hP19 := hP16.im im1619
      refine ⟨_, rfl, Pq, rfl, ⟨_, .inl (.inl hPq)⟩, for_list (xs := pacc) (fun e σ H' => ∃ (o12 : Option V), σ = [some (.ref a), some (.ref hd), some (.ref Kp), some (.int (0 + (i : Nat))), some (.str x), some (.ref L), some (.int (1 + (j : Int))), some (.ref ta), some (.ref so), some (.ref pz), some (.bl (filled bk ties (1 + j) st)), some (.ref Pq), o12, o13, none] ∧ Same H19 H')
        ⟨_, rfl, .refl _⟩ (fun e σ H' _ h => by obtain ⟨_, _, s⟩ := h; exact .inl (.inl (s _ _ hPq))) ?_ ?_⟩
      · rintro e v σ H20 he ⟨o12, rfl, s20⟩
        obtain ⟨d, k, hp, hf, hk⟩ := hpaps v (List.mem_of_getElem? he)
        exact ⟨_, rfl, _, rfl, _, rfl, _, rfl, _, rfl, _, rfl, _, rfl, L, ta, so, pz, v, d, k, 1 + j, bk, bk', ties, st, rfl, hB19.same s20, hG, hT19.im (im_same s20), hP19.im (im_same s20), lk, hG', hS19.im (im_same s20), S, (hp.same s20).dp, hf, hk, fun H21 s21 => ⟨_, rfl, iteF ⟨_, rfl, s20.trans s21⟩⟩⟩
      rintro σ H20 ⟨o12, rfl, s20⟩
      have x420 := x419.same s20
      refine ⟨_, rfl, _, rfl, hd, dr, 1 + j, 5, rfl, x420.hand, by omega, by decide, fun H21 so2 st2 x21 hS21 S2 => ?_⟩
      have im21 := x21.im x420.hand
      have hB21 := (hB19.same s20).hx x21 x420.hand nL
      have hT21 := (hT19.im (im_same s20)).im im21
      have hP21 := (hP19.im (im_same s20)).im im21
      refine ⟨_, rfl, _, rfl, _, rfl, _, rfl, L, so2, 1 + j, .ref ta, bk, ties, st2, rfl, hB21, hG, hT21, hS21, S2, fun H22 R2 rs2 s22 _ hR2 hfil2 => ?_⟩
      refine ⟨R2, rs2, rfl, .inl (.inl (.inl hR2)), _, _, rfl, rfl, ?_⟩
      have efil2 : decide ((0 : Int) < (rs2.length : Int)) = filled bk ties (1 + j) st2 := by
        rw [← hfil2, decide_eq_decide]
        omega
      have x422 := (x420.trans x21).same s22
      have sx1922 : SX hd H19 H22 := ((sx_same s20).trans x21.sx).trans (sx_same s22)
      have hPq22 := sx1922 _ _ nPq hPq
      have hpaps22 := hpaps.sx sx1922
      have hkl22 := sx1922 _ _ nKp hkl19
      have hkp22 := (hkp19.im (im_same s20)).im (im21.trans (im_same s22))
      have hB22 := hB21.same s22
      have hT22 := hT21.im (im_same s22)
      have hP22 := hP21.im (im_same s22)
      have hS22 := hS21.im (im_same s22)
      refine ⟨_, rfl, _, rfl, ?_⟩
      unfold tNoPart
      refine ⟨Pq, pacc, rfl, .inl (.inl hPq22), fun p hp => ?_⟩
      have s23 : Same H22 (upd H22 p (.lst (cutV pacc (some 6) none))) := same_new _ hp
      have hp23 : upd H22 p (.lst (cutV pacc (some 6) none)) p = some (.lst (cutV pacc (some 6) none)) := upd_same
      generalize upd H22 p (.lst (cutV pacc (some 6) none)) = H23 at s23 hp23 ⊢
      refine ⟨p, rfl, ⟨_, .inl (.inl hp23)⟩, for_list (xs := cutV pacc (some 6) none) (fun e σ H' => ∃ (o12 : Option V), σ = [some (.ref a), some (.ref hd), some (.ref Kp), some (.int (0 + (i : Nat))), some (.str x), some (.ref L), some (.int (1 + (j : Int))), some (.ref ta), some (.ref so), some (.ref pz), some (.bl (filled bk ties (1 + j) st2)), some (.ref Pq), o12, some (.ref so2), none] ∧ Same H22 H' ∧ H' p = some (.lst (cutV pacc (some 6) none)))
        ⟨o12, by rw [← efil2]; rfl, s23, hp23⟩ (fun e σ H' _ h => by obtain ⟨_, _, _, s⟩ := h; exact .inl (.inl s)) ?_ ?_⟩
      · rintro e v σ H24 he ⟨o12, rfl, s24, hp24⟩
        have hv : v ∈ pacc := List.mem_of_mem_drop (List.mem_of_mem_take (List.mem_of_getElem? he))
        obtain ⟨d, k, hp, hf, hk⟩ := hpaps22 v hv
        exact ⟨_, rfl, _, rfl, _, rfl, _, rfl, _, rfl, _, rfl, _, rfl, L, ta, so2, pz, v, d, k, 1 + j, bk, bk', ties, st2, rfl, hB22.same s24, hG, hT22.im (im_same s24), hP22.im (im_same s24), lk, hG', hS22.im (im_same s24), S2, (hp.same s24).dp, hf, hk, fun H25 s25 => ⟨_, rfl, iteF ⟨_, rfl, s24.trans s25, s25 _ _ hp24⟩⟩⟩
      · rintro σ H24 ⟨o12, rfl, s24, _⟩
        exact ⟨_, _, _, _, _, _, _, _, _, _, _, kacc', rfl, x422.same s24, s24 _ _ hkl22, hkp22.im (im_same s24), hkn19⟩
  · rintro σ H5 ⟨o3, o4, o5, o6, o7, o8, o9, o10, o11, o12, o13, kacc, rfl, _⟩
    exact q _
end
end EC


set_option Elab.async false
set_option linter.all false
set_option maxRecDepth 100000
set_option maxHeartbeats 0
open PySem PySem.W PySem.Calls PyProof.Rows
theorem PySem.Challenge.cw_eightcells_k31_whole_no_filling_holds : PySem.Challenge.rw_eightcells_k31_whole_no_filling.Holds := by
  w_on; o_law
  refine HandSHeadRun.head_any (r := OpenLaw.row PySem.Challenge.rw_eightcells_k31_whole_no_filling) (q := view (OpenLaw.row PySem.Challenge.rw_eightcells_k31_whole_no_filling).prog [69]) (H := EC.hk) (ob := EC.ob) (M := 20000) (loose := EC.loose) (d := HandSHeadRun.topDef (OpenLaw.row PySem.Challenge.rw_eightcells_k31_whole_no_filling).prog 69) (kwd := []) EC.ob_eq
    (by kernel_rfl) (fun s => by kernel_rfl) EC.run (by kernel_rfl) (by kernel_rfl) (by kernel_rfl) (by rfl) (by first | assumption | decide +kernel) (by decide +kernel) ⟨rfl, rfl, rfl, rfl, rfl, by decide +kernel⟩ ?hw ?hc
  case hw => w_witness2
  case hc =>
    refine L2.walk_ofE (l := PySem.Challenge.rw_eightcells_k31_whole_no_filling) (n := 63) (k := 40) (x := "_law_script") (CX := L2.CX0) rfl (by decide) (by kernel_rfl) ⟨rfl, by decide, by decide⟩ ?F (fun _ _ _ _ z => z)
    intro w mg fa h Y G hmg0
    obtain ⟨K, KX, c, ex⟩ := Y
    have T : EC.Txt K mg := EC.txt_of KX G c ex
    have hmg : mg ("law" : PySem.Str) = some (.ref fa) := by
      have e : (HandSHeadRun.topDef (OpenLaw.row PySem.Challenge.rw_eightcells_k31_whole_no_filling).prog 69).name = ("law" : PySem.Str) := by kernel_rfl
      rw [← e]
      exact hmg0
    have hga : mg ("law" : PySem.Str) = some (.ref (He.fAd K EC.d_law.at_)) := T.g_law
    rw [hmg] at hga
    cases hga
    have b := L2.FunD.bindsA (ps := ["_law_script"]) T.F_law fun _ _ _ _ _ _ us hl => match us, hl with | [_], _ => rfl
    exact ⟨K, EC.fdO K EC.d_law, EC.spLaw K, KX, fun s u => b s [u] rfl, fun H a ns hl _ hS => ⟨a, ns, rfl, hS, hl, fun _ => rfl⟩, fun base _ _ => EC.ok_law T⟩

