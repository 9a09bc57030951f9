import PyProof.Rows.All
import Wide.All
import OpenK.AllK
import Wide.FinOn
import HandS.ForMost
import HandS.Defaults
import HandS.MakeKwOnly
import PySem.Challenge.RW_ringlists_k31_whole_searches_by_comparin
import HandS.Star
import HandS.ClsMeth
import HandS.Property
import HandS.DictTup
import HandS.SlotsOwn
import HandS.Flow
import HandS.Style
import HandS.IsInst
import HandS.Wide
import HandS.Finally
import KE.KDictDisplayH
import KE.KDictKeyed
import HandS.SortKw
import HandS.FStrTup
import KE.KAssignIn
import KE.KMinKey
import KE.KDictZip
import KE.KItemsList
import HandS.ListItems
import KE.KStateDown
import Lean
import HandS.Head0
import HandS.Head1
import HandS.Head2
import HandS.HeadEnd
import HandS.HeadHook1
import HandS.HeadHook2
import HandS.HeadHook3
import HandS.WordsDict
import HandS.Deep
import HandS.Walk
import HandS.Iter
import HandS.WordsList
import PyProof.Rows.RegStrFacts
import PyProof.ReprLoop
section
set_option Elab.async false
set_option maxRecDepth 100000
/-! The program's text by places; the names of each def. -/
namespace Rg
open PySem PySem.Spec PyProof.Rows L2
def top (i : Nat) : Stmt := PySem.Challenge.pw_ringlists_k31_whole_searches_by_comparin.main.body.getD i (.Pass ⟨0, 0, 0, 0⟩)
abbrev s_is_integer : Stmt := top 16
abbrev n_is_integer : List Str := ["thing"]
abbrev p_is_integer : List Str := ["thing"]
theorem c_is_integer : FnScope n_is_integer p_is_integer (defScope s_is_integer) := ⟨rfl, rfl, rfl, by decide +kernel, rfl, by decide +kernel, by decide +kernel⟩
abbrev s_is_within : Stmt := top 17
abbrev n_is_within : List Str := ["thing", "low", "high"]
abbrev p_is_within : List Str := ["thing", "low", "high"]
theorem c_is_within : FnScope n_is_within p_is_within (defScope s_is_within) := ⟨rfl, rfl, rfl, by decide +kernel, rfl, by decide +kernel, by decide +kernel⟩
abbrev s_is_word : Stmt := top 18
abbrev n_is_word : List Str := ["thing", "sign"]
abbrev p_is_word : List Str := ["thing"]
theorem c_is_word : FnScope n_is_word p_is_word (defScope s_is_word) := ⟨rfl, rfl, rfl, by decide +kernel, rfl, by decide +kernel, by decide +kernel⟩
abbrev s_is_leaf : Stmt := top 19
abbrev n_is_leaf : List Str := ["thing"]
abbrev p_is_leaf : List Str := ["thing"]
theorem c_is_leaf : FnScope n_is_leaf p_is_leaf (defScope s_is_leaf) := ⟨rfl, rfl, rfl, by decide +kernel, rfl, by decide +kernel, by decide +kernel⟩
abbrev s_is_reference : Stmt := top 20
abbrev n_is_reference : List Str := ["thing", "size"]
abbrev p_is_reference : List Str := ["thing", "size"]
theorem c_is_reference : FnScope n_is_reference p_is_reference (defScope s_is_reference) := ⟨rfl, rfl, rfl, by decide +kernel, rfl, by decide +kernel, by decide +kernel⟩
abbrev s_is_item : Stmt := top 21
abbrev n_is_item : List Str := ["thing", "size"]
abbrev p_is_item : List Str := ["thing", "size"]
theorem c_is_item : FnScope n_is_item p_is_item (defScope s_is_item) := ⟨rfl, rfl, rfl, by decide +kernel, rfl, by decide +kernel, by decide +kernel⟩
abbrev s_is_box : Stmt := top 22
abbrev n_is_box : List Str := ["item"]
abbrev p_is_box : List Str := ["item"]
theorem c_is_box : FnScope n_is_box p_is_box (defScope s_is_box) := ⟨rfl, rfl, rfl, by decide +kernel, rfl, by decide +kernel, by decide +kernel⟩
abbrev s_pair_of : Stmt := top 23
abbrev n_pair_of : List Str := ["one", "other"]
abbrev p_pair_of : List Str := ["one", "other"]
theorem c_pair_of : FnScope n_pair_of p_pair_of (defScope s_pair_of) := ⟨rfl, rfl, rfl, by decide +kernel, rfl, by decide +kernel, by decide +kernel⟩
abbrev s_check_limit : Stmt := top 24
abbrev n_check_limit : List Str := ["thing"]
abbrev p_check_limit : List Str := ["thing"]
theorem c_check_limit : FnScope n_check_limit p_check_limit (defScope s_check_limit) := ⟨rfl, rfl, rfl, by decide +kernel, rfl, by decide +kernel, by decide +kernel⟩
abbrev sV_init : Stmt := inClass (top 30) 0
abbrev nV_init : List Str := ["self", "lists"]
abbrev pV_init : List Str := ["self", "lists"]
theorem cV_init : FnScope nV_init pV_init (defScope sV_init) := ⟨rfl, rfl, rfl, by decide +kernel, rfl, by decide +kernel, by decide +kernel⟩
abbrev sV_of_pair : Stmt := inClass (top 30) 1
abbrev nV_of_pair : List Str := ["self", "pair", "stack", "active", "frame", "child"]
abbrev pV_of_pair : List Str := ["self", "pair"]
theorem cV_of_pair : FnScope nV_of_pair pV_of_pair (defScope sV_of_pair) := ⟨rfl, rfl, rfl, by decide +kernel, rfl, by decide +kernel, by decide +kernel⟩
abbrev sV_go_on : Stmt := inClass (top 30) 2
abbrev nV_go_on : List Str := ["self", "frame", "active", "one", "other", "mine", "yours", "place", "child", "word", "steps", "depth", "by"]
abbrev pV_go_on : List Str := ["self", "frame", "active"]
theorem cV_go_on : FnScope nV_go_on pV_go_on (defScope sV_go_on) := ⟨rfl, rfl, rfl, by decide +kernel, rfl, by decide +kernel, by decide +kernel⟩
abbrev sV_decide : Stmt := inClass (top 30) 3
abbrev nV_decide : List Str := ["self", "frame", "word", "place"]
abbrev pV_decide : List Str := ["self", "frame", "word", "place"]
theorem cV_decide : FnScope nV_decide pV_decide (defScope sV_decide) := ⟨rfl, rfl, rfl, by decide +kernel, rfl, by decide +kernel, by decide +kernel⟩
abbrev sV_entered_from : Stmt := inClass (top 30) 4
abbrev nV_entered_from : List Str := ["self", "pair", "one", "other", "place", "items", "found", "mine", "yours", "child"]
abbrev pV_entered_from : List Str := ["self", "pair"]
theorem cV_entered_from : FnScope nV_entered_from pV_entered_from (defScope sV_entered_from) := ⟨rfl, rfl, rfl, by decide +kernel, rfl, by decide +kernel, by decide +kernel⟩
abbrev s_steps_until_deep : Stmt := top 31
abbrev n_steps_until_deep : List Str := ["verdicts", "pair", "limit", "steps", "passed", "former", "before", "rounds", "child", "word", "cost", "depth", "place"]
abbrev p_steps_until_deep : List Str := ["verdicts", "pair", "limit"]
theorem c_steps_until_deep : FnScope n_steps_until_deep p_steps_until_deep (defScope s_steps_until_deep) := ⟨rfl, rfl, rfl, by decide +kernel, rfl, by decide +kernel, by decide +kernel⟩
abbrev sO_init : Stmt := inClass (top 34) 0
abbrev nO_init : List Str := ["self", "word", "verdicts", "course", "number", "loop"]
abbrev pO_init : List Str := ["self", "word", "verdicts", "course", "number", "loop"]
theorem cO_init : FnScope nO_init pO_init (defScope sO_init) := ⟨rfl, rfl, rfl, by decide +kernel, rfl, by decide +kernel, by decide +kernel⟩
abbrev sO_ends : Stmt := inClass (top 34) 2
abbrev nO_ends : List Str := ["self"]
abbrev pO_ends : List Str := ["self"]
theorem cO_ends : FnScope nO_ends pO_ends (defScope sO_ends) := ⟨rfl, rfl, rfl, by decide +kernel, rfl, by decide +kernel, by decide +kernel⟩
abbrev sO_measure : Stmt := inClass (top 34) 3
abbrev nO_measure : List Str := ["self", "outer", "enters", "pairs", "found", "pair", "word", "steps", "depth", "place"]
abbrev pO_measure : List Str := ["self"]
theorem cO_measure : FnScope nO_measure pO_measure (defScope sO_measure) := ⟨rfl, rfl, rfl, by decide +kernel, rfl, by decide +kernel, by decide +kernel⟩
abbrev sO_at : Stmt := inClass (top 34) 4
abbrev nO_at : List Str := ["self", "limit", "room", "steps", "spot", "enters", "pairs", "pair", "word", "cost", "depth", "place"]
abbrev pO_at : List Str := ["self", "limit"]
theorem cO_at : FnScope nO_at pO_at (defScope sO_at) := ⟨rfl, rfl, rfl, by decide +kernel, rfl, by decide +kernel, by decide +kernel⟩
abbrev s_word_at : Stmt := top 35
abbrev n_word_at : List Str := ["found", "limit", "word", "steps"]
abbrev p_word_at : List Str := ["found", "limit"]
theorem c_word_at : FnScope n_word_at p_word_at (defScope s_word_at) := ⟨rfl, rfl, rfl, by decide +kernel, rfl, by decide +kernel, by decide +kernel⟩
abbrev s_equality : Stmt := top 36
abbrev n_equality : List Str := ["heap", "one", "other", "verdicts"]
abbrev p_equality : List Str := ["heap", "one", "other"]
theorem c_equality : FnScope n_equality p_equality (defScope s_equality) := ⟨rfl, rfl, rfl, by decide +kernel, rfl, by decide +kernel, by decide +kernel⟩
abbrev s_word_of_items : Stmt := top 41
abbrev n_word_of_items : List Str := ["verdicts", "mine", "item", "pairs", "pair"]
abbrev p_word_of_items : List Str := ["verdicts", "mine", "item", "pairs"]
theorem c_word_of_items : FnScope n_word_of_items p_word_of_items (defScope s_word_of_items) := ⟨rfl, rfl, rfl, by decide +kernel, rfl, by decide +kernel, by decide +kernel⟩
abbrev s_find : Stmt := top 42
abbrev n_find : List Str := ["heap", "box", "item", "since", "verdicts", "pairs", "place", "mine", "word"]
abbrev p_find : List Str := ["heap", "box", "item", "since"]
theorem c_find : FnScope n_find p_find (defScope s_find) := ⟨rfl, rfl, rfl, by decide +kernel, rfl, by decide +kernel, by decide +kernel⟩
abbrev s_count : Stmt := top 43
abbrev n_count : List Str := ["heap", "box", "item", "verdicts", "pairs", "number", "mine", "word"]
abbrev p_count : List Str := ["heap", "box", "item"]
theorem c_count : FnScope n_count p_count (defScope s_count) := ⟨rfl, rfl, rfl, by decide +kernel, rfl, by decide +kernel, by decide +kernel⟩
abbrev s_contains : Stmt := top 44
abbrev n_contains : List Str := ["heap", "box", "item", "limit"]
abbrev p_contains : List Str := ["heap", "box", "item", "limit"]
theorem c_contains : FnScope n_contains p_contains (defScope s_contains) := ⟨rfl, rfl, rfl, by decide +kernel, rfl, by decide +kernel, by decide +kernel⟩
abbrev s_remove : Stmt := top 45
abbrev n_remove : List Str := ["heap", "box", "item", "limit", "found"]
abbrev p_remove : List Str := ["heap", "box", "item", "limit"]
theorem c_remove : FnScope n_remove p_remove (defScope s_remove) := ⟨rfl, rfl, rfl, by decide +kernel, rfl, by decide +kernel, by decide +kernel⟩
abbrev sH_init : Stmt := inClass (top 47) 2
abbrev nH_init : List Str := ["self", "contents", "one", "item"]
abbrev pH_init : List Str := ["self", "contents"]
theorem cH_init : FnScope nH_init pH_init (defScope sH_init) := ⟨rfl, rfl, rfl, by decide +kernel, rfl, by decide +kernel, by decide +kernel⟩
abbrev sH_of : Stmt := inClass (top 47) 3
abbrev nH_of : List Str := ["cls", "contents"]
abbrev pH_of : List Str := ["cls", "contents"]
theorem cH_of : FnScope nH_of pH_of (defScope sH_of) := ⟨rfl, rfl, rfl, by decide +kernel, rfl, by decide +kernel, by decide +kernel⟩
abbrev sH_len : Stmt := inClass (top 47) 5
abbrev nH_len : List Str := ["self", "one", "item"]
abbrev pH_len : List Str := ["self"]
theorem cH_len : FnScope nH_len pH_len (defScope sH_len) := ⟨rfl, rfl, rfl, by decide +kernel, rfl, by decide +kernel, by decide +kernel⟩
abbrev sH_contains : Stmt := inClass (top 47) 7
abbrev nH_contains : List Str := ["self", "number"]
abbrev pH_contains : List Str := ["self", "number"]
theorem cH_contains : FnScope nH_contains pH_contains (defScope sH_contains) := ⟨rfl, rfl, rfl, by decide +kernel, rfl, by decide +kernel, by decide +kernel⟩
abbrev sH_need_box : Stmt := inClass (top 47) 9
abbrev nH_need_box : List Str := ["self", "number"]
abbrev pH_need_box : List Str := ["self", "number"]
theorem cH_need_box : FnScope nH_need_box pH_need_box (defScope sH_need_box) := ⟨rfl, rfl, rfl, by decide +kernel, rfl, by decide +kernel, by decide +kernel⟩
abbrev sH_need_place : Stmt := inClass (top 47) 10
abbrev nH_need_place : List Str := ["self", "box", "place", "more"]
abbrev pH_need_place : List Str := ["self", "box", "place", "more"]
theorem cH_need_place : FnScope nH_need_place pH_need_place (defScope sH_need_place) := ⟨rfl, rfl, rfl, by decide +kernel, rfl, by decide +kernel, by decide +kernel⟩
abbrev sH_need_item : Stmt := inClass (top 47) 11
abbrev nH_need_item : List Str := ["self", "item", "more"]
abbrev pH_need_item : List Str := ["self", "item", "more"]
theorem cH_need_item : FnScope nH_need_item pH_need_item (defScope sH_need_item) := ⟨rfl, rfl, rfl, by decide +kernel, rfl, by decide +kernel, by decide +kernel⟩
abbrev sH_need_room : Stmt := inClass (top 47) 12
abbrev nH_need_room : List Str := ["self", "boxes", "items"]
abbrev pH_need_room : List Str := ["self", "boxes", "items"]
theorem cH_need_room : FnScope nH_need_room pH_need_room (defScope sH_need_room) := ⟨rfl, rfl, rfl, by decide +kernel, rfl, by decide +kernel, by decide +kernel⟩
abbrev sH_take : Stmt := inClass (top 47) 17
abbrev nH_take : List Str := ["self", "box", "place"]
abbrev pH_take : List Str := ["self", "box", "place"]
theorem cH_take : FnScope nH_take pH_take (defScope sH_take) := ⟨rfl, rfl, rfl, by decide +kernel, rfl, by decide +kernel, by decide +kernel⟩
abbrev sH_look : Stmt := inClass (top 47) 19
abbrev nH_look : List Str := ["self", "box"]
abbrev pH_look : List Str := ["self", "box"]
theorem cH_look : FnScope nH_look pH_look (defScope sH_look) := ⟨rfl, rfl, rfl, by decide +kernel, rfl, by decide +kernel, by decide +kernel⟩
abbrev sH_contents : Stmt := inClass (top 47) 20
abbrev nH_contents : List Str := ["self", "one"]
abbrev pH_contents : List Str := ["self"]
theorem cH_contents : FnScope nH_contents pH_contents (defScope sH_contents) := ⟨rfl, rfl, rfl, by decide +kernel, rfl, by decide +kernel, by decide +kernel⟩
abbrev sH_copy : Stmt := inClass (top 47) 21
abbrev nH_copy : List Str := ["self"]
abbrev pH_copy : List Str := ["self"]
theorem cH_copy : FnScope nH_copy pH_copy (defScope sH_copy) := ⟨rfl, rfl, rfl, by decide +kernel, rfl, by decide +kernel, by decide +kernel⟩
abbrev s_Lbag : Stmt := top 49
abbrev n_Lbag : List Str := ["_law_script", "_law_at", "_law_primes", "_law_cell", "_law_large", "_law_mixed"]
abbrev p_Lbag : List Str := ["_law_script", "_law_at"]
theorem c_Lbag : FnScope n_Lbag p_Lbag (defScope s_Lbag) := ⟨rfl, rfl, rfl, by decide +kernel, rfl, by decide +kernel, by decide +kernel⟩
abbrev s_Ltake : Stmt := top 50
abbrev n_Ltake : List Str := ["_law_bag_here", "_law_many", "_law_digit"]
abbrev p_Ltake : List Str := ["_law_bag_here", "_law_many"]
theorem c_Ltake : FnScope n_Ltake p_Ltake (defScope s_Ltake) := ⟨rfl, rfl, rfl, by decide +kernel, rfl, by decide +kernel, by decide +kernel⟩
abbrev s_Lleaf : Stmt := top 51
abbrev n_Lleaf : List Str := ["_law_bag_here", "_law_some"]
abbrev p_Lleaf : List Str := ["_law_bag_here"]
theorem c_Lleaf : FnScope n_Lleaf p_Lleaf (defScope s_Lleaf) := ⟨rfl, rfl, rfl, by decide +kernel, rfl, by decide +kernel, by decide +kernel⟩
abbrev s_Lcontents : Stmt := top 52
abbrev n_Lcontents : List Str := ["_law_bag_here", "_law_most", "_law_total", "_law_found", "_law_k", "_law_row", "_law_turn"]
abbrev p_Lcontents : List Str := ["_law_bag_here", "_law_most"]
theorem c_Lcontents : FnScope n_Lcontents p_Lcontents (defScope s_Lcontents) := ⟨rfl, rfl, rfl, by decide +kernel, rfl, by decide +kernel, by decide +kernel⟩
abbrev s_Ltwofold : Stmt := top 53
abbrev n_Ltwofold : List Str := ["_law_bag_here", "_law_most", "_law_first", "_law_total", "_law_second", "_law_row", "_law_again", "_law_part", "_law_spot"]
abbrev p_Ltwofold : List Str := ["_law_bag_here", "_law_most"]
theorem c_Ltwofold : FnScope n_Ltwofold p_Ltwofold (defScope s_Ltwofold) := ⟨rfl, rfl, rfl, by decide +kernel, rfl, by decide +kernel, by decide +kernel⟩
abbrev s_Lheap : Stmt := top 54
abbrev n_Lheap : List Str := ["_law_contents_here", "_law_row"]
abbrev p_Lheap : List Str := ["_law_contents_here"]
theorem c_Lheap : FnScope n_Lheap p_Lheap (defScope s_Lheap) := ⟨rfl, rfl, rfl, by decide +kernel, rfl, by decide +kernel, by decide +kernel⟩
abbrev s_Lshown : Stmt := top 55
abbrev n_Lshown : List Str := ["_law_found"]
abbrev p_Lshown : List Str := ["_law_found"]
theorem c_Lshown : FnScope n_Lshown p_Lshown (defScope s_Lshown) := ⟨rfl, rfl, rfl, by decide +kernel, rfl, by decide +kernel, by decide +kernel⟩
abbrev s_Ltold : Stmt := top 56
abbrev n_Ltold : List Str := ["_law_word", "_law_steps", "_law_deep", "_law_number"]
abbrev p_Ltold : List Str := ["_law_word", "_law_steps", "_law_deep", "_law_number"]
theorem c_Ltold : FnScope n_Ltold p_Ltold (defScope s_Ltold) := ⟨rfl, rfl, rfl, by decide +kernel, rfl, by decide +kernel, by decide +kernel⟩
abbrev s_Lcourse : Stmt := top 57
abbrev n_Lcourse : List Str := ["_law_heap_here", "_law_box", "_law_part", "_law_begin", "_law_some", "_law_spot", "_law_mine", "_law_word"]
abbrev p_Lcourse : List Str := ["_law_heap_here", "_law_box", "_law_part", "_law_begin"]
theorem c_Lcourse : FnScope n_Lcourse p_Lcourse (defScope s_Lcourse) := ⟨rfl, rfl, rfl, by decide +kernel, rfl, by decide +kernel, by decide +kernel⟩
abbrev s_Lfind_right : Stmt := top 58
abbrev n_Lfind_right : List Str := ["_law_heap_here", "_law_box", "_law_part", "_law_begin", "_law_rooms", "_law_found", "_law_course_here", "_law_some", "_law_spot", "_law_due", "_law_deep", "_law_room", "_law_steps", "_law_word", "_law_one", "_law_told_here"]
abbrev p_Lfind_right : List Str := ["_law_heap_here", "_law_box", "_law_part", "_law_begin", "_law_rooms"]
theorem c_Lfind_right : FnScope n_Lfind_right p_Lfind_right (defScope s_Lfind_right) := ⟨rfl, rfl, rfl, by decide +kernel, rfl, by decide +kernel, by decide +kernel⟩
abbrev s_Lall_right : Stmt := top 59
abbrev n_Lall_right : List Str := ["_law_heap_here", "_law_box", "_law_part", "_law_spots", "_law_begin", "_law_row", "_law_found", "_law_every", "_law_other"]
abbrev p_Lall_right : List Str := ["_law_heap_here", "_law_box", "_law_part"]
theorem c_Lall_right : FnScope n_Lall_right p_Lall_right (defScope s_Lall_right) := ⟨rfl, rfl, rfl, by decide +kernel, rfl, by decide +kernel, by decide +kernel⟩
abbrev s_law : Stmt := top 60
abbrev n_law : List Str := ["_law_script", "_law_k", "_law_bag_here", "_law_contents_here", "_law_heap_here", "_law_turn", "_law_box", "_law_part", "_law_begin", "_law_rooms"]
abbrev p_law : List Str := ["_law_script"]
theorem c_law : FnScope n_law p_law (defScope s_law) := ⟨rfl, rfl, rfl, by decide +kernel, rfl, by decide +kernel, by decide +kernel⟩
end Rg
end
section
set_option Elab.async false
set_option linter.all false
set_option maxRecDepth 100000
set_option maxHeartbeats 2000000
/-! Further rules: calls by positional promises, dicts with tuple keys, own len and in. -/
namespace Rg
open PySem PySem.Spec PyProof.Rows L2
abbrev FnQ (K : PySem.W.Frag) (x q : Str) (st : Stmt) (kws : List (Str × V)) (f : Addr) : Prop := ∃ fd, FunD K x q (defArgs st) (defBody st) (defScope st) [] kws f fd

/-! ### a def's promise from its body -/
section
variable {P : Program} {w : World} {K : PySem.W.Frag} {mg : Str → Option Value} {base : Heap}
theorem fnr {x q : Str} {st : Stmt} {f : Addr} {N ps : List Str} {k : Nat} {sp : Sp} (F : FnQ K x q st [] f) (S : FnScope N ps (defScope st)) (len : ∀ vs H Q E, sp vs H Q E → vs.length = ps.length)
    (hb : ∀ (kV doc pm : Value) (an : Option Addr) (cdv ct : Value) (us : List Value), us.length = ps.length → bindArgs (PySem.W.fnOf x q (defArgs st) (defBody st) (defScope st) .none kV doc pm an cdv ct) ⟨us, []⟩ = pure (ps.zip us))
    (hbody : ∀ (cdv : Value) (A : Around) (outer : List Env) (s : Shared) (H : Hp) (vs : List V) (Q : VK) (E : XK), Room k (A.deeper (envOfC q (defScope st) s.heap.objs.size f cdv)) → sp vs H Q E →
      ∃ t, PSs (cxOf CX0 P w K mg base N q (defScope st) f cdv A outer s H E).nox (defBody st) t ∧ t { nx := fun _ H' => Q .non H', rt := Q } (start N vs) H) :
    FnR P w K mg base CX0 (k + 1) f sp := by
  obtain ⟨fd, G⟩ := F
  have O : FnOk P w K mg base CX0 (k + 1) f fd ps sp := G.ok S len fun cdv A outer s H vs Q E hr h => by
    obtain ⟨t, ht, q⟩ := hbody cdv A outer s H vs Q E hr h
    exact ⟨t, PSs.nox ht, q⟩
  exact (O.raw (G.bindsN hb) .nil).imp fun vs H Q E h => by rw [List.append_nil]; exact h
/-- .. with keyword-only parameters: as a whole -/
theorem fnk {x q : Str} {st : Stmt} {f : Addr} {fd : FuncData} {kws : List (Str × V)} {N ps : List Str} {k : Nat} {sp : Sp} (G : FunD K x q (defArgs st) (defBody st) (defScope st) [] kws f fd) (S : FnScope N ps (defScope st)) (len : ∀ vs H Q E, sp vs H Q E → vs.length = ps.length)
    (hbody : ∀ (cdv : Value) (A : Around) (outer : List Env) (s : Shared) (H : Hp) (vs : List V) (Q : VK) (E : XK), Room k (A.deeper (envOfC q (defScope st) s.heap.objs.size f cdv)) → sp vs H Q E →
      ∃ t, PSs (cxOf CX0 P w K mg base N q (defScope st) f cdv A outer s H E).nox (defBody st) t ∧ t { nx := fun _ H' => Q .non H', rt := Q } (start N vs) H) :
    FnOk P w K mg base CX0 (k + 1) f fd ps sp := G.ok S len fun cdv A outer s H vs Q E hr h => by
  obtain ⟨t, ht, q⟩ := hbody cdv A outer s H vs Q E hr h
  exact ⟨t, PSs.nox ht, q⟩
end

/-! ### calls -/
section
variable {X : Cx} {k : Nat} {f C : Addr} {sp : Sp} {x m : Str} {p pos apos : Pos} {e o : Expr} {es : List Expr} {ta te : TE} {t : TA}
/-- f(e, ..), f a def of the module -/
def tFn (sp : Sp) (t : TA) : TE := fun σ H Q => t σ H fun vs H1 => sp vs H1 Q E0
theorem pe_fn (F : FnR X.prog X.w X.K X.mg X.base CX0 k f sp) (hr : Room k X.A) (hg : Gl X x) (hm : X.mg x = some (.ref f)) (hk : PySem.W.keepIn X.K (.ref f) = true) (ha : PA X (e :: es) t)
    (hdb : (x == ("__debug__" : Str)) = false := by decide) (he : starEach (e :: es) X.env = (false, eval e X.env) :: starEach es X.env := by rfl) (hpl : (backTo pos (starEach es X.env)).any (·.1) = false := by rfl) :
    PE X (.Call (.Name x p) (e :: es) [] pos) (tFn sp t) := by
  refine ⟨fun pins s σ H Q I h => ?_⟩
  refine wpAny_Call_Name_kw (ld_glob I hg hm ?_ hdb)
  refine PySem.W.callWith_K (h₀ := X.base) I.ok.mod.kin hk (thn (ha.run pos pins s σ H _ I h) fun us s1 ⟨vs, H1, I1, r, q⟩ => ⟨I1.kIn, ?_⟩) he hpl
  exact wpAny_call (run_fnR F hr pass0 I1 r q)
/-- o.m(), o.m(e, ..) of an instance -/
def tMt (C : Addr) (m : Str) (sp : Sp) (ta : TE) (t : TA) : TE := fun σ H Q => ta σ H fun x H1 => ∃ a dx fs, x = .ref a ∧ H1 a = some (.ins C dx fs) ∧ fs.lookup m = none ∧ t σ H1 fun vs H2 => sp (x :: vs) H2 Q E0
theorem pe_mt {pl : Sem Bool} (he : PE X o ta) (c : Cls X.K C) (hm : Meth X.K C m f) (F : FnR X.prog X.w X.K X.mg X.base CX0 k f sp) (hr : Room k X.A) (ha : PA X (e :: es) t)
    (hst : starEach (e :: es) X.env = (false, eval e X.env) :: starEach es X.env := by rfl) (hpl : (backTo pos (starEach es X.env)).any (·.1) = false := by rfl)
    (ht : eval (.Call (.Attribute o m apos) (e :: es) [] pos) X.env = (do
      let ov ← eval o X.env
      standAt apos.atName
      let (f, first) ← holding [ov] (getMethod ov m pl)
      callWith pos f first (backTo pos (starEach (e :: es) X.env)) (backToKw pos (keywordEach [] X.env))) := by rfl) :
    PE X (.Call (.Attribute o m apos) (e :: es) [] pos) (tMt C m sp ta t) := by
  refine ⟨fun pins s σ H Q I h => ?_⟩
  refine PySem.W.methodCall_KW (pl := pl) (thn (he.run pins s σ H _ I h) fun u s1 ⟨x, H1, I1, rx, a, dx, fs, ex, ea, l, q⟩ => ?_) ht
  subst ex
  obtain rfl : u = Value.ref a := rx
  refine getmeth_ok I1 ea c hm l ?_
  refine PySem.W.callWith_K (first := [.ref a]) (h₀ := X.base) I.ok.mod.kin hm.kp (thn (ha.run pos pins s1 σ H1 _ I1 q) fun us s2 ⟨vs, H2, I2, r, q2⟩ => ⟨I2.kIn, ?_⟩) hst hpl
  exact wpAny_call (run_fnR (us := .ref a :: us) (vs := .ref a :: vs) F hr pass0 I2 (.cons rfl r) q2)
theorem pe_mt0 {pl : Sem Bool} (he : PE X o ta) (c : Cls X.K C) (hm : Meth X.K C m f) (F : FnR X.prog X.w X.K X.mg X.base CX0 k f sp) (hr : Room k X.A)
    (ht : eval (.Call (.Attribute o m apos) [] [] pos) X.env = (do
      let ov ← eval o X.env
      standAt apos.atName
      let (f, first) ← holding [ov] (getMethod ov m pl)
      callWith pos f first (backTo pos (starEach [] X.env)) (backToKw pos (keywordEach [] X.env))) := by rfl) :
    PE X (.Call (.Attribute o m apos) [] [] pos) (tMt C m sp ta tNil) := by
  refine ⟨fun pins s σ H Q I h => ?_⟩
  refine PySem.W.methodCall_KW (pl := pl) (thn (he.run pins s σ H _ I h) fun u s1 ⟨x, H1, I1, rx, a, dx, fs, ex, ea, l, q⟩ => ?_) ht
  subst ex
  obtain rfl : u = Value.ref a := rx
  refine getmeth_ok I1 ea c hm l ?_
  exact PySem.W.callWith_K0 (first := [.ref a]) I1.kIn hm.kp (wpAny_call (run_fnR (us := [.ref a]) (vs := [.ref a]) F hr pass0 I1 (.cons rfl .nil) q))
/-- o.f, a property -/
def tPr (C : Addr) (sp : Sp) (ta : TE) : TE := fun σ H Q => ta σ H fun x H1 => ∃ a dx fs, x = .ref a ∧ H1 a = some (.ins C dx fs) ∧ sp [x] H1 Q E0
theorem pe_pr {q g : Addr} (he : PE X o ta) (c : Cls X.K C) (hp : PropOf X.K C m q g) (F : FnR X.prog X.w X.K X.mg X.base CX0 k g sp) (hr : Room (k + 1) X.A)
    (hab : attributeBase o m X.env (eval o X.env) = eval o X.env := by rfl) : PE X (.Attribute o m pos) (tPr C sp ta) := by
  refine ⟨fun pins s σ H Q I h => ?_⟩
  refine attr_of hab (thn (he.run pins s σ H _ I h) fun u s1 ⟨x, H1, I1, rx, a, dx, fs, ex, ea, q⟩ => ?_)
  subst ex
  obtain rfl : u = Value.ref a := rx
  obtain ⟨mA, O, _, _, _, _⟩ := ins_get I1.hok ea
  obtain ⟨od, J, _⟩ := O.look
  obtain ⟨rest, hrec⟩ := hp.rec_
  have I2 := I1.tok (s1.toks + 1)
  have hc : (PySem.W.clsIn X.K C).isSome = true := by
    obtain ⟨cd, hc, _⟩ := PySem.W.any_some c.hd
    rw [hc]
    rfl
  refine PySem.W.get_bind I1.kIn J (PySem.W.plainGet_of (c.get m)).1 (PySem.W.findObj_data hc hp.at_ hp.get hp.tak) (PySem.W.plainGet_of (c.get m)).2 (wpAny_call (PySem.W.prop_get (s := { s1 with toks := s1.toks + 1 }) I1.kIn hrec ?_))
  refine codeAny_mono (F X.A.in1 X.stack { s1 with toks := s1.toks + 1 } H1 [.ref a] [.ref a] Q E0 hr.in1 I2.env0.in1 (.cons rfl .nil) q) fun r s' hq => ?_
  cases r with
  | error er => exact hq.elim
  | ok fl =>
    cases fl with
    | ret u =>
      obtain ⟨v, H', I3, rv, q3⟩ := I2.after hq
      show wpAny _ _ (handedOut u) _ _ _
      rw [PySem.W.handedOut_of (handed_of rv)]
      exact wpAny_pure ⟨v, H', I3, rv, q3⟩
    | next => exact False.elim hq
    | brk => exact False.elim hq
    | cont => exact False.elim hq
/-- x(*e), x a local name that holds a class -/
def tMkS (K : PySem.W.Frag) (i : Nat) (C : Addr) (sp : Sp) (te : TE) : TE := fun σ H Q => σ[i]? = some (some (.ref C)) ∧ te σ H fun y H1 => ∃ a xs, y = V.ref a ∧ (SqT K H1 a xs ∨ SqL K H1 a xs) ∧
  ∀ x dx, H1 x = Option.none → H1 dx = Option.none → dx ≠ x → sp (V.ref x :: xs) (upd (upd H1 dx (.own x)) x (.ins C dx [])) (fun v H2 => v = .non ∧ Q (.ref x) H2) E0
theorem pe_mkS {i : Nat} {sp_ : Pos} (M : Mk X.K C f) (F : FnR X.prog X.w X.K X.mg X.base CX0 k f sp) (hr : Room (k + 1) X.A) (hN : X.N[i]? = some x) (hv : Vis X.env.scope x) (he : PE X e te)
    (hd : (x == ("__debug__" : Str)) = false := by decide) (hcd : (x == ("__classdict__" : Str)) = false := by decide) (hst : starEach [.Starred e sp_] X.env = [(true, eval e X.env)] := by rfl) :
    PE X (.Call (.Name x p) [.Starred e sp_] [] pos) (tMkS X.K i C sp te) := by
  refine ⟨fun pins s σ H Q I h => ?_⟩
  obtain ⟨hi, h⟩ := h
  refine wpAny_Call_Name_kw (thn ((pe_var (i := i) hN hv hd hcd).run pins s σ H (fun v H1 => v = .ref C ∧ H1 = H) I ⟨_, hi, rfl, rfl⟩) fun u s1 ⟨v, H1, I1, rv, ev, eH⟩ => ?_)
  subst ev eH
  obtain rfl : u = Value.ref C := rv
  refine PySem.W.callWith_S (h₀ := X.base) I1.ok.mod.kin M.kp (thn (he.run pins s1 σ _ _ I1 h) fun v s1 ⟨y, H1, I1, ry, a, xs, ey, hxs, q⟩ => ?_) hst
  subst ey
  obtain rfl : v = Value.ref a := ry
  exact StX.star_any I1 hxs fun us s2 I2 rv => ⟨I2.kIn, StX.run_makeR M F hr pass0 I2 rv q⟩
end

/-! ### len(o), k in o of own classes -/
section
variable {X : Cx} {k : Nat} {g C : Addr} {sp : Sp} {e o i : Expr} {es : List Expr} {ta te ti : TE} {p pos : Pos}
def rLenO (C : Addr) (sp : Sp) : List V → Hp → VK → Prop := fun xs H Q => ∃ a dx fs, xs = [V.ref a] ∧ H a = some (.ins C dx fs) ∧ sp [.ref a] H (fun z H' => ∃ n : Int, z = .int n ∧ (0 ≤ n ∧ n < 2 ^ 63) ∧ Q z H') E0
theorem call_lenO (hm : Meth X.K C "__len__" g) (F : FnR X.prog X.w X.K X.mg X.base CX0 k g sp) (hr : Room (k + 1) X.A) : CallR X (.builtin "len") (rLenO C sp) := by
  intro pins s σ H xs us Q I r h
  obtain ⟨a, dx, fs, rfl, ea, q⟩ := h
  obtain ⟨u, rfl, ru⟩ := r.one
  cases (show u = Value.ref a from ru)
  obtain ⟨mA, O, _, _, _, _⟩ := ins_get I.hok ea
  obtain ⟨od, J, _⟩ := O.look
  obtain ⟨m, hF⟩ := I.fr
  refine PySem.W.len_K hF I.ok.mod.kin J hm.at_ hm.fn (wpAny_mono (wpAny_call (SlX.run_at (us := [.ref a]) (ws := [.ref a]) F hr.in1 I.env0.in1 pass0 I (.cons rfl .nil) q)) (fun w s' z => ?_) fun _ _ x => x)
  obtain ⟨z', H', I', rz, n, ez, hn, qz⟩ := z
  subst ez
  obtain ⟨t, e⟩ := (show ∃ t, w = Value.int n t from rz)
  cases e
  exact ⟨hn, ⟨.int n, H', I'.tok _, ⟨_, rfl⟩, qz⟩⟩
def rInO (C : Addr) (sp : Sp) (neg : Bool) : R2 := fun x y H Q => ∃ a dx fs, y = V.ref a ∧ H a = some (.ins C dx fs) ∧ sp [.ref a, x] H (fun z H' => ∃ b : Bool, z = .bl b ∧ Q (.bl (if neg = true then !b else b)) H') E0
theorem op_notInO (hm : Meth X.K C "__contains__" g) (F : FnR X.prog X.w X.K X.mg X.base CX0 k g sp) (hr : Room k X.A) : OpR X (compareOp .NotIn) (rInO C sp true) := by
  intro pins s σ H x y v u Q I rx ry h
  obtain ⟨a, dx, fs, rfl, ea, q⟩ := h
  cases (show u = Value.ref a from ry)
  obtain ⟨mA, O, _, _, _, _⟩ := ins_get I.hok ea
  obtain ⟨od, J, _⟩ := O.look
  obtain ⟨m, hF⟩ := I.fr
  refine PySem.W.notIn_K hF I.ok.mod.kin J hm.at_ hm.fn (wpAny_mono (wpAny_call (run_fnR (us := [.ref a, v]) (vs := [.ref a, x]) F hr pass0 I (.cons rfl (.cons rx .nil)) q)) (fun w s' z => ?_) fun _ _ x => x)
  obtain ⟨z', H', I', rz, b, ez, qz⟩ := z
  subst ez
  cases (show w = Value.bool b from rz)
  exact wpAny_truthy_bool ⟨.bl (!b), H', I', rfl, qz⟩
end

/-! ### dicts with tuple keys -/
section
variable {X : Cx} {k v : Expr} {tk tv : TE} {pos : Pos}
theorem KT_without {H : Hp} (k : List L2.Key) {kvs : List (List L2.Key × V)} {xs : List (List L2.Key × Addr × Value)} (r : KT H kvs xs) : KT H (dropK kvs k) (withoutH xs k) := L2.DX.KT_drop k r
/-- {k: v}, k a tuple -/
def tDict1 (tk tv : TE) : TE := fun σ H Q => ∀ p, H p = none → tk σ (upd H p (.dT [])) fun x H1 => tv σ H1 fun y H2 => ∃ (b : Addr) (ks : List L2.Key), H2 p = some (.dT []) ∧ x = .ref b ∧ H2 b = some (.tup (ks.map kV)) ∧ Q (.ref p) (upd H2 p (.dT [(ks, y)]))
theorem pe_dict1 (hu : X.A.units + 1 < cLine) (hk : PE X k tk) (hv : PE X v tv) : PE X (.Dict [some k] [v] pos) (tDict1 tk tv) := by
  refine ⟨fun pins s σ H Q I q => ?_⟩
  have hn := I.hok.fresh (Nat.le_refl s.heap.objs.size)
  have I1 := I.laid (a := s.heap.objs.size) (o := .dT []) (h' := s.heap.push { cls := .type "dict", data := .dict #[] }) (t' := s.toks) (fun _ _ q => Heap.get?_push_of_some _ q) (Nat.le_refl _) (dt_empty s.heap I.big)
  have hp : evalPairs (pairTrees [some k] [v] X.env pos) = evalPairs (pairTrees [some k] [v] X.env pos) := rfl
  rw [arm_eval_Dict, show ((evalEachOpt [some k] X.env).zip ((evalEach [v] X.env).map fun v => do let x ← v; standAt pos; pure x)) = (pairTrees [some k] [v] X.env pos).map (fun p => (some p.1, p.2)) from rfl, dictDisplay_pairs _ (by intro z; cases z) (by show 1 < 17; decide)]
  refine wpAny_bind (wpAny_standAt (wpAny_bind (wpAny_subDictH (knd := tupleKind (mixKind X.prog X.w)) (show X.A.units < cLine from Nat.lt_of_succ_lt hu) (by show 1 ≤ 15; decide) (pairTrees_cons_walk ?_))))
  refine thn (hk.run pins _ σ _ _ I1 (q _ hn)) fun u s1 ⟨x, H1, I2, rx, q1⟩ => thn (hv.run pins s1 σ H1 _ I2 q1) fun w2 s2 ⟨y, H2, I3, ry, b, ks, hp0, ex, hb, q2⟩ => ?_
  refine pairTrees_nil_walk ?_
  subst ex
  cases (show u = Value.ref b from rx)
  obtain ⟨z, hd, xs', rel, dd⟩ := dt_of I3.hok hp0
  cases rel
  refine ⟨[(ks, b, w2)], ⟨rfl, rfl, key_of I3.hok hb, trivial⟩, dd, fun h' tk' dd' hs => wpAny_pure ?_⟩
  obtain ⟨oo, es, ep, hq, h2, h3, h4, _, h5⟩ := dd'
  refine ⟨.ref s.heap.objs.size, _, d_write (ob := .dT [(ks, y)]) I3 (by rw [hp0]; exact True.intro) hs ⟨oo, hq⟩ ⟨by rw [sizeLine_eq]; simp, hd, [(ks, b, w2)], .cons ⟨rfl, ?_, ry⟩ .nil, oo, es, ep, hq, h2, h3, h4, h5⟩, rfl, q2⟩
  rw [upd_ne (ne_of hb hp0 (fun z => nomatch z))]
  exact hb
/-- d.pop(k), there -/
def rPop1 : V → List V → Hp → VK → Prop := fun x xs H Q => ∃ (a : Addr) (kvs : List (List L2.Key × V)) (k : List L2.Key) (b : Addr) (v : V), x = .ref a ∧ xs = [.ref b] ∧ H a = some (.dT kvs) ∧ H b = some (.tup (k.map kV)) ∧ valV kvs k = some v ∧ Q v (upd H a (.dT (dropK kvs k)))
theorem mt_pop1 (hu : X.A.units + 1 < cLine) : MtR X "dict.pop" rPop1 := by
  intro pins s σ H x xs v us Q I rx rxs h
  obtain ⟨a, kvs, k, b, d, rfl, rfl, ha, hb, hv, q⟩ := h
  cases rx
  obtain ⟨u1, rfl, r1⟩ := rxs.one
  cases r1
  obtain ⟨z, hd, xs', rel, dd⟩ := dt_of I.hok ha
  have hz : xs'.length ≤ sizeLine := by rw [← Paired.length rel]; exact z
  have r := rel.val k
  rw [hv] at r
  obtain ⟨p, hp, rp⟩ : ∃ p, atKey xs' k = some p ∧ RelV d p.2 := by
    cases e : atKey xs' k with
    | none => rw [e] at r; exact (show False from r).elim
    | some p => rw [e] at r; exact ⟨p, rfl, r⟩
  refine call_pop_heap (knd := tupleKind (mixKind X.prog X.w)) (more := []) (.inl rfl) (PySem.F.args_dict_pop_2 _ _) (tupleKind_room_in1 hu) (key_of I.hok hb) hd dd hp (fun h' dd' hs => ?_) hz
  obtain ⟨o, es, ep, hq, h2, h3, h4, _, h5⟩ := dd'
  exact ⟨d, _, d_write (ob := .dT (dropK kvs k)) I (by rw [ha]; exact True.intro) hs ⟨o, hq⟩ ⟨Nat.le_trans (dropK_le kvs k) z, hd, _, (KT_without k rel).keeps (fun c ys ec => (by rw [upd_ne (ne_of ec ha (fun z => nomatch z))]; exact ec)), o, es, ep, hq, h2, h3, h4, h5⟩, rp, q⟩
/-- d.clear() -/
def rClearT : V → List V → Hp → VK → Prop := fun x xs H Q => ∃ (a : Addr) (kvs : List (List L2.Key × V)), x = .ref a ∧ xs = [] ∧ H a = some (.dT kvs) ∧ Q .non (upd H a (.dT []))
theorem mt_clearT : MtR X "dict.clear" rClearT := by
  intro pins s σ H x xs v us Q I rx rxs h
  obtain ⟨a, kvs, rfl, rfl, ha, q⟩ := h
  cases rx
  cases rxs
  obtain ⟨z, hd, xs', rel, o, es, ep, ho, hx, hdat, he, _⟩ := dt_of I.hok ha
  have hes : es.size = xs'.length := size_of_entries he
  have hz : es.size ≤ sizeLine := by rw [hes, ← Paired.length rel]; exact z
  refine call_meetsIn PySem.F.slot_dict_clear ⟨o, ho, hx.1⟩ PySem.F.entry_dict_clear (PySem.F.args_dict_clear_1 _) (meets_dict_clear_raw a) ⟨es, ep, ⟨o, ho, hx, hdat⟩, hz, fun h' hr' hs' => ?_⟩
  obtain ⟨o2, ho2, hc2, hdat2⟩ := hr'
  exact ⟨.non, _, d_write (t' := s.toks) (ob := .dT []) I (by rw [ha]; exact True.intro) hs' ⟨o2, ho2⟩ ⟨Nat.zero_le _, hd, [], .nil, o2, #[], ep + 1, ho2, hc2, hdat2, rfl, List.nodup_nil⟩, rfl, q⟩
end
end Rg
end
section
set_option Elab.async false
set_option linter.all false
set_option maxRecDepth 100000
set_option maxHeartbeats 2000000
/-! Further rules: targets that are attributes, xs[i] op= e, repr of tuples (where nothing is being written), max with a default. -/
namespace Rg
open PySem PySem.Spec PyProof.Rows L2

/-! ### o.f as a target -/
def gFld (K : PySem.W.Frag) (ta : TE) (f : Str) : TG := fun v σ H Q => ta σ H fun x H2 => ∃ a C dx fs, x = .ref a ∧ H2 a = some (.ins C dx fs) ∧ Cls K C ∧ NoAttr K C f ∧ fs.length < 1000 ∧ Q σ (upd H2 a (.ins C dx (putF f v fs)))
section
variable {X : Cx} {o e : Expr} {f : Str} {pos : Pos} {ta te : TE}
theorem pg_fld (ha : PE X o ta) : PG X (.Attribute o f pos) (gFld X.K ta f) := by
  refine ⟨fun pins s σ H v u Q I r h => ?_⟩
  refine PySem.W.kas_attr (thn (ha.run pins s σ H _ I h) fun ov s2 ⟨x, H2, I2, rx, a, C, dx, fs, ex, ea, c, n, l, q2⟩ => ?_)
  subst ex
  obtain rfl : ov = Value.ref a := rx
  exact setattr_ok I2 ea c n l r fun s3 I3 => ⟨σ, _, I3, q2⟩
end

/-! ### xs[i] read, for xs[i] op= e -/
def rGetL (K : PySem.W.Frag) : V → V → Hp → VK → Prop := fun o i H Q => ∃ (p : Addr) (xs : List V) (k : Nat) (v : V), o = .ref p ∧ i = .int (k : Int) ∧ SqL K H p xs ∧ xs[k]? = some v ∧ Q v H
section
variable {X : Cx}
theorem get_list : PGet X (rGetL X.K) := by
  intro pins s σ H o i ov iv Q I ro ri h
  obtain ⟨p, xs, k, v, rfl, rfl, hl, hv, q⟩ := h
  cases ro
  obtain ⟨t, rfl⟩ := ri
  obtain ⟨its, r, pl, hz⟩ := I.list hl
  obtain ⟨w, ew, rw'⟩ := r.get hv
  have hlen := r.length
  have hk : k < xs.length := (List.getElem?_eq_some_iff.mp hv).1
  have hn := line63
  exact wpAny_getItem_list pl.isList (by omega) (by omega) (by simpa using ew) ⟨v, H, I, rw', q⟩
end

/-! ### repr of a tuple, where nothing is being written -/
/-- the text of a value -/
def repV : V → Str
  | .non => "None"
  | .bl b => if b then "True" else "False"
  | .int i => toString i
  | .str x => reprText x
  | _ => "?"
def flatS : V → Bool
  | .non => true
  | .bl _ => true
  | .int i => decide (i.natAbs.log2 < 1920)
  | .str x => decide ((reprText x).length ≤ sizeLine)
  | _ => false
theorem repr_all_flat {prog : Program} {w : World} : ∀ {xs : List V} {us : List Value}, Vals xs us → xs.all flatS = true → ReprAll prog w us (xs.map repV)
  | [], _, .nil, _ => .nil
  | v :: xs, _, .cons r t, h => by
    rw [List.all_cons, Bool.and_eq_true] at h
    refine .cons ?_ (repr_all_flat t h.2)
    have h1 := h.1
    cases v with
    | non => cases (show _ = Value.none from r); exact ReprIs.none
    | bl b => cases (show _ = Value.bool b from r); exact ReprIs.bool b
    | int i => obtain ⟨t, rfl⟩ := (show ∃ t, _ = Value.int i t from r); exact ReprIs.int t (of_decide_eq_true h1)
    | str x => obtain ⟨t, rfl⟩ := (show ∃ t, _ = Value.str x t from r); exact ReprIs.str x t (of_decide_eq_true h1)
    | byt _ => cases h1
    | flt _ => cases h1
    | ref _ => cases h1
    | ty _ => cases h1
def rReprT (K : PySem.W.Frag) : List V → Hp → VK → Prop := fun xs H Q => ∃ (a : Addr) (ys : List V), xs = [.ref a] ∧ SqT K H a ys ∧ ys.all flatS = true ∧ (tupleText (ys.map repV)).length ≤ sizeLine ∧ Q (.str (tupleText (ys.map repV))) H
section
variable {X : Cx} {k : Nat}
theorem call_reprT (hg : X.A.guards = some []) (hu : X.A.units + 64 < cLine) : CallR X (.builtin "repr") (rReprT X.K) := by
  intro pins s σ H xs us Q I r h
  obtain ⟨a, ys, rfl, ht, hf, hz, q⟩ := h
  obtain rfl := Vals.ref1 r
  obtain ⟨its, rv, ⟨o, ho, hcl, n, hd⟩, _⟩ := I.tuple ht
  have hT : s.TypeIs (.ref a) "tuple" := ⟨o, ho, hcl⟩
  have hRA : ReprAll X.prog X.w its.toArray.toList (ys.map repV) := by
    have e : its.toArray.toList = its := by simp
    rw [e]
    exact repr_all_flat rv hf
  refine Calls.call_function_entry PySem.F.kind_repr PySem.F.plain_repr PySem.F.entry_repr (PySem.F.args_repr1 _) ?_
  unfold Builtin.«repr»
  refine wpAny_bind (m := oneArg "repr" _) (wpAny_pure ?_)
  refine wpAny_bind (wpAny_cRoomFor (by show X.A.units + 1 < cLine; omega) ?_)
  refine wpAny_bind (wpAny_specialOf (name := Str.ofString "__repr__") hT PySem.F.slot_tuple_repr.lookup ?_)
  refine wpAny_bind (m := callSpecialIfBound? (.ref a) (Str.ofString "__repr__")) (wpAny_callSpecialIfBound?_slotG (name := Str.ofString "__repr__") hT PySem.F.slot_tuple_repr
    (call_tuple_repr hT (g := []) hg (fun c hc => by cases hc) ho hd hRA (fun u tk => ?_) hz))
  refine wpAny_bind (wpAny_isInstance (T := "str") (b := true) rfl isSubtype_str_str ?_)
  exact wpAny_pure ⟨_, rfl, ⟨.str (tupleText (ys.map repV)), H, I.tok tk, ⟨u, rfl⟩, q⟩⟩
end
end Rg
end
section
set_option Elab.async false
set_option linter.all false
set_option maxRecDepth 100000
set_option maxHeartbeats 2000000
/-! Defs that are called where nothing is being written (no repr is under way): their promises, calls, the law's end. -/
namespace Rg
open PySem PySem.Spec PyProof.Rows L2
def FnG (P : Program) (w : World) (K : PySem.W.Frag) (mg : Str → Option Value) (base : Heap) (k : Nat) (f : Addr) (sp : Sp) : Prop :=
  ∀ (A : Around) (outer : List Env) (s : Shared) (H : Hp) (us : List Value) (vs : List V) (Q : VK), A.guards = some [] → Room k A → Env0 P w K mg base A outer s H → Vals vs us → sp vs H Q E0 →
    codeAny (model P w) A (.call (.ref f) ⟨us, []⟩) (CR CX0 outer P w H s Q E0) s
section
variable {P : Program} {w : World} {K : PySem.W.Frag} {mg : Str → Option Value} {base : Heap}
theorem FnG.of {k : Nat} {f : Addr} {sp : Sp} (F : FnR P w K mg base CX0 k f sp) : FnG P w K mg base k f sp := fun A outer s H us vs Q _ hr e0 r h => F A outer s H us vs Q E0 hr e0 r h
theorem FnG.mono {j k : Nat} {f : Addr} {sp : Sp} (F : FnG P w K mg base j f sp) (h : j ≤ k) : FnG P w K mg base k f sp := fun A outer s H us vs Q hg hr => F A outer s H us vs Q hg (hr.mono h)
theorem fng {x q : Str} {st : Stmt} {f : Addr} {N ps : List Str} {k : Nat} {sp : Sp} (F : FnQ K x q st [] f) (S : FnScope N ps (defScope st)) (len : ∀ vs H Q E, sp vs H Q E → vs.length = ps.length)
    (hb : ∀ (kV doc pm : Value) (an : Option Addr) (cdv ct : Value) (us : List Value), us.length = ps.length → bindArgs (PySem.W.fnOf x q (defArgs st) (defBody st) (defScope st) .none kV doc pm an cdv ct) ⟨us, []⟩ = pure (ps.zip us))
    (hbody : ∀ (cdv : Value) (A : Around) (outer : List Env) (s : Shared) (H : Hp) (vs : List V) (Q : VK), A.guards = some [] → Room k (A.deeper (envOfC q (defScope st) s.heap.objs.size f cdv)) → sp vs H Q E0 →
      ∃ t, PSs (cxOf CX0 P w K mg base N q (defScope st) f cdv A outer s H E0).nox (defBody st) t ∧ t { nx := fun _ H' => Q .non H', rt := Q } (start N vs) H) :
    FnG P w K mg base (k + 1) f sp := by
  obtain ⟨fd, G⟩ := F
  have hbi := G.bindsN hb
  obtain ⟨oc, od, dV, kV, doc, pm, an, cdv, ct, osl, rfl, lk, hcd, _, _⟩ := G.ex
  intro A outer s H us vs Q hg hr e0 r hsp
  have hl : us.length = ps.length := by rw [← r.length]; exact len _ _ _ _ hsp
  have inK : K.In s.heap := e0.mod.kin.keeps fun b o e => (e0.bs b o e).1
  have nolim : s.heap.NoLimit := e0.mod.nolimit.keeps fun b o e => (e0.bs b o e).1
  have bt := hbi s us inK (by rw [List.append_nil]; exact hl)
  rw [List.append_nil] at bt
  have kinds : ∀ y ∈ ps.zip us, (defScope st).names.lookup y.1 = some .local ∨ ((defScope st).names.lookup y.1 = some .cell ∧ ((cellsFrom (s.heap.objs.size + 1) (defScope st).names []).lookup y.1).isSome = true) := fun y hy =>
    (S.par y.1 (List.of_mem_zip hy).1).imp id fun c => ⟨c, PySem.W.cellsFrom_some _ _ _ (.inl c)⟩
  refine codeAny_call_function hr.depth (inK _ _ lk) rfl S.co S.gen rfl (PySem.W.codeRec_of inK hcd) (bt _ _ _ _ ?_)
  refine wpAny_newFunctionEnv_cells S.kind kinds fun env he s1 x => ?_
  subst he
  refine ⟨nolim.keeps x.toInCall.keep, codeAny_func ?_⟩
  obtain ⟨t, ht, hq⟩ := hbody cdv A outer s H vs Q hg (hr.deeper _) hsp
  have I : Inv (cxOf CX0 P w K mg base N q (defScope st) f cdv A outer s H E0) [] (start N vs) H s1 := inv_start S hr.hd e0 (len _ _ _ _ hsp) r x
  refine wpAny_mono ((PSs.nox ht).run [] s1 (start N vs) H _ I hq) (fun fl s' hs => ?_) fun e s' hs => hs
  cases fl with
  | ret u => obtain ⟨v, σ', H', J, rv, q⟩ := hs; exact ⟨v, H', J.os, J.bare, J.base, J.hok, rv, q⟩
  | next => obtain ⟨σ', H', J, q⟩ := hs; exact ⟨.non, H', J.os, J.bare, J.base, J.hok, rfl, q⟩
  | brk => obtain ⟨_, _, _, q⟩ := hs; exact False.elim q
  | cont => obtain ⟨_, _, _, q⟩ := hs; exact False.elim q
end
section
variable {X : Cx} {k : Nat} {f : Addr} {sp : Sp} {x : Str} {p pos : Pos} {e : Expr} {es : List Expr} {t : TA}
theorem run_fnG {pins : List (Addr × Obj)} {σ : L2.St} {H : Hp} {s : Shared} {Q : VK} {us : List Value} {vs : List V} (F : FnG X.prog X.w X.K X.mg X.base k f sp) (hg : X.A.guards = some []) (hr : Room k X.A) (I : Inv X pins σ H s) (r : Vals vs us) (h : sp vs H Q E0) :
    codeAny (model X.prog X.w) X.A (.call (.ref f) ⟨us, []⟩) (fun r s' => match r with | .ok (.ret v) => EP X pins σ Q v s' | .ok _ => False | .error e => X.xe e s') s := by
  refine codeAny_mono (F X.A X.stack s H us vs Q hg hr I.env0 r h) fun r s' hq => ?_
  cases r with
  | error e => exact hq.elim
  | ok fl =>
    cases fl with
    | ret u => exact I.after hq
    | next => exact False.elim hq
    | brk => exact False.elim hq
    | cont => exact False.elim hq
theorem pe_fnG (F : FnG X.prog X.w X.K X.mg X.base k f sp) (gd : X.A.guards = some []) (hr : Room k X.A) (hg : Gl X x) (hm : X.mg x = some (.ref f)) (hk : PySem.W.keepIn X.K (.ref f) = true) (ha : PA X (e :: es) t)
    (hdb : (x == ("__debug__" : Str)) = false := by decide) (he : starEach (e :: es) X.env = (false, eval e X.env) :: starEach es X.env := by rfl) (hpl : (backTo pos (starEach es X.env)).any (·.1) = false := by rfl) :
    PE X (.Call (.Name x p) (e :: es) [] pos) (tFn sp t) := by
  refine ⟨fun pins s σ H Q I h => ?_⟩
  refine wpAny_Call_Name_kw (ld_glob I hg hm ?_ hdb)
  refine PySem.W.callWith_K (h₀ := X.base) I.ok.mod.kin hk (thn (ha.run pos pins s σ H _ I h) fun us s1 ⟨vs, H1, I1, r, q⟩ => ⟨I1.kIn, ?_⟩) he hpl
  exact wpAny_call (run_fnG F gd hr I1 r q)
end
/-! ### the law's end -/
/-- the law's def, called where nothing is being written, at the heap behind the top -/
theorem law_callG {P : Program} {w : World} {K : PySem.W.Frag} {mg mb : Str → Option Value} {k : Nat} {fa a : Addr} {sp : Sp} {s₁ : Shared} {vs : List Value} {ns : List Int}
    (inK : K.In s₁.heap) (hns : s₁.heap.Ns mainGlobals mg) (hb : s₁.heap.Ns builtinsNs mb) (hbb : ∀ x : Str, x ≠ "__name__" → mb x = bootBuiltins x) (hlim : s₁.heap.NoLimit) (hg : s₁.gens = #[])
    (ha : s₁.heap.get? a = some { cls := .type "list", data := .seq vs.toArray }) (hi : IntsAre vs ns) (hl : ns.length ≤ sizeLine) (hr : Room k callerA)
    (F : ∀ base : Heap, K.In base → base.Ns mainGlobals mg → FnG P w K mg base k fa sp)
    (hsp : ∀ H : Hp, Only H → SqL K H a (ns.map V.int) → sp [.ref a] H (fun v _ => v = .bl true) E0) :
    codeAny (model P w) callerA (.call (.ref fa) ⟨[.ref a], []⟩) (fun r s' => r = .ok (.ret (.bool true)) ∧ OldK s₁.heap s'.heap ∧ s'.os = s₁.os ∧ AllBare s'.gens) s₁ := by
  have rv := vals_ints hi
  have lenV := hi.length
  have main : ∀ H : Hp, Only H → SqL K H a (ns.map V.int) → HOk P w H s₁.heap → (∀ b, H b ≠ none → b = a) → (H a ≠ none → K.lookup a = none) →
      codeAny (model P w) callerA (.call (.ref fa) ⟨[.ref a], []⟩) (fun r s' => r = .ok (.ret (.bool true)) ∧ OldK s₁.heap s'.heap ∧ s'.os = s₁.os ∧ AllBare s'.gens) s₁ := by
    intro H hO hS hok hA hK
    have off : ∀ {b : Addr}, b ≠ a → H b = none := fun {b} hb => by
      cases q : H b with
      | none => rfl
      | some u => exact absurd (hA b (by rw [q]; simp)) hb
    have dict_off : ∀ {b : Addr} {o : Obj} {es : Array DictEntry} {ep : Nat}, s₁.heap.get? b = some o → o.data = .dict es ep → H b = none := fun {b o es ep} e d => off fun z => by
      rw [z, ha] at e
      cases e
      exact nomatch (show Data.seq vs.toArray _ = Data.dict es ep from d)
    have nsK : ∀ {b : Addr} {m : Str → Option Value}, s₁.heap.Ns b m → (hidT s₁.heap H).Ns b m := fun {b m} ⟨o, es, ep, e, d, r⟩ => ⟨o, es, ep, hidT_get e (dict_off e d), d, r⟩
    have hKb : K.In (hidT s₁.heap H) := fun b o e => hidT_get (inK b o e) (by
      by_cases hb : b = a
      · cases q : H b with
        | none => rfl
        | some u =>
          rw [hb] at e q
          rw [hK (by rw [q]; simp)] at e
          cases e
      · exact off hb)
    have hM : Mod K mg (hidT s₁.heap H) := ⟨hKb, nsK hns, ⟨mb, nsK hb, hbb⟩, let ⟨mc, h1, h2⟩ := hlim; ⟨mc, nsK h1, h2⟩⟩
    have e0 : Env0 P w K mg (hidT s₁.heap H) callerA [] s₁ H := ⟨rfl, hM, fun b o e => of_hidT e, Nat.le_of_eq (hidT_size _ _), trivial, fun b z => (by simp [frs] at z), hok, .of_eq hg⟩
    refine codeAny_mono (F _ hKb (nsK hns) callerA [] s₁ H [.ref a] [.ref a] _ rfl hr e0 (.cons rfl .nil) (hsp H hO hS)) fun r s' h => ?_
    cases r with
    | error e => exact h.elim
    | ok fl =>
      cases fl with
      | next => exact False.elim h
      | brk => exact False.elim h
      | cont => exact False.elim h
      | ret u =>
        obtain ⟨v, H', os, bare, un, hok', r', q⟩ := h
        cases (show v = .bl true from q)
        obtain rfl : u = Value.bool true := r'
        refine ⟨rfl, OldK.of_keep fun b o e => ?_, os, bare⟩
        cases q : H b with
        | none => exact un.keep b o e q (by simp [frs]) (by simp)
        | some u =>
          rcases hO b with z | ⟨ob, xs, z⟩
          · rw [q] at z; cases z
          · have e1 := (hok b _ z).1
            have e2 := (hok' b _ (un.frzs b ob _ z)).1
            rw [e] at e1
            cases e1
            exact e2
  cases hk : K.lookup a with
  | some o =>
    have e := inK a o hk
    rw [ha] at e
    cases e
    exact main (fun _ => none) (fun _ => .inl rfl) (.inr ⟨_, vs.toArray, _, hk, rfl, rfl, rfl, by rw [List.size_toArray, lenV]; exact hl, by simpa using rv⟩) (fun b u z => nomatch z) (fun b z => absurd rfl z) fun z => absurd rfl z
  | none =>
    have at_ : ∀ {b : Addr}, b ≠ a → (if b = a then some (HO.frz { cls := .type "list", data := .seq vs.toArray } (.lst (ns.map V.int))) else none) = none := fun hb => if_neg hb
    refine main (fun b => if b = a then some (.frz { cls := .type "list", data := .seq vs.toArray } (.lst (ns.map V.int))) else none) (fun b => ?_) (.inl (.inr ⟨{ cls := .type "list", data := .seq vs.toArray }, if_pos rfl⟩)) (fun b u z => ?_) (fun b z => ?_) fun _ => hk
    · by_cases hb : b = a
      · exact .inr ⟨_, _, if_pos hb⟩
      · exact .inl (if_neg hb)
    · by_cases hb : b = a
      · subst hb
        cases (if_pos rfl).symm.trans z
        exact ⟨ha, by rw [List.length_map]; exact hl, vs, _, rv, ha⟩
      · cases (if_neg hb).symm.trans z
    · by_cases hb : b = a
      · exact hb
      · exact absurd (if_neg hb) z
theorem walk_ofG {l : PySem.W.OpenLaw} {n k : Nat} {q : Program} {loose : List Str} {XP : (Str → Option Value) → Heap → Prop} {YP : World → Heap → Prop} {d : DefRec}
    (hn : l.most = some n) (hn2 : n ≤ sizeLine) (hdf : d.params.defaults = []) (hr : Room k callerA)
    (F : ∀ (w : World) (mg : Str → Option Value) (fa : Addr) (h : Heap), YP w h → h.Ns mainGlobals mg → mg d.name = some (.ref fa) →
      ∃ (K : PySem.W.Frag) (sp : Sp), K.In h ∧ (∀ (H : Hp) (a : Addr) (ns : List Int), ns.length ≤ n → Only H → SqL K H a (ns.map V.int) → sp [.ref a] H (fun v _ => v = .bl true) E0) ∧
        ∀ base : Heap, K.In base → base.Ns mainGlobals mg → FnG l.prog w K mg base k fa sp) :
    PySem.W.WalkO q loose XP YP l.row.toRowW d [] (fun f vs => PySem.call f vs) := by
  refine Att.attach_call hn hdf fun w s₀ s₁ mg mb fa o pm cd doc a vs ns G Y ho hd hcd hmg hobj hints hlen hg => ?_
  obtain ⟨K, sp, inK, hsp, hF⟩ := F w mg fa _ Y G.T.g hmg
  exact law_callG inK G.T.g G.T.b G.T.builtins G.T.nolimit hg hobj hints (Nat.le_trans hlen hn2) hr hF fun H hO hS => hsp H a ns hlen hO hS
end Rg
end
section
set_option Elab.async false
set_option linter.all false
set_option maxRecDepth 100000
set_option maxHeartbeats 2000000
/-! max(xs, default=d) over a list of ints. -/
namespace Rg
open PySem PySem.Spec PyProof.Rows L2
section
variable {prog : Program} {w : World} {A : Around} {R : Result → Shared → Prop} {I : Addr} {fp wr : List Addr} {G : Array GenState → Array GenState → Prop} {n : Nat} {P : Nat → Value → Prop} {St : Nat → Shared → Prop}
abbrev dkw (d : Value) : List (Str × Value) := [("default", d)]
theorem mx_turn (W : WalksS prog w A.in1 I fp wr G n P St) (bt : Nat → Nat → Bool) (hcmp : CmpOf prog w A.in1 .Gt P bt) (S : Addr) (hSf : S ∉ fp) (d : Value) :
    ∀ (k j : Nat) (s : Shared) (vb : Value) (c : Nat), n - (j + 1) = k → j + 1 ≤ n → St (j + 1) s → P (argBest bt j) vb →
    s.heap.get? S = some { cls := .type "list", dict := none, data := .seq #[vb, vb] c, slots := #[] } →
    (∀ v s', P (argBest bt (n - 1)) v → Moved (S :: wr) G s s' → R (.ok (.ret v)) s') → codeAny (model prog w) A (.builtin "max.loop" ⟨[.ref I, .none, .ref S], dkw d⟩) R s := by
  have offw : S ∉ wr := fun h => hSf (W.sub _ h)
  have up : ∀ b ∈ wr, b ∈ S :: wr := fun b hb => List.mem_cons_of_mem _ hb
  have hn : (toString "max" ++ toString ".loop" : String) = "max.loop" := by decide
  have ne : ∀ {b : Addr}, b ∉ S :: wr → S ≠ b := fun hb h => hb (by rw [h]; exact List.mem_cons_self)
  intro k
  induction k with
  | zero =>
    intro j s vb c hk hj hst hPb hS hR
    have e : j + 1 = n := by omega
    refine codeAny_builtin PySem.F.entry_max_loop ?_
    rw [Around.under_plainId PySem.F.plain_max_loop _]
    show wpAny _ A.in1 (seqItems? (.ref S) >>= _) _ _ s
    refine wpAny_bind (wpAny_seqItems hS rfl ?_)
    show wpAny _ A.in1 (tryCatch (pyNext (.ref I)) _ >>= _) _ _ s
    refine wpAny_bind (wpAny_tryCatch (W.done s _ _ (e ▸ hst) fun s' hm => ?_))
    have hS' := hm.heap S _ offw hS
    show wpAny _ A.in1 (updateSeq S (fun _ => #[]) >>= _) _ _ _
    refine wpAny_bind ?_
    refine wpAny_updateSeq hS' rfl (wpAny_bind (wpAny_letGo (wpAny_pure ?_)))
    exact hR vb _ (by rw [← e]; exact hPb) ((hm.mono up).then_heap (tk := s'.toks) (Nat.le_refl _) fun b o hb x => (Heap.get?_update_other _ _ (ne hb)).trans x)
  | succ k ih =>
    intro j s vb c hk hj hst hPb hS hR
    have hlt : j + 1 < n := by omega
    refine codeAny_builtin PySem.F.entry_max_loop ?_
    rw [Around.under_plainId PySem.F.plain_max_loop _]
    show wpAny _ A.in1 (seqItems? (.ref S) >>= _) _ _ s
    refine wpAny_bind (wpAny_seqItems hS rfl ?_)
    show wpAny _ A.in1 (tryCatch (pyNext (.ref I)) _ >>= _) _ _ s
    refine wpAny_bind (wpAny_tryCatch (W.item (j + 1) s _ _ hlt hst fun v s' hP hst' hm => ?_))
    have hS' := hm.heap S _ offw hS
    show wpAny _ A.in1 (tryCatch (holding [v, v] (richCompare .Gt v vb >>= _)) _ >>= _) _ _ _
    refine wpAny_bind (wpAny_tryCatch (wpAny_holding (wpAny_bind (hcmp (j + 1) (argBest bt j) v vb _ _ _ hP hPb ?_))))
    refine wpAny_bind (wpAny_holding (wpAny_truthy_bool ?_))
    refine wpAny_bind (wpAny_letGo (wpAny_pure ?_))
    cases hb : bt (j + 1) (argBest bt j) with
    | true =>
      simp only [if_true]
      refine wpAny_bind ?_
      refine wpAny_updateSeq hS' rfl (wpAny_bind (wpAny_letGo ?_))
      rw [hn]
      refine wpAny_pure ⟨plainId_quiet PySem.F.plain_max_loop _, ih (j + 1) _ v _ (by omega) hlt (W.frame _ s' _ s'.toks hst' (Nat.le_refl _) fun b hbf o x => ?_) (by simp only [argBest, hb, if_true]; exact hP)
        (Heap.get?_update_self _ hS' rfl) fun v' s'' hP' hm'' => ?_⟩
      · exact (Heap.get?_update_other _ _ (fun h : S = b => hSf (by rw [h]; exact hbf))).trans x
      · exact hR v' s'' hP' (Moved.trans W.gtrans ((hm.mono up).then_heap (by first | exact Nat.le_refl _ | exact Nat.le_succ _ | omega) fun b o hb x => (Heap.get?_update_other _ _ (ne hb)).trans x) hm'')
    | false =>
      simp only [Bool.false_eq_true, if_false]
      refine wpAny_bind (wpAny_letGo ?_)
      rw [hn]
      refine wpAny_pure ⟨plainId_quiet PySem.F.plain_max_loop _, ih (j + 1) _ vb c (by omega) hlt hst' (by simp only [argBest, hb, Bool.false_eq_true, if_false]; exact hPb) hS' fun v' s'' hP' hm'' => ?_⟩
      exact hR v' s'' hP' (Moved.trans W.gtrans (hm.mono up) hm'')
theorem mx_first (W : WalksS prog w A.in1 I fp wr G n P St) (bt : Nat → Nat → Bool) (hcmp : CmpOf prog w A.in1 .Gt P bt) (S : Addr) (hSf : S ∉ fp) (d : Value) {s : Shared} {c : Nat} (hst : St 0 s)
    (hS : s.heap.get? S = some { cls := .type "list", dict := none, data := .seq #[] c, slots := #[] })
    (hR : ∀ v s', 0 < n → P (argBest bt (n - 1)) v → Moved (S :: wr) G s s' → R (.ok (.ret v)) s') (h0 : ∀ s', n = 0 → Moved (S :: wr) G s s' → R (.ok (.ret d)) s') : codeAny (model prog w) A (.builtin "max.loop" ⟨[.ref I, .none, .ref S], dkw d⟩) R s := by
  have offw : S ∉ wr := fun h => hSf (W.sub _ h)
  have up : ∀ b ∈ wr, b ∈ S :: wr := fun b hb => List.mem_cons_of_mem _ hb
  have hnm : (toString "max" ++ toString ".loop" : String) = "max.loop" := by decide
  have ne : ∀ {b : Addr}, b ∉ S :: wr → S ≠ b := fun hb h => hb (by rw [h]; exact List.mem_cons_self)
  refine codeAny_builtin PySem.F.entry_max_loop ?_
  rw [Around.under_plainId PySem.F.plain_max_loop _]
  show wpAny _ A.in1 (seqItems? (.ref S) >>= _) _ _ s
  refine wpAny_bind (wpAny_seqItems hS rfl ?_)
  show wpAny _ A.in1 (tryCatch (pyNext (.ref I)) _ >>= _) _ _ s
  by_cases hn : 0 < n
  · refine wpAny_bind (wpAny_tryCatch (W.item 0 s _ _ hn hst fun v s' hP hst' hm => ?_))
    have hS' := hm.heap S _ offw hS
    show wpAny _ A.in1 (updateSeq S (fun _ => #[v, v]) >>= _) _ _ _
    refine wpAny_bind ?_
    refine wpAny_updateSeq hS' rfl ?_
    rw [hnm]
    refine wpAny_pure ⟨plainId_quiet PySem.F.plain_max_loop _, mx_turn W bt hcmp S hSf d _ 0 _ v _ rfl hn (W.frame _ s' _ s'.toks hst' (Nat.le_refl _) fun b hbf o x => ?_) hP (Heap.get?_update_self _ hS' rfl) fun v' s'' hP' hm'' => ?_⟩
    · exact (Heap.get?_update_other _ _ (fun h : S = b => hSf (by rw [h]; exact hbf))).trans x
    · exact hR v' s'' hn hP' (Moved.trans W.gtrans ((hm.mono up).then_heap (by first | exact Nat.le_refl _ | exact Nat.le_succ _ | omega) fun b o hb x => (Heap.get?_update_other _ _ (ne hb)).trans x) hm'')
  · have e : n = 0 := by omega
    refine wpAny_bind (wpAny_tryCatch (W.done s _ _ (e ▸ hst) fun s' hm => ?_))
    show wpAny _ A.in1 (rule _ >>= _) _ _ _
    refine wpAny_bind (wpAny_rule (wpAny_pure ?_))
    exact h0 s' e (hm.mono up)
end
theorem bindD (d : Value) : Builtin.Builtins.bindParams "max" ["key", "default"] 0 ⟨[], dkw d⟩ = pure [none, some d] := by kernel_rfl
theorem args_maxD (a d : Value) : argsOk "max" ⟨[a], dkw d⟩ := by unfold argsOk; kernel_rfl
section
variable {prog : Program} {w : World} {A : Around} {E : Value → Shared → Prop} {s : Shared}
theorem call_maxD {x d : Value} {Q : Value → Shared → Prop}
    (h : wpAny (model prog w) A.in1 (pyIter x) (fun it s₂ => ∃ I fp wr G n P St bt, it = .ref I ∧ WalksS prog w A.in1 I fp wr G n P St ∧ St 0 s₂ ∧ (∀ b ∈ fp, b < s₂.heap.objs.size) ∧ CmpOf prog w A.in1 .Gt P bt ∧
      (∀ v s', 0 < n → P (argBest bt (n - 1)) v → Moved wr G s₂ s' → Q v s') ∧ ∀ s', n = 0 → Moved wr G s₂ s' → Q d s') E s) :
    wpAny (model prog w) A (call (.builtin "max") [x] (dkw d)) Q E s := by
  have hnm : (toString "max" ++ toString ".loop" : String) = "max.loop" := by decide
  refine kmk_tree PySem.F.kind_max PySem.F.plain_max PySem.F.entry_max (args_maxD _ _) ?_
  show wpAny _ A.in1 (Builtin.Builtins.bindParams "max" ["key", "default"] 0 ⟨[], dkw d⟩ >>= _) _ _ s
  refine wpAny_bind (wpAny_of_eq (bindD d) ?_)
  refine wpAny_bind (wpAny_pure ?_)
  refine wpAny_bind (wpAny_mono h (fun it s₂ h₂ => ?_) fun _ _ e => e)
  obtain ⟨I, fp, wr, G, n, P, St, bt, rfl, W, hst, hfp, hcmp, hQ, h0⟩ := h₂
  refine wpAny_bind (wpAny_newObj_type ?_)
  have hSf : s₂.heap.objs.size ∉ fp := fun hm => Nat.lt_irrefl _ (hfp _ hm)
  rw [hnm]
  refine wpAny_pure ⟨plainId_quiet PySem.F.plain_max_loop _, mx_first W bt hcmp s₂.heap.objs.size hSf d (W.frame 0 s₂ _ s₂.toks hst (Nat.le_refl _) fun b _ o e => Heap.get?_push_of_some _ e) (Heap.get?_push_size _ rfl) (fun v s' hn hP hm => ?_) fun s' e hm => ?_⟩
  · exact hQ v s' hn hP (Moved.drop_new (tk := s₂.toks) hm (Nat.le_refl _))
  · exact h0 s' e (Moved.drop_new (tk := s₂.toks) hm (Nat.le_refl _))
end
def rMaxD (K : PySem.W.Frag) : List V → List V → Hp → VK → Prop := fun vs zs H Q => ∃ (a : Addr) (ns : List Int) (d : Int), vs = [.ref a] ∧ zs = [.int d] ∧ SqL K H a (ns.map V.int) ∧ (ns = [] → Q (.int d) H) ∧ ∀ m, m ∈ ns → (∀ y, y ∈ ns → y ≤ m) → Q (.int m) H
section
variable {X : Cx}
theorem cr_maxD (hc : X.calm = true) : CallRK X (.builtin "max") ["default"] (rMaxD X.K) := by
  intro pins s σ H xs zs us ws Q I r rz h
  obtain ⟨a, ns, d, rfl, rfl, hl, q0, q⟩ := h
  obtain rfl := Vals.ref1 r
  obtain ⟨w1, rfl, e1⟩ := rz.one
  obtain ⟨td, rfl⟩ := (show ∃ t, w1 = Value.int d t from e1)
  obtain ⟨its, rv, pl, hz⟩ := I.list hl
  have hi := rv.ints
  obtain ⟨xs, e⟩ := hi.allInts.items
  have hns : ns = xs.toList.map (·.1) := by rw [← hi.numsOf, ← nums_intItems, ← e]
  have hL := pl.isList
  rw [e] at hL
  show wpAny _ _ (call (.builtin "max") [.ref a] (dkw (.int d td))) _ _ _
  refine call_maxD (iter_intList hL fun s₂ es st hfp hlI => ?_)
  subst es
  refine ⟨_, _, _, _, _, _, _, _, rfl, (Walks.list (A := X.A.in1) (I.ok.hd hc) _ a hlI (intItems xs)).toS, st, hfp, CmpOf.ints_gt (numAt xs) (fun _ _ => intItems_at), fun v s' hn hP hm => ?_, fun s' hn hm => ?_⟩
  · obtain ⟨hp, g, dr, tk, os⟩ := s'
    obtain ⟨h1, rfl, rfl, rfl, _⟩ := hm
    obtain ⟨t, rfl⟩ := intItems_at hP
    obtain ⟨b1, b2⟩ := argBest_gt (numAt xs) ((intItems xs).size - 1)
    have hsz : (intItems xs).size = xs.size := by simp [intItems]
    rw [hsz] at hn b1 b2 ⊢
    refine ⟨.int (numAt xs (argBest (fun i j => decide (numAt xs i > numAt xs j)) (xs.size - 1))), H, I.kept (h' := hp) (t' := tk) (old_kept h1), ⟨_, rfl⟩, q _ ?_ fun y hy => ?_⟩
    · rw [hns, numAt_eq]; exact getD_mem (by rw [List.length_map, Array.length_toList]; omega)
    · rw [hns] at hy
      obtain ⟨j, hj, rfl⟩ := mem_getD hy
      rw [List.length_map, Array.length_toList] at hj
      rw [← numAt_eq]; exact b2 j (by omega)
  · obtain ⟨hp, g, dr, tk, os⟩ := s'
    obtain ⟨h1, rfl, rfl, rfl, _⟩ := hm
    have hsz : (intItems xs).size = xs.size := by simp [intItems]
    rw [hsz] at hn
    refine ⟨.int d, H, I.kept (h' := hp) (t' := tk) (old_kept h1), ⟨_, rfl⟩, q0 ?_⟩
    rw [hns]
    have : xs.toList = [] := by
      cases hx : xs.toList with
      | nil => rfl
      | cons _ _ => have := congrArg List.length hx; rw [Array.length_toList, hn] at this; simp at this
    rw [this]
    rfl
end
end Rg
end
section
set_option Elab.async false
set_option linter.all false
set_option maxRecDepth 100000
set_option maxHeartbeats 2000000
/-! list(zip(xs, ys)) over two lists. -/
namespace Rg
open PySem PySem.Spec PyProof.Rows L2 PySem.W
/-- the addresses as hold the pairs of xs and ys, in order, as tuples; they lie above lo and rise -/
structure ZlG (xs ys : Array Value) (lo : Addr) (h : Heap) (as : List Addr) : Prop where
  rise : as.Pairwise (· < ·)
  above : ∀ a ∈ as, lo < a
  pairs : ∀ (j : Nat) (a : Addr), as[j]? = some a → ∃ x y, xs[j]? = some x ∧ ys[j]? = some y ∧ h.get? a = some { cls := .type "tuple", data := .seq #[x, y] }
theorem ZlG.there {xs ys : Array Value} {lo : Addr} {h : Heap} {as : List Addr} (g : ZlG xs ys lo h as) {a : Addr} (ha : a ∈ as) : a < h.objs.size := by
  obtain ⟨j, hj⟩ := List.mem_iff_getElem?.mp ha
  obtain ⟨_, _, _, _, e⟩ := g.pairs j a hj
  exact Heap.lt_size e
theorem ZlG.low {xs ys : Array Value} {lo lo' : Addr} {h : Heap} {as : List Addr} (g : ZlG xs ys lo h as) (hl : lo' ≤ lo) : ZlG xs ys lo' h as := ⟨g.rise, fun a ha => Nat.lt_of_le_of_lt hl (g.above a ha), g.pairs⟩
/-- the zip ahead of turn i -/
def ZlSt (z TI TO i1 i2 l1 l2 S : Addr) (xs ys : Array Value) (i : Nat) (h : Heap) : Prop :=
  IsPair h TI (.ref i1) (.ref i2) ∧ h.IsListIter i1 l1 i ∧ h.IsListIter i2 l2 i ∧ h.IsList l1 xs ∧ h.IsList l2 ys ∧
    ((IsZip h z TI TO .none ∧ ∃ a b, IsPair h TO a b) ∨ ∃ T f oT, IsZipHeld h z TI TO T f ∧ h.get? T = some oT ∧ T ≠ z ∧ T ≠ i1 ∧ T ≠ i2 ∧ T ≠ S)
abbrev zwr (z TO i1 i2 : Addr) : List Addr := [z, TO, i1, i2]
section
variable {prog : Program} {w : World} {A : Around} {E : Value → Shared → Prop} {s : Shared} {z TI TO i1 i2 l1 l2 S : Addr} {xs ys : Array Value}
structure ZlOff (z TI TO i1 i2 l1 l2 S : Addr) : Prop where
  z : S ≠ z
  ti : S ≠ TI
  to : S ≠ TO
  a : S ≠ i1
  b : S ≠ i2
  c : S ≠ l1
  d : S ≠ l2
theorem ZlSt.frame {i : Nat} {h h' : Heap} (O : ZlOff z TI TO i1 i2 l1 l2 S) (st : ZlSt z TI TO i1 i2 l1 l2 S xs ys i h) (hk : ∀ b o, b ≠ S → h.get? b = some o → h'.get? b = some o) : ZlSt z TI TO i1 i2 l1 l2 S xs ys i h' := by
  obtain ⟨hTI, h1, h2, hl1, hl2, hz⟩ := st
  refine ⟨hk _ _ (Ne.symm O.ti) hTI, h1.at fun o e => hk _ o (Ne.symm O.a) e, h2.at fun o e => hk _ o (Ne.symm O.b) e, hl1.at fun o e => hk _ o (Ne.symm O.c) e, hl2.at fun o e => hk _ o (Ne.symm O.d) e, ?_⟩
  rcases hz with ⟨hz, a, b, hTO⟩ | ⟨T, f, oT, hz, hT, r1, r2, r3, r4⟩
  · exact .inl ⟨hk _ _ (Ne.symm O.z) hz, a, b, hk _ _ (Ne.symm O.to) hTO⟩
  · exact .inr ⟨T, f, oT, hk _ _ (Ne.symm O.z) hz, hk _ _ r4 hT, r1, r2, r3, r4⟩
theorem zl_item {i : Nat} {Q : Option Value → Shared → Prop} (D : ZipApart z TI TO i1 i2 l1 l2) (hst : ZlSt z TI TO i1 i2 l1 l2 S xs ys i s.heap) (hS : S < s.heap.objs.size) (hi : i < min xs.size ys.size)
    (hQ : ∀ h' x y, xs[i]? = some x → ys[i]? = some y → ZlSt z TI TO i1 i2 l1 l2 S xs ys (i + 1) h' → h'.get? s.heap.objs.size = some { cls := .type "tuple", data := .seq #[x, y] } → h'.objs.size = s.heap.objs.size + 1 →
      (∀ b o, b ∉ zwr z TO i1 i2 → s.heap.get? b = some o → h'.get? b = some o) → Q (some (.ref s.heap.objs.size)) { s with heap := h' }) : wpAny (model prog w) A (pyNext (.ref z)) Q E s := by
  obtain ⟨hTI, h1, h2, hl1, hl2, hz⟩ := hst
  have hix : i < xs.size := Nat.lt_of_lt_of_le hi (Nat.min_le_left ..)
  have hiy : i < ys.size := Nat.lt_of_lt_of_le hi (Nat.min_le_right ..)
  have ex := Array.getElem?_eq_getElem hix
  have ey := Array.getElem?_eq_getElem hiy
  have lt : ∀ {c o}, s.heap.get? c = some o → s.heap.objs.size ≠ c := fun e => Nat.ne_of_gt (Heap.lt_size e)
  have n1 : s.heap.objs.size ≠ i1 := let ⟨_, e, _⟩ := h1; lt e
  have n2 : s.heap.objs.size ≠ i2 := let ⟨_, e, _⟩ := h2; lt e
  have nm : ∀ {c : Addr}, c ∉ zwr z TO i1 i2 → c ≠ z ∧ c ≠ TO ∧ c ≠ i1 ∧ c ≠ i2 := fun hc => ⟨fun x => hc (by simp [x]), fun x => hc (by simp [x]), fun x => hc (by simp [x]), fun x => hc (by simp [x])⟩
  rcases hz with ⟨hz, a, b, hTO⟩ | ⟨T, f, oT, hz, hT, r1, r2, r3, r4⟩
  · refine wpAny_pyNext_zip_item D hz hTI hTO h1 h2 hl1 hl2 ex ey fun h' a1 a2 a3 a4 a5 a6 hk => ?_
    exact hQ h' _ _ ex ey ⟨hk _ _ D.TIz D.TITO D.TIi1 D.TIi2 hTI, a3, a4, hl1.at fun o e => hk _ o D.l1z D.l1TO D.l1i1 D.l1i2 e, hl2.at fun o e => hk _ o D.l2z D.l2TO D.l2i1 D.l2i2 e,
      .inr ⟨s.heap.objs.size, false, _, a1, a5, lt hz, n1, n2, Nat.ne_of_gt hS⟩⟩ a5 a6 fun c o hc e => hk c o (nm hc).1 (nm hc).2.1 (nm hc).2.2.1 (nm hc).2.2.2 e
  · refine wpAny_pyNext_zip_item_held D hz hT hTI h1 h2 hl1 hl2 ex ey fun h' a1 a3 a4 a5 a6 hk => ?_
    exact hQ h' _ _ ex ey ⟨hk _ _ D.TIz D.TIi1 D.TIi2 hTI, a3, a4, hl1.at fun o e => hk _ o D.l1z D.l1i1 D.l1i2 e, hl2.at fun o e => hk _ o D.l2z D.l2i1 D.l2i2 e,
      .inr ⟨T, true, oT, a1, hk _ _ r1 r2 r3 hT, r1, r2, r3, r4⟩⟩ a5 a6 fun c o hc e => hk c o (nm hc).1 (nm hc).2.2.1 (nm hc).2.2.2 e
theorem zl_done {Q : Option Value → Shared → Prop} (hA : A.handled = none) (D : ZipApart z TI TO i1 i2 l1 l2) (hst : ZlSt z TI TO i1 i2 l1 l2 S xs ys (min xs.size ys.size) s.heap)
    (hQ : ∀ h', (∀ b o, b ∉ zwr z TO i1 i2 → s.heap.get? b = some o → h'.get? b = some o) → Q none { s with heap := h' }) : wpAny (model prog w) A (pyNext (.ref z)) Q E s := by
  obtain ⟨hTI, h1, h2, hl1, hl2, hz⟩ := hst
  have nm : ∀ {c : Addr}, c ∉ zwr z TO i1 i2 → c ≠ z ∧ c ≠ TO ∧ c ≠ i1 ∧ c ≠ i2 := fun hc => ⟨fun x => hc (by simp [x]), fun x => hc (by simp [x]), fun x => hc (by simp [x]), fun x => hc (by simp [x])⟩
  have hend : xs[min xs.size ys.size]? = none ∨ ys[min xs.size ys.size]? = none := by
    rcases Nat.le_total xs.size ys.size with h | h
    · exact .inl (Array.getElem?_eq_none (by rw [Nat.min_eq_left h]; exact Nat.le_refl _))
    · exact .inr (Array.getElem?_eq_none (by rw [Nat.min_eq_right h]; exact Nat.le_refl _))
  rcases hz with ⟨hz, a, b, hTO⟩ | ⟨T, f, oT, hz, hT, r1, r2, r3, r4⟩
  · exact wpAny_pyNext_zip_end hA D hz hTI hTO h1 h2 hl1 hl2 hend fun h' hk => hQ h' fun c o hc e => hk c o (nm hc).1 (nm hc).2.1 (nm hc).2.2.1 (nm hc).2.2.2 e
  · exact wpAny_pyNext_zip_end_held hA D hz hT hTI h1 h2 hl1 hl2 hend fun h' hk => hQ h' fun c o hc e => hk c o (nm hc).1 (nm hc).2.2.1 (nm hc).2.2.2 e
end
section
variable {prog : Program} {w : World} {A : Around} {s : Shared} {R : Result → Shared → Prop} {z TI TO i1 i2 l1 l2 S lo : Addr} {xs ys : Array Value}
theorem zl_loop (hh : A.handled = none) (D : ZipApart z TI TO i1 i2 l1 l2) (O : ZlOff z TI TO i1 i2 l1 l2 S) (hn : min xs.size ys.size ≤ sizeLine) (hlo : S ≤ lo) (hloW : ∀ b ∈ zwr z TO i1 i2, b ≤ lo) (res : Value) {h₁ : Heap}
    (hR : ∀ h' tk acc c as, (∀ b o, b ≠ S → b ∉ zwr z TO i1 i2 → h₁.get? b = some o → h'.get? b = some o) → h'.get? S = some { cls := .type "list", dict := none, data := .seq acc c, slots := #[] } → as.length = min xs.size ys.size → ZlG xs ys lo h' as →
      acc.toList = as.map Value.ref → R (.ok (.ret res)) { s with heap := h', toks := tk }) :
    ∀ (k i : Nat) (h : Heap) (tk c : Nat) (acc : Array Value) (as : List Addr), min xs.size ys.size - i = k → i ≤ min xs.size ys.size → ZlSt z TI TO i1 i2 l1 l2 S xs ys i h → (∀ b o, b ≠ S → b ∉ zwr z TO i1 i2 → h₁.get? b = some o → h.get? b = some o) →
      h.get? S = some { cls := .type "list", dict := none, data := .seq acc c, slots := #[] } → acc.toList = as.map Value.ref → as.length = i → ZlG xs ys lo h as → lo < h.objs.size →
      codeAny (model prog w) A (.builtin "list.extend.loop" ⟨[.ref S, .ref z, res], []⟩) R { s with heap := h, toks := tk } := by
  have hSw : S ∉ zwr z TO i1 i2 := fun hm => by
    simp only [List.mem_cons, List.not_mem_nil, or_false] at hm
    rcases hm with e | e | e | e
    · exact O.z e
    · exact O.to e
    · exact O.a e
    · exact O.b e
  have offW : ∀ {b : Addr}, lo < b → b ∉ zwr z TO i1 i2 := fun hb hm => Nat.lt_irrefl _ (Nat.lt_of_lt_of_le hb (hloW _ hm))
  intro k
  induction k with
  | zero =>
    intro i h tk c acc as hk hi hst hkeep hS hacc hal hG hIs
    have hin : i = min xs.size ys.size := by omega
    subst hin
    refine codeAny_builtin PySem.F.entry_extend_loop ?_
    rw [Around.under_plainId PySem.F.plain_extend_loop _]
    show wpAny _ A.in1 (pyNext (.ref z) >>= _) _ _ _
    refine wpAny_bind (zl_done (s := { s with heap := h, toks := tk }) (A := A.in1) hh D hst fun h' he => ?_)
    refine wpAny_pure (hR h' tk acc c as (fun b o h1 h2 e => he b o h2 (hkeep b o h1 h2 e)) (he S _ hSw hS) hal ⟨hG.rise, hG.above, fun j a hj => ?_⟩ hacc)
    obtain ⟨x, y, e1, e2, e3⟩ := hG.pairs j a hj
    exact ⟨x, y, e1, e2, he a _ (offW (hG.above a (List.mem_of_getElem? hj))) e3⟩
  | succ k ih =>
    intro i h tk c acc as hk hi hst hkeep hS hacc hal hG hIs
    have hlt : i < min xs.size ys.size := by omega
    have hsz : acc.size = i := by rw [← Array.length_toList, hacc, List.length_map, hal]
    refine codeAny_builtin PySem.F.entry_extend_loop ?_
    rw [Around.under_plainId PySem.F.plain_extend_loop _]
    show wpAny _ A.in1 (pyNext (.ref z) >>= _) _ _ _
    refine wpAny_bind (zl_item (s := { s with heap := h, toks := tk }) (S := S) D hst (Heap.lt_size hS) hlt fun h' x y ex ey hst' ht hz hkp => ?_)
    dsimp only at ht hz hkp ⊢
    have hS' := hkp S _ hSw hS
    have up : ∀ b o, b ≠ S → h'.get? b = some o → (h'.update S (Obj.mapSeq (·.push (Value.ref h.objs.size)))).get? b = some o := fun b o hb e => (Heap.get?_update_other _ _ (Ne.symm hb)).trans e
    have hSl : S < h.objs.size := Heap.lt_size hS
    show wpAny _ A.in1 (updateSeq S (·.push (Value.ref h.objs.size)) >>= _) _ _ _
    refine wpAny_bind ?_
    refine wpAny_updateSeq hS' rfl (wpAny_pure ⟨plainId_quiet PySem.F.plain_extend_loop _, ih (i + 1) _ tk _ (acc.push (Value.ref h.objs.size)) (as ++ [h.objs.size]) (by omega) hlt (hst'.frame O up)
      (fun b o h1 h2 e => up b o h1 (hkp b o h2 (hkeep b o h1 h2 e))) (Heap.get?_update_self _ hS' rfl) (by rw [Array.toList_push, hacc, List.map_append]; rfl) (by rw [List.length_append, hal]; rfl) ⟨?_, ?_, ?_⟩ ?_⟩) (by rw [hsz]; omega) (by show (acc.push (Value.ref h.objs.size)).size ≤ sizeLine + 1; rw [Array.size_push, hsz]; omega)
    · refine List.pairwise_append.mpr ⟨hG.rise, List.pairwise_singleton _ _, fun a ha b hb => ?_⟩
      rw [List.mem_singleton.mp hb]
      exact hG.there ha
    · intro a ha
      rcases List.mem_append.mp ha with ha | ha
      · exact hG.above a ha
      · rw [List.mem_singleton.mp ha]; exact hIs
    · intro j b hj
      rcases Nat.lt_trichotomy j as.length with h1 | h1 | h1
      · rw [List.getElem?_append_left h1] at hj
        obtain ⟨x', y', f1, f2, f3⟩ := hG.pairs j b hj
        have hb := hG.above b (List.mem_of_getElem? hj)
        exact ⟨x', y', f1, f2, up b _ (Nat.ne_of_gt (Nat.lt_of_le_of_lt hlo hb)) (hkp b _ (offW hb) f3)⟩
      · subst h1
        have hb : h.objs.size = b := by simpa using hj
        subst hb
        exact ⟨x, y, by rw [hal]; exact ex, by rw [hal]; exact ey, up _ _ (Nat.ne_of_gt hSl) ht⟩
      · have hnone : (as ++ [h.objs.size])[j]? = none := List.getElem?_eq_none (by rw [List.length_append, List.length_singleton]; omega)
        rw [hnone] at hj; cases hj
    · have e : (h'.update S (Obj.mapSeq (·.push (Value.ref h.objs.size)))).get? h.objs.size = _ := up _ _ (Nat.ne_of_gt hSl) ht
      exact Nat.lt_trans hIs (Heap.lt_size e)
end
theorem zl_no_len : typeLookup (.type "zip") "__len__" = pure none := am_miss_of_fast (by decide +kernel)
theorem zl_no_hint : typeLookup (.type "zip") "__length_hint__" = pure none := am_miss_of_fast (by decide +kernel)
section
variable {prog : Program} {w : World} {A : Around} {E : Value → Shared → Prop} {s : Shared} {z TI TO i1 i2 l1 l2 : Addr} {xs ys : Array Value}
theorem zl_hint {r : Addr} (hT : s.TypeIs (.ref r) "zip") {Q : Bool → Shared → Prop} (h : Q true s) : wpAny (model prog w) A (Builtin.List.listLengthHint (.ref r)) Q E s := by
  unfold Builtin.List.listLengthHint
  refine wpAny_bind (wpAny_specialOf hT zl_no_len ?_)
  refine PySem.W.KFB.if_not rfl ?_
  refine PySem.W.KFB.if_not rfl ?_
  refine wpAny_bind (wpAny_specialOf hT zl_no_hint ?_)
  exact wpAny_pure h
theorem zl_extend {R : Result → Shared → Prop} {S : Addr} (hh : A.handled = none) (D : ZipApart z TI TO i1 i2 l1 l2) (O : ZlOff z TI TO i1 i2 l1 l2 S) (hst : ZlSt z TI TO i1 i2 l1 l2 S xs ys 0 s.heap) (hz : s.TypeIs (.ref z) "zip") (hzz : ∃ f T, IsZip s.heap z TI TO f ∧ T = f) (res : Value) (c₀ : Nat)
    (hS : s.heap.get? S = some { cls := .type "list", data := .seq #[] c₀ }) (hlo : ∀ b ∈ zwr z TO i1 i2, b ≤ S)
    (hR : ∀ h' tk acc c as, (∀ b o, b ≠ S → b ∉ zwr z TO i1 i2 → s.heap.get? b = some o → h'.get? b = some o) → h'.get? S = some { cls := .type "list", dict := none, data := .seq acc c, slots := #[] } → as.length = min xs.size ys.size → ZlG xs ys S h' as →
      acc.toList = as.map Value.ref → R (.ok (.ret res)) { s with heap := h', toks := tk }) (hn : min xs.size ys.size ≤ sizeLine) :
    wpAny (model prog w) A.in1 (Builtin.List.listExtendWith (.ref S) (.ref z) res)
      (fun fin s' => match fin with | .done f => R (.ok f) s' | .again c' => c'.quiet = true ∧ codeAny (model prog w) A c' R s') (fun e s' => R (.error e) s') s := by
  have key : ∀ (h : Heap) (c₁ tk : Nat), (∀ b o, b ≠ S → s.heap.get? b = some o → h.get? b = some o) →
      h.get? S = some { cls := .type "list", data := .seq #[] c₁ } → codeAny (model prog w) A (.builtin "list.extend.loop" ⟨[.ref S, .ref z, res], []⟩) R { s with heap := h, toks := tk } := by
    intro h c₁ tk hk hS₁
    exact zl_loop (s := s) (h₁ := s.heap) (lo := S) hh D O hn (Nat.le_refl _) hlo res hR (min xs.size ys.size) 0 h tk c₁ #[] [] (Nat.sub_zero _) (Nat.zero_le _) (hst.frame O hk) (fun b o hb _ e => hk b o hb e) hS₁ rfl rfl
      ⟨List.Pairwise.nil, (fun _ ha => nomatch ha), (fun j a hj => by simp at hj)⟩ (Heap.lt_size hS₁)
  unfold Builtin.List.listExtendWith
  refine wpAny_bind (wpAny_typeOf (T := "zip") hz ?_)
  have h1 : Builtin.List.listSameRef (.ref S) (.ref z) = false := by simp [Builtin.List.listSameRef, O.z]
  have h2 : (Value.type "zip" == Value.type "list") = false := by decide
  have h3 : (Value.type "zip" == Value.type "tuple") = false := by decide
  simp only [h1, h2, h3, Bool.or_false, Bool.false_eq_true, if_false]
  obtain ⟨f, T, hzz, _⟩ := hzz
  refine wpAny_bind (wpAny_pyIter_zip hzz ?_)
  refine wpAny_bind (wpAny_holding (zl_hint hz ?_))
  refine wpAny_ite_split (fun _ => ?_) (fun _ => wpAny_pure ⟨plainId_quiet PySem.F.plain_extend_loop _, key _ c₀ _ (fun b o _ e => e) hS⟩)
  refine wpAny_bind (wpAny_rule ?_)
  refine wpAny_bind ?_
  show wpAny _ _ (updateSeq S (·.push .none) >>= fun _ => updateSeq S (·.pop)) _ _ _
  refine wpAny_bind (wpAny_updateSeq hS rfl ?_)
  have hS₂ := Heap.get?_update_self (Obj.mapSeq (·.push Value.none)) hS rfl
  refine wpAny_updateSeq (hz := by seq_fits) hS₂ rfl ?_
  have hS₃ := Heap.get?_update_self (Obj.mapSeq (·.pop)) hS₂ rfl
  refine wpAny_pure ⟨plainId_quiet PySem.F.plain_extend_loop _, key _ _ _ (fun b o hb e => ?_) hS₃⟩
  exact (Heap.get?_update_other _ _ (Ne.symm hb)).trans ((Heap.get?_update_other _ _ (Ne.symm hb)).trans e)
theorem zl_call {Q : Value → Shared → Prop} (hh : A.handled = none) (D : ZipApart z TI TO i1 i2 l1 l2) (hz : IsZip s.heap z TI TO .none) (hTI : IsPair s.heap TI (.ref i1) (.ref i2)) (hTO : ∃ a b, IsPair s.heap TO a b) (h1 : s.heap.IsListIter i1 l1 0) (h2 : s.heap.IsListIter i2 l2 0)
    (hl1 : s.heap.IsList l1 xs) (hl2 : s.heap.IsList l2 ys) (hn : min xs.size ys.size ≤ sizeLine)
    (hQ : ∀ h' tk acc c as, (∀ b o, b ∉ zwr z TO i1 i2 → s.heap.get? b = some o → h'.get? b = some o) → h'.get? s.heap.objs.size = some { cls := .type "list", dict := none, data := .seq acc c, slots := #[] } → as.length = min xs.size ys.size → ZlG xs ys s.heap.objs.size h' as →
      acc.toList = as.map Value.ref → Q (.ref s.heap.objs.size) { s with heap := h', toks := tk }) :
    wpAny (model prog w) A (call (.type "list") [.ref z]) Q E s := by
  refine callType_codes (Q₁ := fun obj s₁ => obj = .ref s.heap.objs.size ∧ s₁ = { s with heap := s.heap.push { cls := .type "list", data := .seq #[] } }) PySem.F.called_list (PySem.F.typeCall_list_1 _) PySem.F.entry_list_init
    (code_list_new _ ⟨rfl, rfl⟩) fun obj s₁ h₁ => ?_
  obtain ⟨rfl, rfl⟩ := h₁
  have hS : (s.heap.push { cls := .type "list", data := .seq #[] }).get? s.heap.objs.size = some { cls := .type "list", data := .seq #[] } := Heap.get?_push_size _ rfl
  obtain ⟨ta, tb, hTO⟩ := hTO
  have lz : z < s.heap.objs.size := Heap.lt_size hz
  have lti : TI < s.heap.objs.size := Heap.lt_size hTI
  have lto : TO < s.heap.objs.size := Heap.lt_size hTO
  have la : i1 < s.heap.objs.size := let ⟨_, e, _⟩ := h1; Heap.lt_size e
  have lb : i2 < s.heap.objs.size := let ⟨_, e, _⟩ := h2; Heap.lt_size e
  have lc : l1 < s.heap.objs.size := let ⟨_, e, _⟩ := hl1; Heap.lt_size e
  have ld : l2 < s.heap.objs.size := let ⟨_, e, _⟩ := hl2; Heap.lt_size e
  have O : ZlOff z TI TO i1 i2 l1 l2 s.heap.objs.size := ⟨Nat.ne_of_gt lz, Nat.ne_of_gt lti, Nat.ne_of_gt lto, Nat.ne_of_gt la, Nat.ne_of_gt lb, Nat.ne_of_gt lc, Nat.ne_of_gt ld⟩
  refine ⟨⟨_, hS, rfl⟩, PySem.F.args_list_init_2 _ _, ?_⟩
  show wpAny _ _ (do let old ← Builtin.List.listItems (.ref s.heap.objs.size); Builtin.List.listUpdate (.ref s.heap.objs.size) (fun _ => #[]); letGo old.toList.reverse; Builtin.List.listExtendWith (.ref s.heap.objs.size) (.ref z) .none) _ _ _
  refine wpAny_bind ?_
  unfold Builtin.List.listItems
  refine wpAny_bind (wpAny_seqItems hS rfl (wpAny_pure ?_))
  show wpAny _ _ (updateSeq s.heap.objs.size (fun _ => #[]) >>= fun _ => letGo (#[] : Array Value).toList.reverse >>= fun _ => Builtin.List.listExtendWith (.ref s.heap.objs.size) (.ref z) .none) _ _ _
  refine wpAny_bind (wpAny_updateSeq hS rfl ?_)
  have hS₂ := Heap.get?_update_self (Obj.mapSeq (fun _ => (#[] : Array Value))) hS rfl
  have oth : ∀ b o, b ≠ s.heap.objs.size → s.heap.get? b = some o → ((s.heap.push { cls := .type "list", data := .seq #[] }).update s.heap.objs.size (Obj.mapSeq (fun _ => (#[] : Array Value)))).get? b = some o :=
    fun b o hb e => (Heap.get?_update_other _ _ (Ne.symm hb)).trans (Heap.get?_push_of_some _ e)
  refine wpAny_bind (wpAny_letGo ?_)
  have st0 : ZlSt z TI TO i1 i2 l1 l2 s.heap.objs.size xs ys 0 s.heap := ⟨hTI, h1, h2, hl1, hl2, .inl ⟨hz, ta, tb, hTO⟩⟩
  have hz2 : IsZip ((s.heap.push { cls := .type "list", data := .seq #[] }).update s.heap.objs.size (Obj.mapSeq (fun _ => (#[] : Array Value)))) z TI TO .none := oth _ _ (Nat.ne_of_lt lz) hz
  refine zl_extend (prog := prog) (w := w) (A := A.in1) (s := { s with heap := (s.heap.push { cls := .type "list", data := .seq #[] }).update s.heap.objs.size (Obj.mapSeq (fun _ => (#[] : Array Value))) }) hh D O (st0.frame O oth) ⟨_, hz2, rfl⟩ ⟨_, _, hz2, rfl⟩ .none _ hS₂ (fun b hb => ?_) (fun h' tk acc c as hk hS' hl hG hacc => ⟨rfl, hQ h' tk acc c as (fun b o hb e => ?_) hS' hl hG hacc⟩) hn
  · simp only [List.mem_cons, List.not_mem_nil, or_false] at hb
    rcases hb with rfl | rfl | rfl | rfl
    · exact Nat.le_of_lt lz
    · exact Nat.le_of_lt lto
    · exact Nat.le_of_lt la
    · exact Nat.le_of_lt lb
  · have hne : b ≠ s.heap.objs.size := Nat.ne_of_lt (Heap.lt_size e)
    exact hk b o hne hb (oth b o hne e)
end
/-! ### the rule -/
/-- the tuples tracked at their addresses -/
def putP : Hp → List Addr → List (V × V) → Hp
  | H, a :: as, p :: ps => putP (upd H a (.tup [p.1, p.2])) as ps
  | H, _, _ => H
theorem putP_off {b : Addr} : ∀ (as : List Addr) (ps : List (V × V)) (H : Hp), b ∉ as → putP H as ps b = H b
  | [], _, _, _ => rfl
  | _ :: _, [], _, _ => rfl
  | a :: as, p :: ps, H, h => by
    show putP (upd H a (.tup [p.1, p.2])) as ps b = H b
    rw [putP_off as ps _ (fun z => h (List.mem_cons_of_mem _ z)), upd_ne (fun z => h (by rw [z]; exact List.mem_cons_self))]
theorem putP_at : ∀ (as : List Addr) (ps : List (V × V)) (H : Hp), as.length = ps.length → as.Nodup → Paired (fun (t : Addr) (p : V × V) => putP H as ps t = some (.tup [p.1, p.2])) as ps
  | [], [], _, _, _ => .nil
  | [], _ :: _, _, h, _ => by cases h
  | _ :: _, [], _, h, _ => by cases h
  | a :: as, p :: ps, H, h, hn => by
    have hn' := List.nodup_cons.mp hn
    refine .cons ?_ (putP_at as ps (upd H a (.tup [p.1, p.2])) (Nat.succ.inj h) hn'.2)
    show putP (upd H a (.tup [p.1, p.2])) as ps a = some (.tup [p.1, p.2])
    rw [putP_off as ps _ hn'.1, upd_same]
def tListZip (K : PySem.W.Frag) (ta : TA) : TE := fun σ H Q => ta σ H fun vs H1 => ∃ a b xs ys, vs = [.ref a, .ref b] ∧ SqL K H1 a xs ∧ SqL K H1 b ys ∧
  ∀ (H' : Hp) (p : Addr) (ts : List Addr), Same H1 H' → H1 p = none → (∀ t ∈ ts, H1 t = none) → H' p = some (.lst (ts.map V.ref)) → Paired (fun (t : Addr) (q : V × V) => H' t = some (.tup [q.1, q.2])) ts (xs.zip ys) → Q (.ref p) H'
theorem pe_listZip {X : Cx} {e e2 : Expr} {ta : TA} {p p2 pos pos2 : Pos} (hc : X.calm = true) (hgl : Gl X "list") (hml : X.mg "list" = none) (hg : Gl X "zip") (hm : X.mg "zip" = none) (ha : PA X [e, e2] ta)
    (hs0 : starEach [.Call (.Name "zip" p2) [e, e2] [] pos2] X.env = (false, eval (.Call (.Name "zip" p2) [e, e2] [] pos2) X.env) :: starEach [] X.env := by rfl)
    (hs : starEach [e, e2] X.env = (false, eval e X.env) :: starEach [e2] X.env := by rfl) (hpl : (backTo pos2 (starEach [e2] X.env)).any (·.1) = false := by rfl) :
    PE X (.Call (.Name "list" p) [.Call (.Name "zip" p2) [e, e2] [] pos2] [] pos) (tListZip X.K ta) := by
  refine ⟨fun pins s σ H Q I h => ?_⟩
  have hbl : bootBuiltins "list" = some (.type "list") := by decide +kernel
  refine wpAny_Call_Name_kw (ld_blt I hgl hml hbl ?_)
  refine PyProof.Rows.callWith_type1 ?_ hs0 rfl
  rw [hs0]
  show wpAny _ _ (spliced ((false, eval (.Call (.Name "zip" p2) [e, e2] [] pos2) X.env) :: backTo pos (starEach [] X.env))) _ _ s
  refine Calls.spliced_cons ?_
  refine wpAny_Call_Name_kw (ld_blt I hg hm PyProof.Rows.boot_zip (PyProof.Rows.callWith_type1 (thn (ha.run pos2 pins s σ H _ I h) fun us s1 ⟨vs, H1, I1, r1, q1⟩ => ?_) hs hpl))
  obtain ⟨a, b, xs, ys, ex, hqx, hqy, q⟩ := q1
  subst ex
  obtain ⟨u1, u2, rfl, e1, e2⟩ := vals2 r1
  obtain rfl : u1 = Value.ref a := e1
  obtain rfl : u2 = Value.ref b := e2
  obtain ⟨its, rv, pl1, hz1⟩ := I1.list hqx
  obtain ⟨its2, rv2, pl2, hz2⟩ := I1.list hqy
  have la : a < s1.heap.objs.size := pl1.lt
  have lb : b < s1.heap.objs.size := pl2.lt
  have n1 := rv.length
  have n2 := rv2.length
  refine call_zip_2 pl1.isList pl2.isList fun h' hz hTI hTO g1 g2 hsz hk => ?_
  refine Calls.spliced_nil ?_
  have hmin : min its.toArray.size its2.toArray.size = (xs.zip ys).length := by rw [List.size_toArray, List.size_toArray, List.length_zip, n1, n2]
  refine zl_call (s := { s1 with heap := h' }) (I1.ok.hd hc) (PySem.W.ktu_apart s1.heap.objs.size a b la lb) hz hTI ⟨_, _, hTO⟩ g1 g2 (pl1.isList.at fun o e => hk _ o e) (pl2.isList.at fun o e => hk _ o e) (by rw [List.size_toArray, List.size_toArray]; omega) fun h2 tk acc c as hk2 hS hl hG hacc => ?_
  have low : s1.heap.objs.size ≤ h'.objs.size := by rw [hsz]; exact Nat.le_add_right _ _
  have kp1 : ∀ b o, s1.heap.get? b = some o → h2.get? b = some o := fun b o e => by
    refine hk2 b o (fun hmem => ?_) (hk b o e)
    have lt := Heap.lt_size e
    have e' : b = s1.heap.objs.size + 4 ∨ b = s1.heap.objs.size + 3 ∨ b = s1.heap.objs.size ∨ b = s1.heap.objs.size + 1 := by simpa using hmem
    have lt' : (b : Nat) < s1.heap.objs.size := lt
    rcases e' with z | z | z | z
    all_goals (rw [z] at lt'; exact absurd lt' (by first | exact Nat.not_lt.mpr (Nat.le_add_right _ _) | exact Nat.lt_irrefl _))
  have S0 : s1.heap.objs.size ≤ h'.objs.size := low
  have hSn : h'.objs.size ∉ as := fun z => Nat.lt_irrefl _ (hG.above _ z)
  have nd : as.Nodup := List.Pairwise.imp (fun {a b} (h : a < b) => Nat.ne_of_lt h) hG.rise
  have newA : ∀ t ∈ as, H1 t = none := fun t ht => I1.hok.fresh (Nat.le_trans low (Nat.le_of_lt (hG.above t ht)))
  have newS : H1 h'.objs.size = none := I1.hok.fresh low
  have hlen : as.length = (xs.zip ys).length := hl.trans hmin
  have atP := putP_at as (xs.zip ys) (upd H1 h'.objs.size (.lst (as.map V.ref))) hlen nd
  have off : ∀ b, b ∉ as → b ≠ h'.objs.size → putP (upd H1 h'.objs.size (.lst (as.map V.ref))) as (xs.zip ys) b = H1 b := fun b h1 h2 => by rw [putP_off as _ _ h1, upd_ne h2]
  have lowb : ∀ b o, s1.heap.get? b = some o → b ∉ as ∧ b ≠ h'.objs.size := fun b o e => ⟨fun z => absurd (Nat.lt_of_lt_of_le (Heap.lt_size e) low) (Nat.not_lt.mpr (Nat.le_of_lt (hG.above b z))), Nat.ne_of_lt (Nat.lt_of_lt_of_le (Heap.lt_size e) low)⟩
  have kp : Same H1 (putP (upd H1 h'.objs.size (.lst (as.map V.ref))) as (xs.zip ys)) := fun b u e => by
    rw [off b (fun z => by rw [newA b z] at e; cases e) (fun z => by rw [z, newS] at e; cases e)]
    exact e
  have eS : putP (upd H1 h'.objs.size (.lst (as.map V.ref))) as (xs.zip ys) h'.objs.size = some (.lst (as.map V.ref)) := by rw [putP_off as _ _ hSn, upd_same]
  refine ⟨.ref h'.objs.size, _, ?_, rfl, q _ _ as kp newS newA eS atP⟩
  refine I1.call' (ch := []) rfl ⟨fun b o q _ _ _ => kp1 b o q, fun b o q _ _ _ => ⟨o.slots, kp1 b o q⟩, fun b o q n _ => ?_, fun b o q _ => ⟨o, kp1 b o q⟩, fun b xs q => kp b _ q, fun b o u q => kp b _ q, fun b ps q => ⟨#[], by rw [kp b _ q]; simp⟩⟩ (fun b u q => ?_) I1.bare fun b z => by simp at z
  · obtain ⟨z1, z2⟩ := lowb b o q
    rw [off b z1 z2]
    exact n
  · by_cases hb : b ∈ as
    · obtain ⟨j, pk, f1, f2, f3⟩ := LiI.paired_ix atP hb
      rw [f3] at q
      cases q
      obtain ⟨x, y, k1, k2, k3⟩ := hG.pairs j b f1
      rw [List.getElem?_zip_eq_some] at f2
      obtain ⟨x', hx', rx⟩ := rv.get f2.1
      obtain ⟨y', hy', ry⟩ := rv2.get f2.2
      rw [List.getElem?_toArray, hx'] at k1
      rw [List.getElem?_toArray, hy'] at k2
      cases k1
      cases k2
      exact ⟨by show 2 ≤ sizeLine; decide, [_, _], .cons rx (.cons ry .nil), ⟨_, k3, rfl, _, rfl⟩⟩
    · by_cases hb2 : b = h'.objs.size
      · rw [hb2] at q ⊢
        rw [eS] at q
        cases q
        refine ⟨?_, acc.toList, c, by rw [hacc]; exact LiI.vals_refs as, ?_⟩
        · rw [List.length_map, hlen, List.length_zip]
          omega
        · rw [Array.toArray_toList]
          exact hS
      · rw [off b hb hb2] at q
        exact (I1.hok b u q).stay (fun d v _ y => kp1 d v y) (fun d y => kp d _ y) fun d xs y => kp d _ y
end Rg
end
section
set_option Elab.async false
set_option linter.all false
set_option maxRecDepth 100000
set_option maxHeartbeats 0
/-! What stands behind the program's top, read off the heap by one run in the kernel. -/
namespace Rg
open PySem PySem.Spec PyProof.Rows L2
/-! ### records: a property's getter, a classmethod's def -/
def propAt (K : PySem.W.Frag) (p : Addr) : Addr := match PySem.W.recIn K p "property" with
  | some (.ref g :: _) => g
  | _ => 0
def clmAt (K : PySem.W.Frag) (p : Addr) : Addr := match PySem.W.recIn K p "classmethod" with
  | some (.ref g :: _) => g
  | _ => 0
/-! ### a def, wherever it stands -/
structure DefB where
  adr : PySem.W.Frag → Addr
  name : Str
  qual : Str
  st : Stmt
  kwd : List (Str × He.Dv) := []
def DefB.kws (K : PySem.W.Frag) (d : DefB) : List (Str × V) := d.kwd.map fun q => (q.1, q.2.v K)
abbrev ObB : Type := Option (Str × Str × Arguments × FuncBody × Scope × Addr × List (Str × Addr) × Addr)
def obB (K : PySem.W.Frag) (a : Addr) : ObB := match K.lookup a with
  | some ⟨_, _, .func g, _⟩ => some (g.name, g.qualname, g.params, g.body, g.scope, g.globals, g.closure, g.builtins)
  | _ => none
def DefB.val (d : DefB) : ObB := some (d.name, d.qual, defArgs d.st, .stmts (defBody d.st), defScope d.st, mainGlobals, [], builtinsNs)
def DefB.good (K : PySem.W.Frag) (d : DefB) : Bool := PySem.W.keepIn K (.ref (d.adr K)) && (match K.lookup (d.adr K) with
  | some ⟨_, _, .func g, _⟩ => PySem.W.codeIn K g.code d.qual && (He.dflB K g.defaults [] && He.kwdB K g.kwdefaults (d.kws K))
  | _ => false)
theorem DefB.fun_ {K : PySem.W.Frag} {d : DefB} (e : obB K (d.adr K) = d.val) (c : d.good K = true) : FnQ K d.name d.qual d.st (d.kws K) (d.adr K) := by
  obtain ⟨kp, c2⟩ := He.ba c
  unfold obB at e
  cases q : K.lookup (d.adr K) with
  | none => rw [q] at c2; cases c2
  | some o =>
    obtain ⟨oc, od, dt, osl⟩ := o
    rw [q] at c2 e
    cases dt with
    | func g =>
      obtain ⟨a1, a2, a3, a4, a5, a6, a7, a8, a9, a10, a11, a12, a13, a14, a15⟩ := g
      have e2 : (some (a1, a2, a3, a4, a5, a6, a7, a15) : ObB) = some (d.name, d.qual, defArgs d.st, .stmts (defBody d.st), defScope d.st, mainGlobals, [], builtinsNs) := e
      simp only [Option.some.injEq, Prod.mk.injEq] at e2
      obtain ⟨h1, h2, h3, h4, h5, h6, h7, h8⟩ := e2
      subst h1 h2 h3 h4 h5 h6 h7 h8
      have c3 : (PySem.W.codeIn K a13 d.qual && (He.dflB K a8 [] && He.kwdB K a9 (d.kws K))) = true := c2
      obtain ⟨k1, k2⟩ := He.ba c3
      obtain ⟨k3, k4⟩ := He.ba k2
      exact ⟨_, ⟨oc, od, a8, a9, a10, a11, a12, a13, a14, osl, rfl, q, k1, He.dflB_ok k3, He.kwdB_ok k4⟩, kp⟩
    | _ => cases c2
/-! ### further facts -/
def propB (K : PySem.W.Frag) (C : Addr) (f : Str) : Bool := He.eqO (PySem.W.findIn K (.ref C) f) (some (some (.ref (He.ma K C f)))) &&
  (He.eqO (PySem.W.specialIn K (.ref (He.ma K C f)) "__get__") (some (some (.builtin "property.__get__"))) && (decide (PySem.W.takesIn K (.ref (He.ma K C f)) = some true) && decide ((PySem.W.recIn K (He.ma K C f) "property").map (fun l => l.head?) = some (some (.ref (propAt K (He.ma K C f)))))))
theorem propB_ok {K : PySem.W.Frag} {C : Addr} {f : Str} (h : propB K C f = true) : PropOf K C f (He.ma K C f) (propAt K (He.ma K C f)) := by
  obtain ⟨h1, h⟩ := He.ba h
  obtain ⟨h2, h⟩ := He.ba h
  obtain ⟨h3, h4⟩ := He.ba h
  refine ⟨He.eqO_ok h1, He.eqO_ok h2, of_decide_eq_true h3, ?_⟩
  have h5 := of_decide_eq_true h4
  cases q : PySem.W.recIn K (He.ma K C f) "property" with
  | none => rw [q] at h5; cases h5
  | some l =>
    rw [q] at h5
    cases l with
    | nil => cases h5
    | cons v r =>
      have e : v = .ref (propAt K (He.ma K C f)) := Option.some.inj (Option.some.inj h5)
      exact ⟨r, by rw [← e]⟩
def readB (K : PySem.W.Frag) (C : Addr) : Bool := PySem.W.readsIn K C (.type "type") && He.eqO (PySem.W.specialIn K (.ref C) "__getattribute__") (some (some (.builtin "type.__getattribute__")))
theorem readB_ok {K : PySem.W.Frag} {C : Addr} (h : readB K C = true) : ClX.CRead K C (.type "type") := ⟨(He.ba h).1, He.eqO_ok (He.ba h).2⟩
def cvalB (K : PySem.W.Frag) (C : Addr) (f : Str) (v : V) : Bool := match PySem.W.findCls K (.ref C) (.type "type") f with
  | some (.val u) => He.relB v u
  | _ => false
theorem cvalB_ok {K : PySem.W.Frag} {C : Addr} {f : Str} {v : V} (h : cvalB K C f v = true) : ∃ u, ClX.CVal K C (.type "type") f v u := by
  unfold cvalB at h
  cases q : PySem.W.findCls K (.ref C) (.type "type") f with
  | none => rw [q] at h; cases h
  | some r =>
    rw [q] at h
    cases r with
    | val u => exact ⟨u, q, He.relB_ok h⟩
    | get _ _ _ _ => cases h
def clmB (K : PySem.W.Frag) (C : Addr) (m : Str) : Bool := (match PySem.W.findCls K (.ref C) (.type "type") m with
  | some (.get g p o c) => decide (g = .builtin "classmethod.__get__") && (decide (p = .ref (He.ma K C m)) && (decide (o = .none) && decide (c = .ref C)))
  | _ => false) && (decide ((PySem.W.recIn K (He.ma K C m) "classmethod").map (fun l => l.head?) = some (some (.ref (clmAt K (He.ma K C m))))) && PySem.W.fnIn K (clmAt K (He.ma K C m)))
theorem clmB_ok {K : PySem.W.Frag} {C : Addr} {m : Str} (h : clmB K C m = true) : ClX.CMet K C (.type "type") m (He.ma K C m) (clmAt K (He.ma K C m)) := by
  obtain ⟨h1, h⟩ := He.ba h
  obtain ⟨h2, h3⟩ := He.ba h
  refine ⟨?_, ?_, h3⟩
  · cases q : PySem.W.findCls K (.ref C) (.type "type") m with
    | none => rw [q] at h1; cases h1
    | some r =>
      rw [q] at h1
      cases r with
      | val u => cases h1
      | get g p o c =>
        obtain ⟨a1, a⟩ := He.ba h1
        obtain ⟨a2, a⟩ := He.ba a
        obtain ⟨a3, a4⟩ := He.ba a
        rw [of_decide_eq_true a1, of_decide_eq_true a2, of_decide_eq_true a3, of_decide_eq_true a4]
  · have h5 := of_decide_eq_true h2
    cases q : PySem.W.recIn K (He.ma K C m) "classmethod" with
    | none => rw [q] at h5; cases h5
    | some l =>
      rw [q] at h5
      cases l with
      | nil => cases h5
      | cons v r =>
        have e : v = .ref (clmAt K (He.ma K C m)) := Option.some.inj (Option.some.inj h5)
        exact ⟨r, by rw [← e]⟩
/-! ### the Hook -/
abbrev AlB : Type := Bool × List ObB
def obsB (ex : PySem.W.Frag → Bool) (fn : List DefB) (K : PySem.W.Frag) : AlB := (ex K && fn.all fun d => d.good K, fn.map fun d => obB K (d.adr K))
def valB (fn : List DefB) : AlB := (true, fn.map DefB.val)
def SaysB (ex : PySem.W.Frag → Bool) (fn : List DefB) (K : PySem.W.Frag) : Prop := obsB ex fn K = valB fn
def obsBG (n : Nat) (ex : PySem.W.Frag → Bool) (fn : List DefB) (g : Addr → Option Obj) : AlB := obsB ex fn (He.frG g (He.asD g n ++ [cStatics]))
def hookB (n : Nat) (ex : PySem.W.Frag → Bool) (fn : List DefB) : PySem.W.Hook where
  α := AlB
  obs := fun s => obsBG n ex fn s.heap.get?
  val := fun _ => valB fn
  says := fun _ h => ∃ K : PySem.W.Frag, K.In h ∧ SaysB ex fn K
  of := fun _ _ e => ⟨_, He.frG_in, e⟩
  keeps := fun _ _ _ ⟨K, hK, c⟩ k => ⟨K, PySem.W.Frag.In.keeps hK k, c⟩
theorem obsBG_eq {n : Nat} {ex : PySem.W.Frag → Bool} {fn : List DefB} {g : Addr → Option Obj} {s : Shared} (h : ∀ a, g a = s.heap.get? a) : obsBG n ex fn g = (hookB n ex fn).obs s := by
  rw [show g = s.heap.get? from funext h]
  rfl
theorem SaysB.more {ex : PySem.W.Frag → Bool} {fn : List DefB} {K : PySem.W.Frag} (c : SaysB ex fn K) : ex K = true :=
  (He.ba (show (ex K && fn.all fun d => d.good K) = true from congrArg (fun z : AlB => z.1) c)).1
theorem SaysB.def_ {ex : PySem.W.Frag → Bool} {fn : List DefB} {K : PySem.W.Frag} (c : SaysB ex fn K) (i : Nat) {d : DefB} (h : fn[i]? = some d) : FnQ K d.name d.qual d.st (d.kws K) (d.adr K) := by
  have c2 := (He.ba (show (ex K && fn.all fun d => d.good K) = true from congrArg (fun z : AlB => z.1) c)).2
  have e : fn.map (fun d => obB K (d.adr K)) = fn.map DefB.val := congrArg (fun z : AlB => z.2) c
  have e2 : (fn.map fun d => obB K (d.adr K))[i]? = (fn.map DefB.val)[i]? := by rw [e]
  rw [List.getElem?_map, List.getElem?_map, h] at e2
  exact DefB.fun_ (Option.some.inj e2) (List.all_eq_true.mp c2 d (List.mem_of_getElem? h))
/-! ### the program's -/
def fa : List He.Fa := [.glo "is_integer",
  .glo "is_within",
  .glo "is_word",
  .glo "is_leaf",
  .glo "is_reference",
  .glo "is_item",
  .glo "is_box",
  .glo "pair_of",
  .glo "check_limit",
  .glo "steps_until_deep",
  .glo "word_at",
  .glo "equality",
  .glo "word_of_items",
  .glo "find",
  .glo "count",
  .glo "contains",
  .glo "remove",
  .glo "_law_bag",
  .glo "_law_take",
  .glo "_law_leaf",
  .glo "_law_contents",
  .glo "_law_twofold",
  .glo "_law_heap",
  .glo "_law_shown",
  .glo "_law_told",
  .glo "_law_course",
  .glo "_law_find_right",
  .glo "_law_all_right",
  .glo "law",
  .glo "Verdicts",
  .cls "Verdicts",
  .mkr "Verdicts",
  .noat "Verdicts" "lists",
  .noat "Verdicts" "known",
  .noat "Verdicts" "deepest",
  .glo "Outcome",
  .cls "Outcome",
  .mkr "Outcome",
  .noat "Outcome" "word",
  .noat "Outcome" "number",
  .noat "Outcome" "verdicts",
  .noat "Outcome" "course",
  .noat "Outcome" "loop",
  .noat "Outcome" "steps",
  .noat "Outcome" "depth",
  .glo "Heap",
  .cls "Heap",
  .mkr "Heap",
  .noat "Heap" "lists",
  .meth "Verdicts" "__init__",
  .meth "Verdicts" "of_pair",
  .meth "Verdicts" "go_on",
  .meth "Verdicts" "decide",
  .meth "Verdicts" "entered_from",
  .meth "Outcome" "__init__",
  .meth "Outcome" "measure",
  .meth "Outcome" "at",
  .meth "Heap" "__init__",
  .meth "Heap" "__len__",
  .meth "Heap" "__contains__",
  .meth "Heap" "need_box",
  .meth "Heap" "need_place",
  .meth "Heap" "need_item",
  .meth "Heap" "need_room",
  .meth "Heap" "take",
  .meth "Heap" "look",
  .meth "Heap" "contents",
  .meth "Heap" "copy",
  .free "isinstance",
  .free "int",
  .free "bool",
  .free "str",
  .free "tuple",
  .free "list",
  .free "len",
  .free "all",
  .free "max",
  .free "min",
  .free "sum",
  .free "range",
  .free "enumerate",
  .free "zip",
  .free "repr",
  .free "abs",
  .str "BOX" "box",
  .str "LETTERS" "abcdefghijklmnopqrstuvwxyz",
  .str "EQUAL" "equal",
  .str "UNLIKE" "unlike",
  .str "ENDLESS" "endless",
  .str "TOO_DEEP" "too deep",
  .str "FOUND" "found",
  .str "ABSENT" "absent",
  .str "COUNTED" "counted",
  .int "MOST_LETTERS" 8,
  .int "MOST_LIMIT" 1000000000000000000000000000000,
  .int "LENGTHS" (-1)]
def d_is_integer : DefB := ⟨fun K => He.ga K "is_integer", "is_integer", "is_integer", s_is_integer, []⟩
def d_is_within : DefB := ⟨fun K => He.ga K "is_within", "is_within", "is_within", s_is_within, []⟩
def d_is_word : DefB := ⟨fun K => He.ga K "is_word", "is_word", "is_word", s_is_word, []⟩
def d_is_leaf : DefB := ⟨fun K => He.ga K "is_leaf", "is_leaf", "is_leaf", s_is_leaf, []⟩
def d_is_reference : DefB := ⟨fun K => He.ga K "is_reference", "is_reference", "is_reference", s_is_reference, []⟩
def d_is_item : DefB := ⟨fun K => He.ga K "is_item", "is_item", "is_item", s_is_item, []⟩
def d_is_box : DefB := ⟨fun K => He.ga K "is_box", "is_box", "is_box", s_is_box, []⟩
def d_pair_of : DefB := ⟨fun K => He.ga K "pair_of", "pair_of", "pair_of", s_pair_of, []⟩
def d_check_limit : DefB := ⟨fun K => He.ga K "check_limit", "check_limit", "check_limit", s_check_limit, []⟩
def dV_init : DefB := ⟨fun K => He.ma K (He.ga K "Verdicts") "__init__", "__init__", "Verdicts.__init__", sV_init, []⟩
def dV_of_pair : DefB := ⟨fun K => He.ma K (He.ga K "Verdicts") "of_pair", "of_pair", "Verdicts.of_pair", sV_of_pair, []⟩
def dV_go_on : DefB := ⟨fun K => He.ma K (He.ga K "Verdicts") "go_on", "go_on", "Verdicts.go_on", sV_go_on, []⟩
def dV_decide : DefB := ⟨fun K => He.ma K (He.ga K "Verdicts") "decide", "decide", "Verdicts.decide", sV_decide, []⟩
def dV_entered_from : DefB := ⟨fun K => He.ma K (He.ga K "Verdicts") "entered_from", "entered_from", "Verdicts.entered_from", sV_entered_from, []⟩
def d_steps_until_deep : DefB := ⟨fun K => He.ga K "steps_until_deep", "steps_until_deep", "steps_until_deep", s_steps_until_deep, []⟩
def dO_init : DefB := ⟨fun K => He.ma K (He.ga K "Outcome") "__init__", "__init__", "Outcome.__init__", sO_init, [("number", .non), ("loop", .non)]⟩
def dO_ends : DefB := ⟨fun K => propAt K (He.ma K (He.ga K "Outcome") "ends"), "ends", "Outcome.ends", sO_ends, []⟩
def dO_measure : DefB := ⟨fun K => He.ma K (He.ga K "Outcome") "measure", "measure", "Outcome.measure", sO_measure, []⟩
def dO_at : DefB := ⟨fun K => He.ma K (He.ga K "Outcome") "at", "at", "Outcome.at", sO_at, []⟩
def d_word_at : DefB := ⟨fun K => He.ga K "word_at", "word_at", "word_at", s_word_at, []⟩
def d_equality : DefB := ⟨fun K => He.ga K "equality", "equality", "equality", s_equality, []⟩
def d_word_of_items : DefB := ⟨fun K => He.ga K "word_of_items", "word_of_items", "word_of_items", s_word_of_items, []⟩
def d_find : DefB := ⟨fun K => He.ga K "find", "find", "find", s_find, [("since", .int 0)]⟩
def d_count : DefB := ⟨fun K => He.ga K "count", "count", "count", s_count, []⟩
def d_contains : DefB := ⟨fun K => He.ga K "contains", "contains", "contains", s_contains, [("limit", .non)]⟩
def d_remove : DefB := ⟨fun K => He.ga K "remove", "remove", "remove", s_remove, [("limit", .non)]⟩
def dH_init : DefB := ⟨fun K => He.ma K (He.ga K "Heap") "__init__", "__init__", "Heap.__init__", sH_init, []⟩
def dH_of : DefB := ⟨fun K => clmAt K (He.ma K (He.ga K "Heap") "of"), "of", "Heap.of", sH_of, []⟩
def dH_len : DefB := ⟨fun K => He.ma K (He.ga K "Heap") "__len__", "__len__", "Heap.__len__", sH_len, []⟩
def dH_contains : DefB := ⟨fun K => He.ma K (He.ga K "Heap") "__contains__", "__contains__", "Heap.__contains__", sH_contains, []⟩
def dH_need_box : DefB := ⟨fun K => He.ma K (He.ga K "Heap") "need_box", "need_box", "Heap.need_box", sH_need_box, []⟩
def dH_need_place : DefB := ⟨fun K => He.ma K (He.ga K "Heap") "need_place", "need_place", "Heap.need_place", sH_need_place, []⟩
def dH_need_item : DefB := ⟨fun K => He.ma K (He.ga K "Heap") "need_item", "need_item", "Heap.need_item", sH_need_item, []⟩
def dH_need_room : DefB := ⟨fun K => He.ma K (He.ga K "Heap") "need_room", "need_room", "Heap.need_room", sH_need_room, []⟩
def dH_take : DefB := ⟨fun K => He.ma K (He.ga K "Heap") "take", "take", "Heap.take", sH_take, []⟩
def dH_look : DefB := ⟨fun K => He.ma K (He.ga K "Heap") "look", "look", "Heap.look", sH_look, []⟩
def dH_contents : DefB := ⟨fun K => He.ma K (He.ga K "Heap") "contents", "contents", "Heap.contents", sH_contents, []⟩
def dH_copy : DefB := ⟨fun K => He.ma K (He.ga K "Heap") "copy", "copy", "Heap.copy", sH_copy, []⟩
def d_Lbag : DefB := ⟨fun K => He.ga K "_law_bag", "_law_bag", "_law_bag", s_Lbag, []⟩
def d_Ltake : DefB := ⟨fun K => He.ga K "_law_take", "_law_take", "_law_take", s_Ltake, []⟩
def d_Lleaf : DefB := ⟨fun K => He.ga K "_law_leaf", "_law_leaf", "_law_leaf", s_Lleaf, []⟩
def d_Lcontents : DefB := ⟨fun K => He.ga K "_law_contents", "_law_contents", "_law_contents", s_Lcontents, []⟩
def d_Ltwofold : DefB := ⟨fun K => He.ga K "_law_twofold", "_law_twofold", "_law_twofold", s_Ltwofold, []⟩
def d_Lheap : DefB := ⟨fun K => He.ga K "_law_heap", "_law_heap", "_law_heap", s_Lheap, []⟩
def d_Lshown : DefB := ⟨fun K => He.ga K "_law_shown", "_law_shown", "_law_shown", s_Lshown, []⟩
def d_Ltold : DefB := ⟨fun K => He.ga K "_law_told", "_law_told", "_law_told", s_Ltold, []⟩
def d_Lcourse : DefB := ⟨fun K => He.ga K "_law_course", "_law_course", "_law_course", s_Lcourse, []⟩
def d_Lfind_right : DefB := ⟨fun K => He.ga K "_law_find_right", "_law_find_right", "_law_find_right", s_Lfind_right, []⟩
def d_Lall_right : DefB := ⟨fun K => He.ga K "_law_all_right", "_law_all_right", "_law_all_right", s_Lall_right, []⟩
def d_law : DefB := ⟨fun K => He.ga K "law", "law", "law", s_law, []⟩
def fn : List DefB := [d_is_integer, d_is_within, d_is_word, d_is_leaf, d_is_reference, d_is_item, d_is_box, d_pair_of, d_check_limit, dV_init, dV_of_pair, dV_go_on, dV_decide, dV_entered_from, d_steps_until_deep, dO_init, dO_ends, dO_measure, dO_at, d_word_at, d_equality, d_word_of_items, d_find, d_count, d_contains, d_remove, dH_init, dH_of, dH_len, dH_contains, dH_need_box, dH_need_place, dH_need_item, dH_need_room, dH_take, dH_look, dH_contents, dH_copy, d_Lbag, d_Ltake, d_Lleaf, d_Lcontents, d_Ltwofold, d_Lheap, d_Lshown, d_Ltold, d_Lcourse, d_Lfind_right, d_Lall_right, d_law]
def ex (K : PySem.W.Frag) : Bool := (fa.all fun f => f.ok K) && (propB K (He.ga K "Outcome") "ends" && (readB K (He.ga K "Heap") && (cvalB K (He.ga K "Heap") "MOST_BOXES" (.int 60) && (cvalB K (He.ga K "Heap") "MOST_ITEMS" (.int 300) && clmB K (He.ga K "Heap") "of"))))
abbrev R : PySem.W.OpenRow := PySem.W.OpenLaw.row PySem.Challenge.rw_ringlists_k31_whole_searches_by_comparin
abbrev hk : PySem.W.Hook := hookB 6 ex fn
def ob (s : PySem.W.SharedT) : AlB := obsBG 6 ex fn (HandSHeadRun.getT s)
theorem ob_eq (s : PySem.W.SharedT) : ob s = hk.obs s.abs := obsBG_eq (HandSHeadRun.getT_eq s)
def loose1 : List PySem.Str := ["_wall", "RingError", "BadItem", "BadLimit", "NotThere", "NoBox", "NoPlace", "Full", "TooDeep", "Endless", "BOX", "LETTERS", "MOST_LETTERS", "MOST_LIMIT", "is_integer", "is_within", "is_word", "is_leaf", "is_reference", "is_item", "is_box", "pair_of", "check_limit", "EQUAL", "UNLIKE", "ENDLESS", "LENGTHS", "Verdicts", "steps_until_deep", "TOO_DEEP"]
def loose2 : List PySem.Str := ["Outcome", "word_at", "equality", "FOUND", "ABSENT", "COUNTED", "word_of_items", "find", "count", "contains", "remove", "Heap", "_law_bag", "_law_take", "_law_leaf", "_law_contents", "_law_twofold", "_law_heap", "_law_shown", "_law_told", "_law_course", "_law_find_right", "_law_all_right"]
def loose : List PySem.Str := loose1 ++ loose2
theorem run (w : World) : HandSHeadRun.RunEq R (PySem.W.view R.prog [60]) hk ob 6000 loose w := by
  intro os
  kernel_rfl
end Rg
end
section
set_option Elab.async false
set_option linter.all false
set_option maxRecDepth 100000
/-! What is known of the program behind its top. -/
namespace Rg
open PySem PySem.Spec PyProof.Rows L2
structure Tx (K : PySem.W.Frag) (mg : Str → Option Value) : Prop where
  g_is_integer : mg "is_integer" = some (.ref (He.ga K "is_integer"))
  g_is_within : mg "is_within" = some (.ref (He.ga K "is_within"))
  g_is_word : mg "is_word" = some (.ref (He.ga K "is_word"))
  g_is_leaf : mg "is_leaf" = some (.ref (He.ga K "is_leaf"))
  g_is_reference : mg "is_reference" = some (.ref (He.ga K "is_reference"))
  g_is_item : mg "is_item" = some (.ref (He.ga K "is_item"))
  g_is_box : mg "is_box" = some (.ref (He.ga K "is_box"))
  g_pair_of : mg "pair_of" = some (.ref (He.ga K "pair_of"))
  g_check_limit : mg "check_limit" = some (.ref (He.ga K "check_limit"))
  g_steps_until_deep : mg "steps_until_deep" = some (.ref (He.ga K "steps_until_deep"))
  g_word_at : mg "word_at" = some (.ref (He.ga K "word_at"))
  g_equality : mg "equality" = some (.ref (He.ga K "equality"))
  g_word_of_items : mg "word_of_items" = some (.ref (He.ga K "word_of_items"))
  g_find : mg "find" = some (.ref (He.ga K "find"))
  g_count : mg "count" = some (.ref (He.ga K "count"))
  g_contains : mg "contains" = some (.ref (He.ga K "contains"))
  g_remove : mg "remove" = some (.ref (He.ga K "remove"))
  g_Lbag : mg "_law_bag" = some (.ref (He.ga K "_law_bag"))
  g_Ltake : mg "_law_take" = some (.ref (He.ga K "_law_take"))
  g_Lleaf : mg "_law_leaf" = some (.ref (He.ga K "_law_leaf"))
  g_Lcontents : mg "_law_contents" = some (.ref (He.ga K "_law_contents"))
  g_Ltwofold : mg "_law_twofold" = some (.ref (He.ga K "_law_twofold"))
  g_Lheap : mg "_law_heap" = some (.ref (He.ga K "_law_heap"))
  g_Lshown : mg "_law_shown" = some (.ref (He.ga K "_law_shown"))
  g_Ltold : mg "_law_told" = some (.ref (He.ga K "_law_told"))
  g_Lcourse : mg "_law_course" = some (.ref (He.ga K "_law_course"))
  g_Lfind_right : mg "_law_find_right" = some (.ref (He.ga K "_law_find_right"))
  g_Lall_right : mg "_law_all_right" = some (.ref (He.ga K "_law_all_right"))
  g_law : mg "law" = some (.ref (He.ga K "law"))
  g_Verdicts : mg "Verdicts" = some (.ref (He.ga K "Verdicts"))
  c_Verdicts : Cls K (He.ga K "Verdicts")
  mk_Verdicts : Mk K (He.ga K "Verdicts") (He.ma K (He.ga K "Verdicts") "__init__")
  n_Verdicts_lists : NoAttr K (He.ga K "Verdicts") "lists"
  n_Verdicts_known : NoAttr K (He.ga K "Verdicts") "known"
  n_Verdicts_deepest : NoAttr K (He.ga K "Verdicts") "deepest"
  g_Outcome : mg "Outcome" = some (.ref (He.ga K "Outcome"))
  c_Outcome : Cls K (He.ga K "Outcome")
  mk_Outcome : Mk K (He.ga K "Outcome") (He.ma K (He.ga K "Outcome") "__init__")
  n_Outcome_word : NoAttr K (He.ga K "Outcome") "word"
  n_Outcome_number : NoAttr K (He.ga K "Outcome") "number"
  n_Outcome_verdicts : NoAttr K (He.ga K "Outcome") "verdicts"
  n_Outcome_course : NoAttr K (He.ga K "Outcome") "course"
  n_Outcome_loop : NoAttr K (He.ga K "Outcome") "loop"
  n_Outcome_steps : NoAttr K (He.ga K "Outcome") "steps"
  n_Outcome_depth : NoAttr K (He.ga K "Outcome") "depth"
  g_Heap : mg "Heap" = some (.ref (He.ga K "Heap"))
  c_Heap : Cls K (He.ga K "Heap")
  mk_Heap : Mk K (He.ga K "Heap") (He.ma K (He.ga K "Heap") "__init__")
  n_Heap_lists : NoAttr K (He.ga K "Heap") "lists"
  m_Verdicts_init : Meth K (He.ga K "Verdicts") "__init__" (He.ma K (He.ga K "Verdicts") "__init__")
  m_Verdicts_of_pair : Meth K (He.ga K "Verdicts") "of_pair" (He.ma K (He.ga K "Verdicts") "of_pair")
  m_Verdicts_go_on : Meth K (He.ga K "Verdicts") "go_on" (He.ma K (He.ga K "Verdicts") "go_on")
  m_Verdicts_decide : Meth K (He.ga K "Verdicts") "decide" (He.ma K (He.ga K "Verdicts") "decide")
  m_Verdicts_entered_from : Meth K (He.ga K "Verdicts") "entered_from" (He.ma K (He.ga K "Verdicts") "entered_from")
  m_Outcome_init : Meth K (He.ga K "Outcome") "__init__" (He.ma K (He.ga K "Outcome") "__init__")
  m_Outcome_measure : Meth K (He.ga K "Outcome") "measure" (He.ma K (He.ga K "Outcome") "measure")
  m_Outcome_at : Meth K (He.ga K "Outcome") "at" (He.ma K (He.ga K "Outcome") "at")
  m_Heap_init : Meth K (He.ga K "Heap") "__init__" (He.ma K (He.ga K "Heap") "__init__")
  m_Heap_len : Meth K (He.ga K "Heap") "__len__" (He.ma K (He.ga K "Heap") "__len__")
  m_Heap_contains : Meth K (He.ga K "Heap") "__contains__" (He.ma K (He.ga K "Heap") "__contains__")
  m_Heap_need_box : Meth K (He.ga K "Heap") "need_box" (He.ma K (He.ga K "Heap") "need_box")
  m_Heap_need_place : Meth K (He.ga K "Heap") "need_place" (He.ma K (He.ga K "Heap") "need_place")
  m_Heap_need_item : Meth K (He.ga K "Heap") "need_item" (He.ma K (He.ga K "Heap") "need_item")
  m_Heap_need_room : Meth K (He.ga K "Heap") "need_room" (He.ma K (He.ga K "Heap") "need_room")
  m_Heap_take : Meth K (He.ga K "Heap") "take" (He.ma K (He.ga K "Heap") "take")
  m_Heap_look : Meth K (He.ga K "Heap") "look" (He.ma K (He.ga K "Heap") "look")
  m_Heap_contents : Meth K (He.ga K "Heap") "contents" (He.ma K (He.ga K "Heap") "contents")
  m_Heap_copy : Meth K (He.ga K "Heap") "copy" (He.ma K (He.ga K "Heap") "copy")
  z_isinstance : mg "isinstance" = none
  z_int : mg "int" = none
  z_bool : mg "bool" = none
  z_str : mg "str" = none
  z_tuple : mg "tuple" = none
  z_list : mg "list" = none
  z_len : mg "len" = none
  z_all : mg "all" = none
  z_max : mg "max" = none
  z_min : mg "min" = none
  z_sum : mg "sum" = none
  z_range : mg "range" = none
  z_enumerate : mg "enumerate" = none
  z_zip : mg "zip" = none
  z_repr : mg "repr" = none
  z_abs : mg "abs" = none
  t_BOX : ∃ t, mg "BOX" = some (.str "box" t)
  t_LETTERS : ∃ t, mg "LETTERS" = some (.str "abcdefghijklmnopqrstuvwxyz" t)
  t_EQUAL : ∃ t, mg "EQUAL" = some (.str "equal" t)
  t_UNLIKE : ∃ t, mg "UNLIKE" = some (.str "unlike" t)
  t_ENDLESS : ∃ t, mg "ENDLESS" = some (.str "endless" t)
  t_TOO_DEEP : ∃ t, mg "TOO_DEEP" = some (.str "too deep" t)
  t_FOUND : ∃ t, mg "FOUND" = some (.str "found" t)
  t_ABSENT : ∃ t, mg "ABSENT" = some (.str "absent" t)
  t_COUNTED : ∃ t, mg "COUNTED" = some (.str "counted" t)
  t_MOST_LETTERS : ∃ t, mg "MOST_LETTERS" = some (.int 8 t)
  t_MOST_LIMIT : ∃ t, mg "MOST_LIMIT" = some (.int 1000000000000000000000000000000 t)
  t_LENGTHS : ∃ t, mg "LENGTHS" = some (.int (-1) t)
  pr_ends : ∃ q g, PropOf K (He.ga K "Outcome") "ends" q g ∧ FnQ K "ends" "Outcome.ends" sO_ends [] g
  rd_Heap : ClX.CRead K (He.ga K "Heap") (.type "type")
  cv_boxes : ∃ u, ClX.CVal K (He.ga K "Heap") (.type "type") "MOST_BOXES" (.int 60) u
  cv_items : ∃ u, ClX.CVal K (He.ga K "Heap") (.type "type") "MOST_ITEMS" (.int 300) u
  cm_of : ∃ p g, ClX.CMet K (He.ga K "Heap") (.type "type") "of" p g ∧ FnQ K "of" "Heap.of" sH_of [] g
  F_is_integer : FnQ K "is_integer" "is_integer" s_is_integer [] (He.ga K "is_integer")
  F_is_within : FnQ K "is_within" "is_within" s_is_within [] (He.ga K "is_within")
  F_is_word : FnQ K "is_word" "is_word" s_is_word [] (He.ga K "is_word")
  F_is_leaf : FnQ K "is_leaf" "is_leaf" s_is_leaf [] (He.ga K "is_leaf")
  F_is_reference : FnQ K "is_reference" "is_reference" s_is_reference [] (He.ga K "is_reference")
  F_is_item : FnQ K "is_item" "is_item" s_is_item [] (He.ga K "is_item")
  F_is_box : FnQ K "is_box" "is_box" s_is_box [] (He.ga K "is_box")
  F_pair_of : FnQ K "pair_of" "pair_of" s_pair_of [] (He.ga K "pair_of")
  F_check_limit : FnQ K "check_limit" "check_limit" s_check_limit [] (He.ga K "check_limit")
  FV_init : FnQ K "__init__" "Verdicts.__init__" sV_init [] (He.ma K (He.ga K "Verdicts") "__init__")
  FV_of_pair : FnQ K "of_pair" "Verdicts.of_pair" sV_of_pair [] (He.ma K (He.ga K "Verdicts") "of_pair")
  FV_go_on : FnQ K "go_on" "Verdicts.go_on" sV_go_on [] (He.ma K (He.ga K "Verdicts") "go_on")
  FV_decide : FnQ K "decide" "Verdicts.decide" sV_decide [] (He.ma K (He.ga K "Verdicts") "decide")
  FV_entered_from : FnQ K "entered_from" "Verdicts.entered_from" sV_entered_from [] (He.ma K (He.ga K "Verdicts") "entered_from")
  F_steps_until_deep : FnQ K "steps_until_deep" "steps_until_deep" s_steps_until_deep [] (He.ga K "steps_until_deep")
  FO_init : FnQ K "__init__" "Outcome.__init__" sO_init [("number", V.non), ("loop", V.non)] (He.ma K (He.ga K "Outcome") "__init__")
  FO_measure : FnQ K "measure" "Outcome.measure" sO_measure [] (He.ma K (He.ga K "Outcome") "measure")
  FO_at : FnQ K "at" "Outcome.at" sO_at [] (He.ma K (He.ga K "Outcome") "at")
  F_word_at : FnQ K "word_at" "word_at" s_word_at [] (He.ga K "word_at")
  F_equality : FnQ K "equality" "equality" s_equality [] (He.ga K "equality")
  F_word_of_items : FnQ K "word_of_items" "word_of_items" s_word_of_items [] (He.ga K "word_of_items")
  F_find : FnQ K "find" "find" s_find [("since", V.int 0)] (He.ga K "find")
  F_count : FnQ K "count" "count" s_count [] (He.ga K "count")
  F_contains : FnQ K "contains" "contains" s_contains [("limit", V.non)] (He.ga K "contains")
  F_remove : FnQ K "remove" "remove" s_remove [("limit", V.non)] (He.ga K "remove")
  FH_init : FnQ K "__init__" "Heap.__init__" sH_init [] (He.ma K (He.ga K "Heap") "__init__")
  FH_len : FnQ K "__len__" "Heap.__len__" sH_len [] (He.ma K (He.ga K "Heap") "__len__")
  FH_contains : FnQ K "__contains__" "Heap.__contains__" sH_contains [] (He.ma K (He.ga K "Heap") "__contains__")
  FH_need_box : FnQ K "need_box" "Heap.need_box" sH_need_box [] (He.ma K (He.ga K "Heap") "need_box")
  FH_need_place : FnQ K "need_place" "Heap.need_place" sH_need_place [] (He.ma K (He.ga K "Heap") "need_place")
  FH_need_item : FnQ K "need_item" "Heap.need_item" sH_need_item [] (He.ma K (He.ga K "Heap") "need_item")
  FH_need_room : FnQ K "need_room" "Heap.need_room" sH_need_room [] (He.ma K (He.ga K "Heap") "need_room")
  FH_take : FnQ K "take" "Heap.take" sH_take [] (He.ma K (He.ga K "Heap") "take")
  FH_look : FnQ K "look" "Heap.look" sH_look [] (He.ma K (He.ga K "Heap") "look")
  FH_contents : FnQ K "contents" "Heap.contents" sH_contents [] (He.ma K (He.ga K "Heap") "contents")
  FH_copy : FnQ K "copy" "Heap.copy" sH_copy [] (He.ma K (He.ga K "Heap") "copy")
  F_Lbag : FnQ K "_law_bag" "_law_bag" s_Lbag [] (He.ga K "_law_bag")
  F_Ltake : FnQ K "_law_take" "_law_take" s_Ltake [] (He.ga K "_law_take")
  F_Lleaf : FnQ K "_law_leaf" "_law_leaf" s_Lleaf [] (He.ga K "_law_leaf")
  F_Lcontents : FnQ K "_law_contents" "_law_contents" s_Lcontents [] (He.ga K "_law_contents")
  F_Ltwofold : FnQ K "_law_twofold" "_law_twofold" s_Ltwofold [] (He.ga K "_law_twofold")
  F_Lheap : FnQ K "_law_heap" "_law_heap" s_Lheap [] (He.ga K "_law_heap")
  F_Lshown : FnQ K "_law_shown" "_law_shown" s_Lshown [] (He.ga K "_law_shown")
  F_Ltold : FnQ K "_law_told" "_law_told" s_Ltold [] (He.ga K "_law_told")
  F_Lcourse : FnQ K "_law_course" "_law_course" s_Lcourse [] (He.ga K "_law_course")
  F_Lfind_right : FnQ K "_law_find_right" "_law_find_right" s_Lfind_right [] (He.ga K "_law_find_right")
  F_Lall_right : FnQ K "_law_all_right" "_law_all_right" s_Lall_right [] (He.ga K "_law_all_right")
  F_law : FnQ K "law" "law" s_law [] (He.ga K "law")
end Rg
end
section
set_option Elab.async false
set_option linter.all false
set_option maxRecDepth 100000
set_option maxHeartbeats 0
namespace Rg
open PySem PySem.Spec PyProof.Rows L2
theorem tx_of {K : PySem.W.Frag} {h : Heap} {mg : Str → Option Value} (X : K.In h) (G : h.Ns mainGlobals mg) (c : SaysB ex fn K) : Tx K mg := by
  have m := c.more
  obtain ⟨m1, m⟩ := He.ba (show ((fa.all fun f => f.ok K) && _) = true from m)
  obtain ⟨m2, m⟩ := He.ba m
  obtain ⟨m3, m⟩ := He.ba m
  obtain ⟨m4, m⟩ := He.ba m
  obtain ⟨m5, m6⟩ := He.ba m
  have fact : ∀ (i : Nat) {f : He.Fa}, fa[i]? = some f → f.ok K = true := fun i f h => List.all_eq_true.mp m1 f (List.mem_of_getElem? h)
  exact {
    g_is_integer := He.glo_ok X G (fact 0 (f := .glo "is_integer") rfl)
    g_is_within := He.glo_ok X G (fact 1 (f := .glo "is_within") rfl)
    g_is_word := He.glo_ok X G (fact 2 (f := .glo "is_word") rfl)
    g_is_leaf := He.glo_ok X G (fact 3 (f := .glo "is_leaf") rfl)
    g_is_reference := He.glo_ok X G (fact 4 (f := .glo "is_reference") rfl)
    g_is_item := He.glo_ok X G (fact 5 (f := .glo "is_item") rfl)
    g_is_box := He.glo_ok X G (fact 6 (f := .glo "is_box") rfl)
    g_pair_of := He.glo_ok X G (fact 7 (f := .glo "pair_of") rfl)
    g_check_limit := He.glo_ok X G (fact 8 (f := .glo "check_limit") rfl)
    g_steps_until_deep := He.glo_ok X G (fact 9 (f := .glo "steps_until_deep") rfl)
    g_word_at := He.glo_ok X G (fact 10 (f := .glo "word_at") rfl)
    g_equality := He.glo_ok X G (fact 11 (f := .glo "equality") rfl)
    g_word_of_items := He.glo_ok X G (fact 12 (f := .glo "word_of_items") rfl)
    g_find := He.glo_ok X G (fact 13 (f := .glo "find") rfl)
    g_count := He.glo_ok X G (fact 14 (f := .glo "count") rfl)
    g_contains := He.glo_ok X G (fact 15 (f := .glo "contains") rfl)
    g_remove := He.glo_ok X G (fact 16 (f := .glo "remove") rfl)
    g_Lbag := He.glo_ok X G (fact 17 (f := .glo "_law_bag") rfl)
    g_Ltake := He.glo_ok X G (fact 18 (f := .glo "_law_take") rfl)
    g_Lleaf := He.glo_ok X G (fact 19 (f := .glo "_law_leaf") rfl)
    g_Lcontents := He.glo_ok X G (fact 20 (f := .glo "_law_contents") rfl)
    g_Ltwofold := He.glo_ok X G (fact 21 (f := .glo "_law_twofold") rfl)
    g_Lheap := He.glo_ok X G (fact 22 (f := .glo "_law_heap") rfl)
    g_Lshown := He.glo_ok X G (fact 23 (f := .glo "_law_shown") rfl)
    g_Ltold := He.glo_ok X G (fact 24 (f := .glo "_law_told") rfl)
    g_Lcourse := He.glo_ok X G (fact 25 (f := .glo "_law_course") rfl)
    g_Lfind_right := He.glo_ok X G (fact 26 (f := .glo "_law_find_right") rfl)
    g_Lall_right := He.glo_ok X G (fact 27 (f := .glo "_law_all_right") rfl)
    g_law := He.glo_ok X G (fact 28 (f := .glo "law") rfl)
    g_Verdicts := He.glo_ok X G (fact 29 (f := .glo "Verdicts") rfl)
    c_Verdicts := He.cls_ok (fact 30 (f := .cls "Verdicts") rfl)
    mk_Verdicts := He.mkr_ok (fact 31 (f := .mkr "Verdicts") rfl)
    n_Verdicts_lists := He.noat_ok (fact 32 (f := .noat "Verdicts" "lists") rfl)
    n_Verdicts_known := He.noat_ok (fact 33 (f := .noat "Verdicts" "known") rfl)
    n_Verdicts_deepest := He.noat_ok (fact 34 (f := .noat "Verdicts" "deepest") rfl)
    g_Outcome := He.glo_ok X G (fact 35 (f := .glo "Outcome") rfl)
    c_Outcome := He.cls_ok (fact 36 (f := .cls "Outcome") rfl)
    mk_Outcome := He.mkr_ok (fact 37 (f := .mkr "Outcome") rfl)
    n_Outcome_word := He.noat_ok (fact 38 (f := .noat "Outcome" "word") rfl)
    n_Outcome_number := He.noat_ok (fact 39 (f := .noat "Outcome" "number") rfl)
    n_Outcome_verdicts := He.noat_ok (fact 40 (f := .noat "Outcome" "verdicts") rfl)
    n_Outcome_course := He.noat_ok (fact 41 (f := .noat "Outcome" "course") rfl)
    n_Outcome_loop := He.noat_ok (fact 42 (f := .noat "Outcome" "loop") rfl)
    n_Outcome_steps := He.noat_ok (fact 43 (f := .noat "Outcome" "steps") rfl)
    n_Outcome_depth := He.noat_ok (fact 44 (f := .noat "Outcome" "depth") rfl)
    g_Heap := He.glo_ok X G (fact 45 (f := .glo "Heap") rfl)
    c_Heap := He.cls_ok (fact 46 (f := .cls "Heap") rfl)
    mk_Heap := He.mkr_ok (fact 47 (f := .mkr "Heap") rfl)
    n_Heap_lists := He.noat_ok (fact 48 (f := .noat "Heap" "lists") rfl)
    m_Verdicts_init := He.meth_ok (fact 49 (f := .meth "Verdicts" "__init__") rfl)
    m_Verdicts_of_pair := He.meth_ok (fact 50 (f := .meth "Verdicts" "of_pair") rfl)
    m_Verdicts_go_on := He.meth_ok (fact 51 (f := .meth "Verdicts" "go_on") rfl)
    m_Verdicts_decide := He.meth_ok (fact 52 (f := .meth "Verdicts" "decide") rfl)
    m_Verdicts_entered_from := He.meth_ok (fact 53 (f := .meth "Verdicts" "entered_from") rfl)
    m_Outcome_init := He.meth_ok (fact 54 (f := .meth "Outcome" "__init__") rfl)
    m_Outcome_measure := He.meth_ok (fact 55 (f := .meth "Outcome" "measure") rfl)
    m_Outcome_at := He.meth_ok (fact 56 (f := .meth "Outcome" "at") rfl)
    m_Heap_init := He.meth_ok (fact 57 (f := .meth "Heap" "__init__") rfl)
    m_Heap_len := He.meth_ok (fact 58 (f := .meth "Heap" "__len__") rfl)
    m_Heap_contains := He.meth_ok (fact 59 (f := .meth "Heap" "__contains__") rfl)
    m_Heap_need_box := He.meth_ok (fact 60 (f := .meth "Heap" "need_box") rfl)
    m_Heap_need_place := He.meth_ok (fact 61 (f := .meth "Heap" "need_place") rfl)
    m_Heap_need_item := He.meth_ok (fact 62 (f := .meth "Heap" "need_item") rfl)
    m_Heap_need_room := He.meth_ok (fact 63 (f := .meth "Heap" "need_room") rfl)
    m_Heap_take := He.meth_ok (fact 64 (f := .meth "Heap" "take") rfl)
    m_Heap_look := He.meth_ok (fact 65 (f := .meth "Heap" "look") rfl)
    m_Heap_contents := He.meth_ok (fact 66 (f := .meth "Heap" "contents") rfl)
    m_Heap_copy := He.meth_ok (fact 67 (f := .meth "Heap" "copy") rfl)
    z_isinstance := He.free_ok X G (fact 68 (f := .free "isinstance") rfl)
    z_int := He.free_ok X G (fact 69 (f := .free "int") rfl)
    z_bool := He.free_ok X G (fact 70 (f := .free "bool") rfl)
    z_str := He.free_ok X G (fact 71 (f := .free "str") rfl)
    z_tuple := He.free_ok X G (fact 72 (f := .free "tuple") rfl)
    z_list := He.free_ok X G (fact 73 (f := .free "list") rfl)
    z_len := He.free_ok X G (fact 74 (f := .free "len") rfl)
    z_all := He.free_ok X G (fact 75 (f := .free "all") rfl)
    z_max := He.free_ok X G (fact 76 (f := .free "max") rfl)
    z_min := He.free_ok X G (fact 77 (f := .free "min") rfl)
    z_sum := He.free_ok X G (fact 78 (f := .free "sum") rfl)
    z_range := He.free_ok X G (fact 79 (f := .free "range") rfl)
    z_enumerate := He.free_ok X G (fact 80 (f := .free "enumerate") rfl)
    z_zip := He.free_ok X G (fact 81 (f := .free "zip") rfl)
    z_repr := He.free_ok X G (fact 82 (f := .free "repr") rfl)
    z_abs := He.free_ok X G (fact 83 (f := .free "abs") rfl)
    t_BOX := He.str_ok X G (fact 84 (f := .str "BOX" "box") rfl)
    t_LETTERS := He.str_ok X G (fact 85 (f := .str "LETTERS" "abcdefghijklmnopqrstuvwxyz") rfl)
    t_EQUAL := He.str_ok X G (fact 86 (f := .str "EQUAL" "equal") rfl)
    t_UNLIKE := He.str_ok X G (fact 87 (f := .str "UNLIKE" "unlike") rfl)
    t_ENDLESS := He.str_ok X G (fact 88 (f := .str "ENDLESS" "endless") rfl)
    t_TOO_DEEP := He.str_ok X G (fact 89 (f := .str "TOO_DEEP" "too deep") rfl)
    t_FOUND := He.str_ok X G (fact 90 (f := .str "FOUND" "found") rfl)
    t_ABSENT := He.str_ok X G (fact 91 (f := .str "ABSENT" "absent") rfl)
    t_COUNTED := He.str_ok X G (fact 92 (f := .str "COUNTED" "counted") rfl)
    t_MOST_LETTERS := He.int_ok X G (fact 93 (f := .int "MOST_LETTERS" 8) rfl)
    t_MOST_LIMIT := He.int_ok X G (fact 94 (f := .int "MOST_LIMIT" 1000000000000000000000000000000) rfl)
    t_LENGTHS := He.int_ok X G (fact 95 (f := .int "LENGTHS" (-1)) rfl)
    pr_ends := ⟨_, _, propB_ok m2, c.def_ 16 (d := dO_ends) rfl⟩
    rd_Heap := readB_ok m3
    cv_boxes := cvalB_ok m4
    cv_items := cvalB_ok m5
    cm_of := ⟨_, _, clmB_ok m6, c.def_ 27 (d := dH_of) rfl⟩
    F_is_integer := c.def_ 0 (d := d_is_integer) rfl
    F_is_within := c.def_ 1 (d := d_is_within) rfl
    F_is_word := c.def_ 2 (d := d_is_word) rfl
    F_is_leaf := c.def_ 3 (d := d_is_leaf) rfl
    F_is_reference := c.def_ 4 (d := d_is_reference) rfl
    F_is_item := c.def_ 5 (d := d_is_item) rfl
    F_is_box := c.def_ 6 (d := d_is_box) rfl
    F_pair_of := c.def_ 7 (d := d_pair_of) rfl
    F_check_limit := c.def_ 8 (d := d_check_limit) rfl
    FV_init := c.def_ 9 (d := dV_init) rfl
    FV_of_pair := c.def_ 10 (d := dV_of_pair) rfl
    FV_go_on := c.def_ 11 (d := dV_go_on) rfl
    FV_decide := c.def_ 12 (d := dV_decide) rfl
    FV_entered_from := c.def_ 13 (d := dV_entered_from) rfl
    F_steps_until_deep := c.def_ 14 (d := d_steps_until_deep) rfl
    FO_init := c.def_ 15 (d := dO_init) rfl
    FO_measure := c.def_ 17 (d := dO_measure) rfl
    FO_at := c.def_ 18 (d := dO_at) rfl
    F_word_at := c.def_ 19 (d := d_word_at) rfl
    F_equality := c.def_ 20 (d := d_equality) rfl
    F_word_of_items := c.def_ 21 (d := d_word_of_items) rfl
    F_find := c.def_ 22 (d := d_find) rfl
    F_count := c.def_ 23 (d := d_count) rfl
    F_contains := c.def_ 24 (d := d_contains) rfl
    F_remove := c.def_ 25 (d := d_remove) rfl
    FH_init := c.def_ 26 (d := dH_init) rfl
    FH_len := c.def_ 28 (d := dH_len) rfl
    FH_contains := c.def_ 29 (d := dH_contains) rfl
    FH_need_box := c.def_ 30 (d := dH_need_box) rfl
    FH_need_place := c.def_ 31 (d := dH_need_place) rfl
    FH_need_item := c.def_ 32 (d := dH_need_item) rfl
    FH_need_room := c.def_ 33 (d := dH_need_room) rfl
    FH_take := c.def_ 34 (d := dH_take) rfl
    FH_look := c.def_ 35 (d := dH_look) rfl
    FH_contents := c.def_ 36 (d := dH_contents) rfl
    FH_copy := c.def_ 37 (d := dH_copy) rfl
    F_Lbag := c.def_ 38 (d := d_Lbag) rfl
    F_Ltake := c.def_ 39 (d := d_Ltake) rfl
    F_Lleaf := c.def_ 40 (d := d_Lleaf) rfl
    F_Lcontents := c.def_ 41 (d := d_Lcontents) rfl
    F_Ltwofold := c.def_ 42 (d := d_Ltwofold) rfl
    F_Lheap := c.def_ 43 (d := d_Lheap) rfl
    F_Lshown := c.def_ 44 (d := d_Lshown) rfl
    F_Ltold := c.def_ 45 (d := d_Ltold) rfl
    F_Lcourse := c.def_ 46 (d := d_Lcourse) rfl
    F_Lfind_right := c.def_ 47 (d := d_Lfind_right) rfl
    F_Lall_right := c.def_ 48 (d := d_Lall_right) rfl
    F_law := c.def_ 49 (d := d_law) rfl
  }
end Rg
end
section
set_option Elab.async false
set_option linter.all false
/-! Comparing lists that contain each other: what it comes to, in plain Lean. -/
namespace Rg
/-- an item: a leaf, or a reference -/
inductive Item where
  | int (i : Int) | str (x : PySem.Str) | box (k : Nat)
  deriving DecidableEq
abbrev Rows := List (List Item)
abbrev Pr := Nat × Nat
/-- the pair that comparing two items enters -/
def pairOf (a b : Item) : Option Pr := if a = b then none else match a, b with
  | .box i, .box j => some (i, j)
  | _, _ => none
theorem pairOf_self (a : Item) : pairOf a a = none := by simp [pairOf]
theorem pairOf_some {a b : Item} {c : Pr} (h : pairOf a b = some c) : a = .box c.1 ∧ b = .box c.2 ∧ a ≠ b := by
  unfold pairOf at h
  split at h
  · cases h
  · rename_i hn
    split at h
    · cases h; exact ⟨rfl, rfl, hn⟩
    · cases h
theorem pairOf_box {i j : Nat} (h : i ≠ j) : pairOf (.box i) (.box j) = some (i, j) := by
  unfold pairOf
  rw [if_neg (fun z => h (Item.box.inj z))]

inductive Wd where
  | eq | un | en
  deriving DecidableEq
/-- a verdict: word, steps, depth, the place that decides (steps and depth are 0 if it is endless) -/
structure Fv where
  wd : Wd
  steps : Nat
  depth : Nat
  place : Int
/-- the items of two boxes from place i on; s, d so far; ev: the verdict on a pair, none if it never ends -/
def scan (ev : Pr → Option Fv) : List Item → List Item → Nat → Nat → Nat → Fv
  | a :: as, b :: bs, i, s, d => match pairOf a b with
    | none => if a = b then scan ev as bs (i + 1) s d else ⟨.un, s, d, i⟩
    | some c => match ev c with
      | none => ⟨.en, 0, 0, i⟩
      | some r => if r.wd = .un then ⟨.un, s + r.steps, max d (r.depth + 1), i⟩ else scan ev as bs (i + 1) (s + r.steps) (max d (r.depth + 1))
  | _, _, i, s, d => ⟨.eq, s, d, i⟩
def rowOf (rows : Rows) (k : Nat) : List Item := rows.getD k []
def stepV (rows : Rows) (ev : Pr → Option Fv) (p : Pr) : Fv :=
  if (rowOf rows p.1).length = (rowOf rows p.2).length then scan ev (rowOf rows p.1) (rowOf rows p.2) 0 1 1 else ⟨.un, 1, 1, -1⟩
/-- it if it ends -/
def fin (r : Fv) : Option Fv := if r.wd = .en then none else some r
theorem fin_some {r r' : Fv} (h : fin r = some r') : r = r' ∧ r.wd ≠ .en := by
  unfold fin at h
  split at h
  · cases h
  · rename_i hn; cases h; exact ⟨rfl, hn⟩
theorem fin_none {r : Fv} (h : fin r = none) : r.wd = .en := by
  unfold fin at h
  split at h
  · assumption
  · cases h
/-- what n nested comparisons find out -/
def evn (rows : Rows) : Nat → Pr → Option Fv
  | 0, _ => none
  | n + 1, p => fin (stepV rows (evn rows n) p)
/-- more is known -/
def Le (f g : Pr → Option Fv) : Prop := ∀ c r, f c = some r → g c = some r
theorem scan_le {f g : Pr → Option Fv} (h : Le f g) : ∀ (as bs : List Item) (i s d : Nat), (scan f as bs i s d).wd ≠ .en → scan g as bs i s d = scan f as bs i s d
  | [], bs, i, s, d, _ => by cases bs <;> rfl
  | a :: as, [], i, s, d, _ => rfl
  | a :: as, b :: bs, i, s, d, hn => by
    unfold scan at hn ⊢
    cases hp : pairOf a b with
    | none =>
      rw [hp] at hn
      dsimp only at hn ⊢
      by_cases e : a = b
      · rw [if_pos e] at hn ⊢
        rw [if_pos e]
        exact scan_le h as bs _ _ _ hn
      · rw [if_neg e, if_neg e]
    | some c =>
      rw [hp] at hn
      dsimp only at hn ⊢
      cases hf : f c with
      | none => rw [hf] at hn; exact absurd rfl hn
      | some r =>
        rw [hf] at hn
        rw [h c r hf]
        dsimp only at hn ⊢
        by_cases e : r.wd = .un
        · rw [if_pos e, if_pos e]
        · rw [if_neg e] at hn
          rw [if_neg e, if_neg e]
          exact scan_le h as bs _ _ _ hn
theorem stepV_le {rows : Rows} {f g : Pr → Option Fv} (h : Le f g) (p : Pr) (hn : (stepV rows f p).wd ≠ .en) : stepV rows g p = stepV rows f p := by
  unfold stepV at hn ⊢
  split
  · rename_i e
    rw [if_pos e] at hn
    exact scan_le h _ _ _ _ _ hn
  · rfl
theorem fin_stepV_le {rows : Rows} {f g : Pr → Option Fv} (h : Le f g) : Le (fun p => fin (stepV rows f p)) (fun p => fin (stepV rows g p)) := fun p r hr => by
  obtain ⟨e, hn⟩ := fin_some hr
  show fin (stepV rows g p) = some r
  rw [stepV_le h p hn]
  exact hr
theorem evn_succ (rows : Rows) : ∀ n, Le (evn rows n) (evn rows (n + 1))
  | 0 => fun _ _ h => by cases h
  | n + 1 => fin_stepV_le (evn_succ rows n)
theorem evn_mono (rows : Rows) {m n : Nat} (h : m ≤ n) : Le (evn rows m) (evn rows n) := by
  induction h with
  | refl => exact fun _ _ e => e
  | step _ ih => exact fun c r e => evn_succ rows _ c r (ih c r e)
open Classical in
/-- the verdict on a pair that ends -/
noncomputable def T (rows : Rows) (p : Pr) : Option Fv := if h : ∃ n r, evn rows n p = some r then evn rows (choose h) p else none
theorem T_of {rows : Rows} {n : Nat} {p : Pr} {r : Fv} (h : evn rows n p = some r) : T rows p = some r := by
  have hx : ∃ n r, evn rows n p = some r := ⟨n, r, h⟩
  unfold T
  rw [dif_pos hx]
  obtain ⟨r', h'⟩ := Classical.choose_spec hx
  rw [h']
  have a := evn_mono rows (Nat.le_max_left n (Classical.choose hx)) p r h
  have b := evn_mono rows (Nat.le_max_right n (Classical.choose hx)) p r' h'
  rw [a] at b
  exact b.symm
theorem of_T {rows : Rows} {p : Pr} {r : Fv} (h : T rows p = some r) : ∃ n, evn rows n p = some r := by
  unfold T at h
  split at h
  · exact ⟨_, h⟩
  · cases h
theorem evn_T (rows : Rows) (n : Nat) : Le (evn rows n) (T rows) := fun _ _ h => T_of h
/-- finitely many nested comparisons decide a scan -/
theorem scan_T {rows : Rows} : ∀ (as bs : List Item) (i s d : Nat), (scan (T rows) as bs i s d).wd ≠ .en → ∃ n, scan (evn rows n) as bs i s d = scan (T rows) as bs i s d
  | [], bs, i, s, d, _ => ⟨0, by cases bs <;> rfl⟩
  | a :: as, [], i, s, d, _ => ⟨0, rfl⟩
  | a :: as, b :: bs, i, s, d, hn => by
    unfold scan at hn ⊢
    cases hp : pairOf a b with
    | none =>
      rw [hp] at hn
      dsimp only at hn ⊢
      by_cases e : a = b
      · rw [if_pos e] at hn
        obtain ⟨n, h⟩ := scan_T as bs _ _ _ hn
        exact ⟨n, by rw [if_pos e, if_pos e]; exact h⟩
      · exact ⟨0, by rw [if_neg e, if_neg e]⟩
    | some c =>
      rw [hp] at hn
      dsimp only at hn ⊢
      cases hf : T rows c with
      | none => rw [hf] at hn; exact absurd rfl hn
      | some r =>
        rw [hf] at hn
        dsimp only at hn ⊢
        obtain ⟨m, hm⟩ := of_T hf
        by_cases e : r.wd = .un
        · exact ⟨m, by rw [hm]; dsimp only; rw [if_pos e, if_pos e]⟩
        · rw [if_neg e] at hn
          obtain ⟨n, h⟩ := scan_T as bs _ _ _ hn
          refine ⟨max m n, ?_⟩
          rw [evn_mono rows (Nat.le_max_left m n) c r hm]
          dsimp only
          rw [if_neg e, if_neg e]
          have h2 := scan_le (evn_mono rows (Nat.le_max_right m n)) as bs (i + 1) (s + r.steps) (max d (r.depth + 1)) (by rw [h]; exact hn)
          rw [h2, h]
/-- THE verdict on a pair -/
noncomputable def vd (rows : Rows) (p : Pr) : Fv := stepV rows (T rows) p
theorem T_eq (rows : Rows) (p : Pr) : T rows p = fin (vd rows p) := by
  cases h : T rows p with
  | some r =>
    obtain ⟨n, hn⟩ := of_T h
    have h1 := evn_mono rows (Nat.le_succ n) p r hn
    have h2 : fin (stepV rows (evn rows n) p) = some r := h1
    exact (fin_stepV_le (evn_T rows n) p r h2).symm
  | none =>
    cases hv : fin (vd rows p) with
    | none => rfl
    | some r =>
      exfalso
      obtain ⟨e, hn⟩ := fin_some hv
      have : ∃ n, stepV rows (evn rows n) p = vd rows p := by
        unfold vd stepV
        unfold vd stepV at hn
        split
        · rename_i hl
          rw [if_pos hl] at hn
          exact scan_T _ _ _ _ _ hn
        · exact ⟨0, rfl⟩
      obtain ⟨n, hs⟩ := this
      have : evn rows (n + 1) p = some r := by
        show fin (stepV rows (evn rows n) p) = some r
        rw [hs, hv]
      rw [T_of this] at h
      cases h
theorem T_none_iff {rows : Rows} {p : Pr} : T rows p = none ↔ (vd rows p).wd = .en := by
  rw [T_eq]
  constructor
  · exact fin_none
  · intro h; unfold fin; rw [if_pos h]
theorem T_some {rows : Rows} {p : Pr} (h : (vd rows p).wd ≠ .en) : T rows p = some (vd rows p) := by
  rw [T_eq]; unfold fin; rw [if_neg h]
theorem T_vd {rows : Rows} {p : Pr} {r : Fv} (h : T rows p = some r) : vd rows p = r ∧ r.wd ≠ .en := by
  rw [T_eq] at h
  obtain ⟨e, hn⟩ := fin_some h
  exact ⟨e, e ▸ hn⟩
end Rg
end
section
set_option Elab.async false
set_option linter.all false
/-! Depths, steps, the pairs that are entered directly; the steps until too deep. -/
namespace Rg
/-- the pair at place j -/
def at2 (x y : List Item) (j : Nat) : Option Pr := match x[j]?, y[j]? with
  | some a, some b => pairOf a b
  | _, _ => none
theorem at2_cons {a b : Item} {x y : List Item} {j : Nat} : at2 (a :: x) (b :: y) (j + 1) = at2 x y j := by unfold at2; simp
theorem at2_zero {a b : Item} {x y : List Item} : at2 (a :: x) (b :: y) 0 = pairOf a b := by unfold at2; simp
theorem at2_drop {x y : List Item} {i j : Nat} : at2 (x.drop i) (y.drop i) j = at2 x y (i + j) := by unfold at2; simp
section
variable {rows : Rows}
/-- the depth grows -/
theorem scan_depth (ev : Pr → Option Fv) : ∀ (as bs : List Item) (i s d : Nat), (scan ev as bs i s d).wd ≠ .en → d ≤ (scan ev as bs i s d).depth ∧ s ≤ (scan ev as bs i s d).steps
  | [], bs, i, s, d, _ => by cases bs <;> exact ⟨Nat.le_refl _, Nat.le_refl _⟩
  | a :: as, [], i, s, d, _ => ⟨Nat.le_refl _, Nat.le_refl _⟩
  | a :: as, b :: bs, i, s, d, hn => by
    unfold scan at hn ⊢
    cases hp : pairOf a b with
    | none =>
      rw [hp] at hn
      dsimp only at hn ⊢
      by_cases e : a = b
      · rw [if_pos e] at hn ⊢
        exact scan_depth ev as bs _ _ _ hn
      · rw [if_neg e]
        exact ⟨Nat.le_refl _, Nat.le_refl _⟩
    | some c =>
      rw [hp] at hn
      dsimp only at hn ⊢
      cases hf : ev c with
      | none => rw [hf] at hn; exact absurd rfl hn
      | some r =>
        rw [hf] at hn
        dsimp only at hn ⊢
        by_cases e : r.wd = .un
        · rw [if_pos e]
          exact ⟨Nat.le_max_left _ _, Nat.le_add_right _ _⟩
        · rw [if_neg e] at hn ⊢
          have h := scan_depth ev as bs _ _ _ hn
          exact ⟨Nat.le_trans (Nat.le_max_left _ _) h.1, Nat.le_trans (Nat.le_add_right _ _) h.2⟩
/-- the pair at hand of a scan that ends ends, less deep -/
theorem scan_child {ev : Pr → Option Fv} {a b : Item} {as bs : List Item} {i s d : Nat} {c : Pr} (hp : pairOf a b = some c) (hn : (scan ev (a :: as) (b :: bs) i s d).wd ≠ .en) :
    ∃ r, ev c = some r ∧ r.depth + 1 ≤ (scan ev (a :: as) (b :: bs) i s d).depth := by
  unfold scan at hn ⊢
  rw [hp] at hn ⊢
  dsimp only at hn ⊢
  cases hf : ev c with
  | none => rw [hf] at hn; exact absurd rfl hn
  | some r =>
    rw [hf] at hn
    dsimp only at hn ⊢
    refine ⟨r, rfl, ?_⟩
    by_cases e : r.wd = .un
    · rw [if_pos e]
      exact Nat.le_max_right _ _
    · rw [if_neg e] at hn ⊢
      exact Nat.le_trans (Nat.le_max_right _ _) (scan_depth ev _ _ _ _ _ hn).1
/-- the pairs that are entered directly from a pair, in order -/
noncomputable def kids (rows : Rows) (p : Pr) : List Pr := (((rowOf rows p.1).zip (rowOf rows p.2)).take ((vd rows p).place + 1).toNat).filterMap fun q => pairOf q.1 q.2
/-- of a scan: those up to the place that decides -/
def kidsS (x y : List Item) (n : Nat) : List Pr := ((x.zip y).take n).filterMap fun q => pairOf q.1 q.2
theorem kidsS_nil {n : Nat} {y : List Item} : kidsS [] y n = [] := by simp [kidsS]
theorem kidsS_nil' {n : Nat} {x : List Item} : kidsS x [] n = [] := by simp [kidsS]
theorem kidsS_zero {x y : List Item} : kidsS x y 0 = [] := by simp [kidsS]
theorem kidsS_none {a b : Item} {x y : List Item} {n : Nat} (h : pairOf a b = none) : kidsS (a :: x) (b :: y) (n + 1) = kidsS x y n := by
  simp [kidsS, h]
theorem kidsS_some {a b : Item} {x y : List Item} {n : Nat} {c : Pr} (h : pairOf a b = some c) : kidsS (a :: x) (b :: y) (n + 1) = c :: kidsS x y n := by
  simp [kidsS, h]
theorem mem_kidsS : ∀ {x y : List Item} {n : Nat} {c : Pr}, c ∈ kidsS x y n ↔ ∃ j, j < n ∧ at2 x y j = some c
  | [], y, n, c => by rw [kidsS_nil]; simp [at2]
  | a :: x, [], n, c => by rw [kidsS_nil']; simp [at2]
  | a :: x, b :: y, 0, c => by rw [kidsS_zero]; simp
  | a :: x, b :: y, n + 1, c => by
    have ih := mem_kidsS (x := x) (y := y) (n := n) (c := c)
    constructor
    · intro h
      cases hp : pairOf a b with
      | none =>
        rw [kidsS_none hp] at h
        obtain ⟨j, hj, e⟩ := ih.mp h
        exact ⟨j + 1, by omega, by rw [at2_cons]; exact e⟩
      | some c' =>
        rw [kidsS_some hp] at h
        rcases List.mem_cons.mp h with e | h
        · exact ⟨0, by omega, by rw [at2_zero, hp, e]⟩
        · obtain ⟨j, hj, e⟩ := ih.mp h
          exact ⟨j + 1, by omega, by rw [at2_cons]; exact e⟩
    · rintro ⟨j, hj, e⟩
      cases j with
      | zero =>
        rw [at2_zero] at e
        rw [kidsS_some e]
        exact List.mem_cons_self
      | succ j =>
        rw [at2_cons] at e
        have h := ih.mpr ⟨j, by omega, e⟩
        cases hp : pairOf a b with
        | none => rw [kidsS_none hp]; exact h
        | some c' => rw [kidsS_some hp]; exact List.mem_cons_of_mem _ h
/-- the place of a scan -/
theorem scan_place (ev : Pr → Option Fv) : ∀ (as bs : List Item) (i s d : Nat), as.length = bs.length → ∃ k : Nat, (scan ev as bs i s d).place = ((i + k : Nat) : Int) ∧ k ≤ as.length
  | [], bs, i, s, d, _ => ⟨0, by cases bs <;> rfl, Nat.le_refl _⟩
  | a :: as, [], i, s, d, h => by simp at h
  | a :: as, b :: bs, i, s, d, h => by
    have hl : as.length = bs.length := by simpa using h
    have up : ∀ s' d', (∃ k : Nat, (scan ev as bs (i + 1) s' d').place = ((i + 1 + k : Nat) : Int) ∧ k ≤ as.length) → ∃ k : Nat, (scan ev as bs (i + 1) s' d').place = ((i + k : Nat) : Int) ∧ k ≤ (a :: as).length := fun s' d' ⟨k, e, hk⟩ =>
      ⟨k + 1, by rw [e]; congr 1; omega, by simp; omega⟩
    unfold scan
    cases hp : pairOf a b with
    | none =>
      dsimp only
      by_cases e : a = b
      · rw [if_pos e]
        exact up _ _ (scan_place ev as bs _ _ _ hl)
      · rw [if_neg e]
        exact ⟨0, rfl, Nat.zero_le _⟩
    | some c =>
      dsimp only
      cases hf : ev c with
      | none => exact ⟨0, rfl, Nat.zero_le _⟩
      | some r =>
        dsimp only
        by_cases e : r.wd = .un
        · rw [if_pos e]
          exact ⟨0, rfl, Nat.zero_le _⟩
        · rw [if_neg e]
          exact up _ _ (scan_place ev as bs _ _ _ hl)
/-- what a scan that ends comes to, by its pairs: all of them end, the depth is that of one of them (or d), the steps are their sum -/
theorem scan_kids (ev : Pr → Option Fv) : ∀ (as bs : List Item) (i s d : Nat), as.length = bs.length → (scan ev as bs i s d).wd ≠ .en → ∀ n : Nat, ((scan ev as bs i s d).place + 1).toNat = i + n →
    (∀ c ∈ kidsS as bs n, ∃ r, ev c = some r ∧ r.depth + 1 ≤ (scan ev as bs i s d).depth) ∧ ((scan ev as bs i s d).depth = d ∨ ∃ c ∈ kidsS as bs n, ∃ r, ev c = some r ∧ (scan ev as bs i s d).depth = r.depth + 1) ∧
    (scan ev as bs i s d).steps = s + ((kidsS as bs n).map fun c => match ev c with | some r => r.steps | none => 0).sum
  | [], bs, i, s, d, _, _, n, _ => by
    have e : scan ev [] bs i s d = ⟨.eq, s, d, i⟩ := by cases bs <;> rfl
    rw [e, kidsS_nil]
    exact ⟨fun c hc => absurd hc List.not_mem_nil, .inl rfl, by simp⟩
  | a :: as, [], i, s, d, h, _, _, _ => by simp at h
  | a :: as, b :: bs, i, s, d, h, hn, n, hpl => by
    have hl : as.length = bs.length := by simpa using h
    obtain ⟨k0, ep, _⟩ := scan_place ev (a :: as) (b :: bs) i s d h
    have n1 : 0 < n := by rw [ep] at hpl; omega
    obtain ⟨n, rfl⟩ : ∃ m, n = m + 1 := ⟨n - 1, by omega⟩
    unfold scan at hn hpl ⊢
    cases hp : pairOf a b with
    | none =>
      rw [hp] at hn hpl
      rw [kidsS_none hp]
      dsimp only at hn hpl ⊢
      by_cases e : a = b
      · rw [if_pos e] at hn hpl ⊢
        exact scan_kids ev as bs _ _ _ hl hn n (by rw [hpl]; omega)
      · rw [if_neg e] at hpl ⊢
        have : n = 0 := by
          have : ((i : Int) + 1).toNat = i + (n + 1) := hpl
          omega
        subst this
        rw [kidsS_zero]
        exact ⟨fun c hc => absurd hc List.not_mem_nil, .inl rfl, by simp⟩
    | some c =>
      rw [hp] at hn hpl
      rw [kidsS_some hp]
      dsimp only at hn hpl ⊢
      cases hf : ev c with
      | none => rw [hf] at hn; exact absurd rfl hn
      | some r =>
        rw [hf] at hn hpl
        dsimp only at hn hpl ⊢
        by_cases e : r.wd = .un
        · rw [if_pos e] at hpl ⊢
          have : n = 0 := by
            have : ((i : Int) + 1).toNat = i + (n + 1) := hpl
            omega
          subst this
          rw [kidsS_zero]
          refine ⟨fun c' hc => ?_, ?_, by simp [hf]⟩
          · rcases List.mem_cons.mp hc with e' | hc
            · exact ⟨r, by rw [e']; exact hf, Nat.le_max_right _ _⟩
            · exact absurd hc List.not_mem_nil
          · rcases Nat.le_total d (r.depth + 1) with h1 | h1
            · exact .inr ⟨c, List.mem_cons_self, r, hf, Nat.max_eq_right h1⟩
            · exact .inl (Nat.max_eq_left h1)
        · rw [if_neg e] at hn hpl ⊢
          obtain ⟨ih1, ih2, ih3⟩ := scan_kids ev as bs _ _ _ hl hn n (by rw [hpl]; omega)
          refine ⟨fun c' hc => ?_, ?_, ?_⟩
          · rcases List.mem_cons.mp hc with e' | hc
            · exact ⟨r, by rw [e']; exact hf, Nat.le_trans (Nat.le_max_right _ _) (scan_depth ev _ _ _ _ _ hn).1⟩
            · exact ih1 c' hc
          · rcases ih2 with h2 | ⟨c', hc, r', hr, h2⟩
            · rcases Nat.le_total d (r.depth + 1) with h1 | h1
              · exact .inr ⟨c, List.mem_cons_self, r, hf, by rw [h2, Nat.max_eq_right h1]⟩
              · exact .inl (by rw [h2, Nat.max_eq_left h1])
            · exact .inr ⟨c', List.mem_cons_of_mem _ hc, r', hr, h2⟩
          · rw [ih3, List.map_cons, List.sum_cons, hf]
            dsimp only
            omega
/-- of a scan that never ends: the last pair never ends, those ahead of it end -/
theorem scan_endless (ev : Pr → Option Fv) : ∀ (as bs : List Item) (i s d : Nat), as.length = bs.length → (scan ev as bs i s d).wd = .en → (∀ c r, ev c = some r → r.wd ≠ .en) → ∀ n : Nat, ((scan ev as bs i s d).place + 1).toNat = i + n →
    ∃ cs c, kidsS as bs n = cs ++ [c] ∧ ev c = none ∧ ∀ c' ∈ cs, ∃ r, ev c' = some r
  | [], bs, i, s, d, _, h, _, _, _ => by cases bs <;> cases h
  | a :: as, [], i, s, d, h, _, _, _, _ => by simp at h
  | a :: as, b :: bs, i, s, d, h, hn, hev, n, hpl => by
    have hl : as.length = bs.length := by simpa using h
    obtain ⟨k0, ep, _⟩ := scan_place ev (a :: as) (b :: bs) i s d h
    have n1 : 0 < n := by rw [ep] at hpl; omega
    obtain ⟨n, rfl⟩ : ∃ m, n = m + 1 := ⟨n - 1, by omega⟩
    unfold scan at hn hpl
    cases hp : pairOf a b with
    | none =>
      rw [hp] at hn hpl
      rw [kidsS_none hp]
      dsimp only at hn hpl
      by_cases e : a = b
      · rw [if_pos e] at hn hpl
        exact scan_endless ev as bs _ _ _ hl hn hev n (by rw [hpl]; omega)
      · rw [if_neg e] at hn; cases hn
    | some c =>
      rw [hp] at hn hpl
      rw [kidsS_some hp]
      dsimp only at hn hpl
      cases hf : ev c with
      | none =>
        rw [hf] at hpl
        have : n = 0 := by
          have : ((i : Int) + 1).toNat = i + (n + 1) := hpl
          omega
        subst this
        rw [kidsS_zero]
        exact ⟨[], c, rfl, hf, fun c' hc => absurd hc List.not_mem_nil⟩
      | some r =>
        rw [hf] at hn hpl
        dsimp only at hn hpl
        by_cases e : r.wd = .un
        · rw [if_pos e] at hn; cases hn
        · rw [if_neg e] at hn hpl
          obtain ⟨cs, c', e1, e2, e3⟩ := scan_endless ev as bs _ _ _ hl hn hev n (by rw [hpl]; omega)
          refine ⟨c :: cs, c', by rw [e1]; rfl, e2, fun x hx => ?_⟩
          rcases List.mem_cons.mp hx with h1 | h1
          · exact ⟨r, by rw [h1]; exact hf⟩
          · exact e3 x h1
end
end Rg
end
section
set_option Elab.async false
set_option linter.all false
namespace Rg
section
variable {rows : Rows} {p : Pr}
theorem T_ends {c : Pr} {r : Fv} (h : T rows c = some r) : r.wd ≠ .en := (T_vd h).2
theorem vd_place_nat (h : (rowOf rows p.1).length = (rowOf rows p.2).length) : ∃ k : Nat, (vd rows p).place = (k : Int) ∧ k ≤ (rowOf rows p.1).length := by
  unfold vd stepV
  rw [if_pos h]
  obtain ⟨k, e, hk⟩ := scan_place (T rows) _ _ 0 1 1 h
  exact ⟨k, by rw [e]; simp, hk⟩
theorem kids_eq : kids rows p = kidsS (rowOf rows p.1) (rowOf rows p.2) ((vd rows p).place + 1).toNat := rfl
theorem kids_unlike (h : ¬ (rowOf rows p.1).length = (rowOf rows p.2).length) : kids rows p = [] ∧ vd rows p = ⟨.un, 1, 1, -1⟩ := by
  have e : vd rows p = ⟨.un, 1, 1, -1⟩ := by unfold vd stepV; rw [if_neg h]
  exact ⟨by rw [kids_eq, e]; exact kidsS_zero, e⟩
/-- the steps of a pair that ends -/
noncomputable def stp (rows : Rows) (c : Pr) : Nat := match T rows c with | some r => r.steps | none => 0
noncomputable def dpt (rows : Rows) (c : Pr) : Nat := match T rows c with | some r => r.depth | none => 0
theorem kids_ends (h : (vd rows p).wd ≠ .en) : ∀ c ∈ kids rows p, ∃ r, T rows c = some r ∧ r.depth + 1 ≤ (vd rows p).depth := by
  by_cases hl : (rowOf rows p.1).length = (rowOf rows p.2).length
  · have e : vd rows p = scan (T rows) (rowOf rows p.1) (rowOf rows p.2) 0 1 1 := by unfold vd stepV; rw [if_pos hl]
    rw [kids_eq]
    rw [e] at h ⊢
    exact (scan_kids (T rows) _ _ 0 1 1 hl h _ (by simp)).1
  · intro c hc; rw [(kids_unlike hl).1] at hc; exact absurd hc List.not_mem_nil
theorem depth_kid (h : (vd rows p).wd ≠ .en) : (vd rows p).depth = 1 ∨ ∃ c ∈ kids rows p, ∃ r, T rows c = some r ∧ (vd rows p).depth = r.depth + 1 := by
  by_cases hl : (rowOf rows p.1).length = (rowOf rows p.2).length
  · have e : vd rows p = scan (T rows) (rowOf rows p.1) (rowOf rows p.2) 0 1 1 := by unfold vd stepV; rw [if_pos hl]
    rw [kids_eq]
    rw [e] at h ⊢
    exact (scan_kids (T rows) _ _ 0 1 1 hl h _ (by simp)).2.1
  · rw [(kids_unlike hl).2]; exact .inl rfl
theorem steps_kids (h : (vd rows p).wd ≠ .en) : (vd rows p).steps = 1 + ((kids rows p).map (stp rows)).sum := by
  by_cases hl : (rowOf rows p.1).length = (rowOf rows p.2).length
  · have e : vd rows p = scan (T rows) (rowOf rows p.1) (rowOf rows p.2) 0 1 1 := by unfold vd stepV; rw [if_pos hl]
    rw [kids_eq]
    rw [e] at h ⊢
    exact (scan_kids (T rows) _ _ 0 1 1 hl h _ (by simp)).2.2
  · rw [(kids_unlike hl).1, (kids_unlike hl).2]; rfl
theorem kids_endless (h : (vd rows p).wd = .en) : ∃ cs c, kids rows p = cs ++ [c] ∧ T rows c = none ∧ ∀ c' ∈ cs, ∃ r, T rows c' = some r := by
  by_cases hl : (rowOf rows p.1).length = (rowOf rows p.2).length
  · have e : vd rows p = scan (T rows) (rowOf rows p.1) (rowOf rows p.2) 0 1 1 := by unfold vd stepV; rw [if_pos hl]
    rw [kids_eq]
    rw [e] at h ⊢
    exact scan_endless (T rows) _ _ 0 1 1 hl h (fun c r hc => T_ends hc) _ (by simp)
  · rw [(kids_unlike hl).2] at h; cases h
theorem depth_pos (h : (vd rows p).wd ≠ .en) : 1 ≤ (vd rows p).depth := by
  rcases depth_kid h with e | ⟨c, _, r, _, e⟩ <;> omega
theorem steps_pos (h : (vd rows p).wd ≠ .en) : 1 ≤ (vd rows p).steps := by rw [steps_kids h]; omega

/-! ### too deep -/
/-- so many pairs may be open from c on: that is too few -/
def Deep (rows : Rows) (c : Pr) (L : Nat) : Prop := T rows c = none ∨ L < dpt rows c
open Classical in
noncomputable def walkK (rows : Rows) (f : Pr → Nat) (L : Nat) : List Pr → Nat
  | [] => 0
  | c :: cs => if Deep rows c L then f c else stp rows c + walkK rows f L cs
open Classical in
theorem walkK_neg {rows : Rows} {f : Pr → Nat} {L : Nat} {c : Pr} {cs : List Pr} (h : ¬ Deep rows c L) : walkK rows f L (c :: cs) = stp rows c + walkK rows f L cs := if_neg h
open Classical in
theorem walkK_pos {rows : Rows} {f : Pr → Nat} {L : Nat} {c : Pr} {cs : List Pr} (h : Deep rows c L) : walkK rows f L (c :: cs) = f c := if_pos h
/-- the steps until p is too deep, where L pairs may be open -/
noncomputable def sud (rows : Rows) : Nat → Pr → Nat
  | 0, _ => 0
  | L + 1, p => 1 + walkK rows (sud rows L) L (kids rows p)
theorem dpt_vd (h : (vd rows p).wd ≠ .en) : dpt rows p = (vd rows p).depth := by unfold dpt; rw [T_some h]
theorem stp_vd (h : (vd rows p).wd ≠ .en) : stp rows p = (vd rows p).steps := by unfold stp; rw [T_some h]
theorem deep_iff {L : Nat} : Deep rows p L ↔ (vd rows p).wd = .en ∨ L < (vd rows p).depth := by
  unfold Deep
  rw [T_none_iff]
  by_cases h : (vd rows p).wd = .en
  · simp [h]
  · rw [dpt_vd h]
/-- a pair that is too deep has a deep pair among those it enters -/
theorem deep_kid {L : Nat} (h : Deep rows p (L + 1)) : ∃ c ∈ kids rows p, Deep rows c L := by
  by_cases hw : (vd rows p).wd = .en
  · obtain ⟨cs, c, e, hc, _⟩ := kids_endless hw
    exact ⟨c, by rw [e]; simp, .inl hc⟩
  · rcases h with h | h
    · exact absurd (T_none_iff.mp h) hw
    · rw [dpt_vd hw] at h
      rcases depth_kid hw with e | ⟨c, hc, r, hr, e⟩
      · omega
      · refine ⟨c, hc, .inr ?_⟩
        unfold dpt
        rw [hr]
        dsimp only
        omega
/-- the first deep pair, those ahead of it -/
theorem walkK_split {f : Pr → Nat} {L : Nat} : ∀ {l : List Pr}, (∃ c ∈ l, Deep rows c L) → ∃ cs c ds, l = cs ++ c :: ds ∧ Deep rows c L ∧ (∀ c' ∈ cs, ¬ Deep rows c' L) ∧ walkK rows f L l = (cs.map (stp rows)).sum + f c
  | [], h => by obtain ⟨c, hc, _⟩ := h; exact absurd hc List.not_mem_nil
  | c :: l, h => by
    by_cases hd : Deep rows c L
    · exact ⟨[], c, l, rfl, hd, fun c' hc => absurd hc List.not_mem_nil, by rw [walkK_pos hd]; simp⟩
    · obtain ⟨c1, hc1, hd1⟩ := h
      have hm : c1 ∈ l := by
        rcases List.mem_cons.mp hc1 with e | e
        · rw [e] at hd1; exact absurd hd1 hd
        · exact e
      obtain ⟨cs, c2, ds, e1, e2, e3, e4⟩ := walkK_split (f := f) ⟨c1, hm, hd1⟩
      refine ⟨c :: cs, c2, ds, by rw [e1]; rfl, e2, fun c' hc' => ?_, ?_⟩
      · rcases List.mem_cons.mp hc' with e | e
        · rw [e]; exact hd
        · exact e3 c' e
      · rw [walkK_neg hd, e4, List.map_cons, List.sum_cons]
        omega
theorem walkK_app {f : Pr → Nat} {L : Nat} : ∀ (cs : List Pr) (l : List Pr), (∀ c ∈ cs, ¬ Deep rows c L) → walkK rows f L (cs ++ l) = (cs.map (stp rows)).sum + walkK rows f L l
  | [], l, _ => by simp
  | c :: cs, l, h => by
    show walkK rows f L (c :: (cs ++ l)) = _
    rw [walkK_neg (h c List.mem_cons_self), walkK_app cs l fun c' hc => h c' (List.mem_cons_of_mem _ hc), List.map_cons, List.sum_cons]
    omega

/-! ### round about -/
/-- the pair from which an endless pair never comes back -/
noncomputable def nx (rows : Rows) (p : Pr) : Pr := (kids rows p).getLast?.getD p
/-- the steps until it is entered -/
noncomputable def cst (rows : Rows) (p : Pr) : Nat := 1 + (((kids rows p).dropLast).map (stp rows)).sum
theorem nx_endless (h : T rows p = none) : T rows (nx rows p) = none := by
  obtain ⟨cs, c, e, hc, _⟩ := kids_endless (T_none_iff.mp h)
  unfold nx
  rw [e]
  simpa using hc
theorem sud_endless {L D : Nat} (h : T rows p = none) (hD : ∀ c ∈ kids rows p, ∀ r, T rows c = some r → r.depth ≤ D) (hL : D ≤ L) : sud rows (L + 1) p = cst rows p + sud rows L (nx rows p) := by
  obtain ⟨cs, c, e, hc, hcs⟩ := kids_endless (T_none_iff.mp h)
  have hn : nx rows p = c := by unfold nx; rw [e]; simp
  have hd : (kids rows p).dropLast = cs := by rw [e]; simp
  have nd : ∀ c' ∈ cs, ¬ Deep rows c' L := fun c' hc' hdp => by
    obtain ⟨r, hr⟩ := hcs c' hc'
    rcases hdp with h1 | h1
    · rw [hr] at h1; cases h1
    · unfold dpt at h1
      rw [hr] at h1
      dsimp only at h1
      have := hD c' (by rw [e]; simp [hc']) r hr
      omega
  show 1 + walkK rows (sud rows L) L (kids rows p) = _
  unfold cst
  rw [hd, hn]
  have hw : walkK rows (sud rows L) L (kids rows p) = (cs.map (stp rows)).sum + walkK rows (sud rows L) L [c] := by rw [e]; exact walkK_app cs [c] nd
  rw [hw]
  have : walkK rows (sud rows L) L [c] = sud rows L c := walkK_pos (.inl hc)
  rw [this]
  omega
/-- j pairs further, and the steps until then -/
noncomputable def nxs (rows : Rows) : Nat → Pr → Pr
  | 0, p => p
  | j + 1, p => nx rows (nxs rows j p)
noncomputable def csts (rows : Rows) : Nat → Pr → Nat
  | 0, _ => 0
  | j + 1, p => csts rows j p + cst rows (nxs rows j p)
theorem nxs_endless (h : T rows p = none) : ∀ j, T rows (nxs rows j p) = none
  | 0 => h
  | j + 1 => nx_endless (nxs_endless h j)
theorem sud_nxs {D : Nat} {S : Pr → Prop} (hS : ∀ p, S p → T rows p = none → S (nx rows p)) (hD : ∀ p, S p → ∀ c ∈ kids rows p, ∀ r, T rows c = some r → r.depth ≤ D) (h : T rows p = none) (hp : S p) :
    ∀ (j L : Nat), D ≤ L → sud rows (L + j) p = csts rows j p + sud rows L (nxs rows j p) ∧ S (nxs rows j p)
  | 0, L, _ => ⟨by show sud rows L p = 0 + sud rows L p; omega, hp⟩
  | j + 1, L, hL => by
    obtain ⟨e, s⟩ := sud_nxs hS hD h hp j (L + 1) (by omega)
    have e2 := sud_endless (nxs_endless h j) (hD _ s) hL
    refine ⟨?_, hS _ s (nxs_endless h j)⟩
    rw [show L + (j + 1) = L + 1 + j by omega, e, e2]
    show csts rows j p + (cst rows (nxs rows j p) + sud rows L (nx rows (nxs rows j p))) = (csts rows j p + cst rows (nxs rows j p)) + sud rows L (nx rows (nxs rows j p))
    omega
/-- a whole loop of m pairs, gone r times -/
theorem sud_loop {D m : Nat} {S : Pr → Prop} (hS : ∀ p, S p → T rows p = none → S (nx rows p)) (hD : ∀ p, S p → ∀ c ∈ kids rows p, ∀ r, T rows c = some r → r.depth ≤ D) (h : T rows p = none) (hp : S p) (hm : nxs rows m p = p) :
    ∀ (r L : Nat), D ≤ L → sud rows (L + r * m) p = r * csts rows m p + sud rows L p
  | 0, L, _ => by simp
  | r + 1, L, hL => by
    have ih := sud_loop hS hD h hp hm r (L + m) (by omega)
    obtain ⟨e, _⟩ := sud_nxs hS hD h hp m L hL
    rw [hm] at e
    rw [show L + (r + 1) * m = L + m + r * m by rw [Nat.add_mul]; omega, ih, e, Nat.add_mul]
    omega
end
end Rg
end
section
set_option Elab.async false
set_option linter.all false
/-! Bounds: pairs of few boxes, depths, steps. -/
namespace Rg
/-- a list of different numbers below N -/
theorem nodup_lt : ∀ (N : Nat) (l : List Nat), l.Nodup → (∀ x ∈ l, x < N) → l.length ≤ N
  | 0, l, _, h => by
    cases l with
    | nil => exact Nat.le_refl _
    | cons a r => exact absurd (h a List.mem_cons_self) (Nat.not_lt_zero _)
  | N + 1, l, hn, h => by
    have h1 := nodup_lt N (l.erase N) (hn.erase N) fun x hx => by
      have h2 := h x (List.mem_of_mem_erase hx)
      have h3 : x ≠ N := fun e => by
        rw [e] at hx
        exact hn.not_mem_erase hx
      omega
    have h4 : l.length ≤ (l.erase N).length + 1 := by
      by_cases hm : N ∈ l
      · rw [List.length_erase_of_mem hm]; omega
      · rw [List.erase_of_not_mem hm]; omega
    omega
def InR (rows : Rows) (p : Pr) : Prop := p.1 < rows.length ∧ p.2 < rows.length
/-- references to boxes of the heap alone -/
def Clo (rows : Rows) : Prop := ∀ row ∈ rows, ∀ k, Item.box k ∈ row → k < rows.length
theorem mul_lt {n a b : Nat} (ha : a < n) (hb : b < n) : a * n + b < n * n := by
  have h : (a + 1) * n ≤ n * n := Nat.mul_le_mul_right n ha
  rw [Nat.add_mul, Nat.one_mul] at h
  omega
theorem code_inj {n a b a' b' : Nat} (hb : b < n) (hb' : b' < n) (e : a * n + b = a' * n + b') : a = a' ∧ b = b' := by
  have h1 : (a * n + b) / n = a := by rw [Nat.mul_comm, Nat.mul_add_div (by omega), Nat.div_eq_of_lt hb]; omega
  have h2 : (a' * n + b') / n = a' := by rw [Nat.mul_comm, Nat.mul_add_div (by omega), Nat.div_eq_of_lt hb']; omega
  have h3 : a = a' := by rw [← h1, e, h2]
  subst h3
  exact ⟨rfl, by omega⟩
theorem nodup_pairs {rows : Rows} {l : List Pr} (hn : l.Nodup) (h : ∀ p ∈ l, InR rows p) : l.length ≤ rows.length * rows.length := by
  have key : ∀ l : List Pr, l.Nodup → (∀ p ∈ l, InR rows p) → (l.map fun p => p.1 * rows.length + p.2).Nodup := by
    intro l
    induction l with
    | nil => intro _ _; exact List.nodup_nil
    | cons p l ih =>
      intro hn h
      rw [List.map_cons, List.nodup_cons]
      rw [List.nodup_cons] at hn
      refine ⟨fun hm => ?_, ih hn.2 fun q hq => h q (List.mem_cons_of_mem _ hq)⟩
      obtain ⟨q, hq, e⟩ := List.mem_map.mp hm
      obtain ⟨e1, e2⟩ := code_inj (h q (List.mem_cons_of_mem _ hq)).2 (h p List.mem_cons_self).2 e
      exact hn.1 (by rw [show p = q from Prod.ext e1.symm e2.symm]; exact hq)
  have h1 := nodup_lt (rows.length * rows.length) (l.map fun p => p.1 * rows.length + p.2) (key l hn h) fun x hx => by
    obtain ⟨q, hq, e⟩ := List.mem_map.mp hx
    rw [← e]
    exact mul_lt (h q hq).1 (h q hq).2
  rw [List.length_map] at h1
  exact h1
section
variable {rows : Rows}
theorem rowOf_mem {k : Nat} {a : Item} (h : a ∈ rowOf rows k) : ∃ row ∈ rows, a ∈ row := by
  unfold rowOf at h
  rw [List.getD_eq_getElem?_getD] at h
  cases e : rows[k]? with
  | none => rw [e] at h; simp at h
  | some row => rw [e] at h; exact ⟨row, List.mem_of_getElem? e, h⟩
theorem at2_mem {x y : List Item} {j : Nat} {c : Pr} (h : at2 x y j = some c) : .box c.1 ∈ x ∧ .box c.2 ∈ y := by
  unfold at2 at h
  cases e1 : x[j]? with
  | none => rw [e1] at h; simp at h
  | some a =>
    cases e2 : y[j]? with
    | none => rw [e1, e2] at h; simp at h
    | some b =>
      rw [e1, e2] at h
      dsimp only at h
      obtain ⟨ha, hb, _⟩ := pairOf_some h
      exact ⟨by rw [← ha]; exact List.mem_of_getElem? e1, by rw [← hb]; exact List.mem_of_getElem? e2⟩
theorem at2_inR (hc : Clo rows) {p c : Pr} {j : Nat} (h : at2 (rowOf rows p.1) (rowOf rows p.2) j = some c) : InR rows c := by
  obtain ⟨h1, h2⟩ := at2_mem h
  obtain ⟨r1, m1, k1⟩ := rowOf_mem h1
  obtain ⟨r2, m2, k2⟩ := rowOf_mem h2
  exact ⟨hc r1 m1 _ k1, hc r2 m2 _ k2⟩
theorem kids_inR (hc : Clo rows) {p c : Pr} (h : c ∈ kids rows p) : InR rows c := by
  rw [kids_eq] at h
  obtain ⟨j, _, e⟩ := mem_kidsS.mp h
  exact at2_inR hc e
/-- pairs of every depth up to that of p -/
theorem chain_of (hc : Clo rows) : ∀ (d : Nat) (p : Pr) (r : Fv), InR rows p → T rows p = some r → r.depth = d → ∃ l : List Pr, l.length = d ∧ l.Nodup ∧ ∀ q ∈ l, InR rows q ∧ ∃ r', T rows q = some r' ∧ r'.depth ≤ d
  | 0, p, r, _, _, _ => ⟨[], rfl, List.nodup_nil, fun q hq => absurd hq List.not_mem_nil⟩
  | d + 1, p, r, hp, hr, hd => by
    obtain ⟨e, hw⟩ := T_vd hr
    by_cases hz : d = 0
    · subst hz
      exact ⟨[p], rfl, List.nodup_cons.mpr ⟨List.not_mem_nil, List.nodup_nil⟩, fun q hq => by
        rw [List.mem_singleton.mp hq]
        exact ⟨hp, r, hr, by omega⟩⟩
    · rw [← e] at hw
      rcases depth_kid hw with h1 | ⟨c, hcm, rc, hrc, h1⟩
      · rw [e] at h1; omega
      · rw [e] at h1
        obtain ⟨l, l1, l2, l3⟩ := chain_of hc d c rc (kids_inR hc hcm) hrc (by omega)
        refine ⟨p :: l, by simp [l1], List.nodup_cons.mpr ⟨fun hm => ?_, l2⟩, fun q hq => ?_⟩
        · obtain ⟨_, r', hr', hle⟩ := l3 p hm
          rw [hr] at hr'
          cases hr'
          omega
        · rcases List.mem_cons.mp hq with e' | hq
          · rw [e']; exact ⟨hp, r, hr, by omega⟩
          · obtain ⟨h2, r', h3, h4⟩ := l3 q hq
            exact ⟨h2, r', h3, by omega⟩
theorem depth_le (hc : Clo rows) {p : Pr} {r : Fv} (hp : InR rows p) (hr : T rows p = some r) : r.depth ≤ rows.length * rows.length := by
  obtain ⟨l, l1, l2, l3⟩ := chain_of hc r.depth p r hp hr rfl
  rw [← l1]
  exact nodup_pairs l2 fun q hq => (l3 q hq).1
theorem sum_le {f : Pr → Nat} {M : Nat} : ∀ {l : List Pr}, (∀ c ∈ l, f c ≤ M) → (l.map f).sum ≤ l.length * M
  | [], _ => by simp
  | c :: l, h => by
    have h1 := h c List.mem_cons_self
    have h2 := sum_le (l := l) fun c' hc => h c' (List.mem_cons_of_mem _ hc)
    rw [List.map_cons, List.sum_cons, List.length_cons, Nat.add_mul]
    omega
theorem kids_length {p : Pr} {w : Nat} (hw : ∀ row ∈ rows, row.length ≤ w) : (kids rows p).length ≤ w := by
  have h1 : (rowOf rows p.1).length ≤ w := by
    unfold rowOf
    rw [List.getD_eq_getElem?_getD]
    cases e : rows[p.1]? with
    | none => exact Nat.zero_le _
    | some row => exact hw row (List.mem_of_getElem? e)
  rw [kids_eq]
  unfold kidsS
  refine Nat.le_trans (List.length_filterMap_le _ _) ?_
  rw [List.length_take, List.length_zip]
  omega
theorem steps_le {w : Nat} (hw : ∀ row ∈ rows, row.length ≤ w) : ∀ (n : Nat) (p : Pr) (r : Fv), T rows p = some r → r.depth ≤ n → r.steps ≤ (w + 1) ^ n
  | 0, p, r, hr, hd => by
    obtain ⟨e, hn⟩ := T_vd hr
    rw [← e] at hn hd
    have := depth_pos hn
    omega
  | n + 1, p, r, hr, hd => by
    obtain ⟨e, hn⟩ := T_vd hr
    rw [← e] at hn hd ⊢
    rw [steps_kids hn]
    have hk : ∀ c ∈ kids rows p, stp rows c ≤ (w + 1) ^ n := fun c hc => by
      obtain ⟨rc, h1, h2⟩ := kids_ends hn c hc
      unfold stp
      rw [h1]
      exact steps_le hw n c rc h1 (by omega)
    have h1 := sum_le hk
    have h2 := Nat.mul_le_mul_right ((w + 1) ^ n) (kids_length (p := p) hw)
    have h3 : 0 < (w + 1) ^ n := Nat.pow_pos (by omega)
    rw [Nat.pow_succ, Nat.mul_add, Nat.mul_one, Nat.mul_comm ((w + 1) ^ n) w]
    omega
/-- as many boxes, and as few items in each, as the law makes -/
structure Small (rows : Rows) : Prop where
  clo : Clo rows
  ten : rows.length ≤ 10
  three : ∀ row ∈ rows, row.length ≤ 3
def big : Nat := 2 ^ 200
theorem stp_big (h : Small rows) {p : Pr} (hp : InR rows p) : stp rows p ≤ big := by
  unfold stp
  cases e : T rows p with
  | none => exact Nat.zero_le _
  | some r =>
    have h1 := depth_le h.clo hp e
    have h2 : rows.length * rows.length ≤ 100 := Nat.mul_le_mul h.ten h.ten
    have h3 := steps_le h.three 100 p r e (by omega)
    have h4 : (3 + 1) ^ 100 = big := by decide
    show r.steps ≤ big
    rw [← h4]
    exact h3
theorem walkK_le {f : Pr → Nat} {L M B : Nat} : ∀ {l : List Pr}, (∀ c ∈ l, stp rows c ≤ B) → (∀ c ∈ l, f c ≤ M) → walkK rows f L l ≤ l.length * B + M
  | [], _, _ => Nat.zero_le _
  | c :: l, h1, h2 => by
    by_cases hd : Deep rows c L
    · rw [walkK_pos hd]
      have := h2 c List.mem_cons_self
      omega
    · rw [walkK_neg hd, List.length_cons, Nat.add_mul]
      have := h1 c List.mem_cons_self
      have := walkK_le (f := f) (L := L) (M := M) (B := B) (l := l) (fun c' hc => h1 c' (List.mem_cons_of_mem _ hc)) fun c' hc => h2 c' (List.mem_cons_of_mem _ hc)
      omega
theorem sud_le (h : Small rows) : ∀ (L : Nat) (p : Pr), sud rows L p ≤ L * (4 * big)
  | 0, _ => Nat.zero_le _
  | L + 1, p => by
    have h1 : walkK rows (sud rows L) L (kids rows p) ≤ (kids rows p).length * big + L * (4 * big) := walkK_le (fun c hc => stp_big h (kids_inR h.clo hc)) fun c _ => sud_le h L c
    have h2 := Nat.mul_le_mul_right big (kids_length (p := p) h.three)
    have h3 : 1 ≤ big := by decide
    show 1 + walkK rows (sud rows L) L (kids rows p) ≤ (L + 1) * (4 * big)
    rw [Nat.add_mul]
    omega
end
end Rg
end
section
set_option Elab.async false
set_option linter.all false
set_option maxRecDepth 100000
/-! What stands in the heap. -/
namespace Rg
open PySem PySem.Spec PyProof.Rows L2
/-! ### frames -/
/-- all but these is as it was -/
def Off (S : List Addr) (H H' : Hp) : Prop := ∀ b o, b ∉ S → H b = some o → H' b = some o
theorem Off.refl {S : List Addr} {H : Hp} : Off S H H := fun _ _ _ e => e
theorem Off.trans {S : List Addr} {H H1 H2 : Hp} (a : Off S H H1) (b : Off S H1 H2) : Off S H H2 := fun c o n e => b c o n (a c o n e)
theorem Off.mono {S S' : List Addr} {H H1 : Hp} (a : Off S H H1) (h : ∀ b ∈ S, b ∈ S') : Off S' H H1 := fun c o n e => a c o (fun z => n (h c z)) e
theorem Off.same {S : List Addr} {H H1 : Hp} (a : Same H H1) : Off S H H1 := fun c o _ e => a c o e
theorem Off.put {S : List Addr} {H : Hp} {a : Addr} {o : HO} (h : a ∈ S) : Off S H (upd H a o) := fun b u n e => by
  rw [upd_ne (fun z => n (by rw [z]; exact h))]; exact e
theorem Off.new {S : List Addr} {H : Hp} {a : Addr} {o : HO} (h : H a = none) : Off S H (upd H a o) := fun b u n e => by
  rw [upd_ne (ne_of_none e h)]; exact e
theorem same_new {H : Hp} {a : Addr} {o : HO} (h : H a = none) : Same H (upd H a o) := fun b u e => by
  rw [upd_ne (ne_of_none e h)]; exact e
/-- what was not tracked and is written does not matter to the base -/
theorem same_put {B H : Hp} {a : Addr} {o : HO} (s : Same B H) (h : B a = none) : Same B (upd H a o) := fun b u e => by
  rw [upd_ne (ne_of_none e h)]; exact s b u e
theorem Off.base {S : List Addr} {B H H' : Hp} (s : Same B H) (a : Off S H H') (h : ∀ b ∈ S, B b = none) : Same B H' := fun b o e => a b o (fun z => by rw [h b z] at e; cases e) (s b o e)
/-- the heap without these -/
def cut (S : List Addr) (H : Hp) : Hp := fun b => if b ∈ S then none else H b
theorem cut_same {S : List Addr} {H : Hp} : Same (cut S H) H := fun b o e => by
  unfold cut at e
  split at e
  · cases e
  · exact e
theorem cut_none {S : List Addr} {H : Hp} {b : Addr} (h : b ∈ S) : cut S H b = none := by unfold cut; rw [if_pos h]
theorem cut_of {S : List Addr} {H : Hp} {b : Addr} {o : HO} (h : b ∉ S) (e : H b = some o) : cut S H b = some o := by unfold cut; rw [if_neg h]; exact e
theorem cut_free {S : List Addr} {H : Hp} {b : Addr} (e : H b = none) : cut S H b = none := by unfold cut; rw [e]; split <;> rfl

/-! ### items, rows, tables -/
def ItV (H : Hp) (v : V) : Item → Prop
  | .int i => v = .int i
  | .str x => v = .str x ∧ PyData.strOk x = true
  | .box k => ∃ t, v = .ref t ∧ H t = some (.tup [.str "box", .int (k : Int)])
def RowAt (H : Hp) (p : Addr) (row : List Item) : Prop := ∃ vs, H p = some (.lst vs) ∧ Paired (ItV H) vs row
def TabAt (H : Hp) (l : Addr) (rows : Rows) : Prop := ∃ ps : List Addr, H l = some (.lst (ps.map V.ref)) ∧ Paired (RowAt H) ps rows
def kp (p : Pr) : List L2.Key := [.inl (p.1 : Int), .inl (p.2 : Int)]
def PrV (H : Hp) (t : Addr) (p : Pr) : Prop := H t = some (.tup [.int (p.1 : Int), .int (p.2 : Int)])
theorem kp_inj {p q : Pr} (h : kp p = kp q) : p = q := by
  unfold kp at h
  have h1 := (List.cons.inj h).1
  have h2 := (List.cons.inj (List.cons.inj h).2).1
  have a := Int.ofNat.inj (Sum.inl.inj h1)
  have b := Int.ofNat.inj (Sum.inl.inj h2)
  exact Prod.ext a b
theorem PrV.key {H : Hp} {t : Addr} {p : Pr} (h : PrV H t p) : H t = some (.tup ((kp p).map kV)) := h
theorem ItV.same {H H' : Hp} (s : Same H H') {v : V} {it : Item} (h : ItV H v it) : ItV H' v it := by
  cases it with
  | int i => exact h
  | str x => exact h
  | box k => obtain ⟨t, e, ht⟩ := h; exact ⟨t, e, s _ _ ht⟩
theorem RowAt.same {H H' : Hp} (s : Same H H') {p : Addr} {row : List Item} (h : RowAt H p row) : RowAt H' p row := by
  obtain ⟨vs, e, r⟩ := h
  exact ⟨vs, s _ _ e, Paired.mapP r fun _ _ => ItV.same s⟩
theorem TabAt.same {H H' : Hp} (s : Same H H') {l : Addr} {rows : Rows} (h : TabAt H l rows) : TabAt H' l rows := by
  obtain ⟨ps, e, r⟩ := h
  exact ⟨ps, s _ _ e, Paired.mapP r fun _ _ => RowAt.same s⟩
theorem PrV.same {H H' : Hp} (s : Same H H') {t : Addr} {p : Pr} (h : PrV H t p) : PrV H' t p := s _ _ h
/-- a thing that is no list, no tuple, is not leant on -/
def Odd (o : HO) : Prop := (∀ xs, o ≠ .lst xs) ∧ ∀ xs, o ≠ .tup xs
theorem cut_tab {S : List Addr} {H : Hp} (hS : ∀ b ∈ S, ∃ o, H b = some o ∧ Odd o) {l : Addr} {rows : Rows} (h : TabAt H l rows) : TabAt (cut S H) l rows := by
  have nl : ∀ {b : Addr} {xs}, H b = some (.lst xs) → b ∉ S := fun e z => by
    obtain ⟨o, eo, n, _⟩ := hS _ z
    rw [e] at eo
    exact n _ (Option.some.inj eo).symm
  have nt : ∀ {b : Addr} {xs}, H b = some (.tup xs) → b ∉ S := fun e z => by
    obtain ⟨o, eo, _, n⟩ := hS _ z
    rw [e] at eo
    exact n _ (Option.some.inj eo).symm
  obtain ⟨ps, e, r⟩ := h
  refine ⟨ps, cut_of (nl e) e, Paired.mapP r fun p row ⟨vs, ep, rp⟩ => ⟨vs, cut_of (nl ep) ep, Paired.mapP rp fun v it hv => ?_⟩⟩
  cases it with
  | int i => exact hv
  | str x => exact hv
  | box k => obtain ⟨t, ev, ht⟩ := hv; exact ⟨t, ev, cut_of (nt ht) ht⟩
theorem Paired.at_ {α β : Type} {F : α → β → Prop} : ∀ {xs : List α} {ys : List β} {i : Nat} {y : β}, Paired F xs ys → ys[i]? = some y → ∃ x, xs[i]? = some x ∧ F x y
  | _, _, _, _, .nil, h => by simp at h
  | _, _, 0, _, .cons r _, h => by cases (show some _ = some _ from h); exact ⟨_, rfl, r⟩
  | _, _, i + 1, _, .cons _ t, h => Paired.at_ (i := i) t h
theorem Paired.at1 {α β : Type} {F : α → β → Prop} : ∀ {xs : List α} {ys : List β} {i : Nat} {x : α}, Paired F xs ys → xs[i]? = some x → ∃ y, ys[i]? = some y ∧ F x y
  | _, _, _, _, .nil, h => by simp at h
  | _, _, 0, _, .cons r _, h => by cases (show some _ = some _ from h); exact ⟨_, rfl, r⟩
  | _, _, i + 1, _, .cons _ t, h => Paired.at1 (i := i) t h
theorem Paired.app {α β : Type} {F : α → β → Prop} : ∀ {xs : List α} {ys : List β} {zs : List α} {ws : List β}, Paired F xs ys → Paired F zs ws → Paired F (xs ++ zs) (ys ++ ws)
  | _, _, _, _, .nil, h => h
  | _, _, _, _, .cons r t, h => .cons r (Paired.app t h)
theorem rowOf_at {rows : Rows} {k : Nat} (h : k < rows.length) : rows[k]? = some (rowOf rows k) := by
  unfold rowOf
  rw [List.getD_eq_getElem?_getD, List.getElem?_eq_getElem h]
  rfl
theorem row_at {H : Hp} {rows : Rows} {k : Nat} {ps : List Addr} (r : Paired (RowAt H) ps rows) (h : k < rows.length) : ∃ p, (ps.map V.ref)[k]? = some (.ref p) ∧ RowAt H p (rowOf rows k) := by
  obtain ⟨p, e, x⟩ := Paired.at_ r (rowOf_at h)
  exact ⟨p, by rw [List.getElem?_map, e]; rfl, x⟩

/-! ### the verdicts -/
def wst : Wd → Str
  | .eq => "equal"
  | .un => "unlike"
  | .en => "endless"
/-- the tuple of a verdict -/
def vtup (r : Fv) : List V := if r.wd = .en then [.str "endless", .non, .non, .int r.place] else [.str (wst r.wd), .int (r.steps : Int), .int (r.depth : Int), .int r.place]
theorem vtup_en {r : Fv} (h : r.wd = .en) : vtup r = [.str "endless", .non, .non, .int r.place] := if_pos h
theorem vtup_ne {r : Fv} (h : r.wd ≠ .en) : vtup r = [.str (wst r.wd), .int (r.steps : Int), .int (r.depth : Int), .int r.place] := if_neg h
theorem vtup_0 (r : Fv) : (vtup r)[0]? = some (.str (wst r.wd)) := by
  by_cases h : r.wd = .en
  · rw [vtup_en h, h]; rfl
  · rw [vtup_ne h]; rfl
theorem vtup_3 (r : Fv) : (vtup r)[3]? = some (.int r.place) := by
  by_cases h : r.wd = .en
  · rw [vtup_en h]; rfl
  · rw [vtup_ne h]; rfl
def KvOk (H : Hp) (rows : Rows) (kv : List L2.Key × V) (p : Pr) : Prop := kv.1 = kp p ∧ ∃ t, kv.2 = .ref t ∧ H t = some (.tup (vtup (vd rows p)))
theorem KvOk.same {H H' : Hp} (s : Same H H') {rows : Rows} {kv : List L2.Key × V} {p : Pr} (h : KvOk H rows kv p) : KvOk H' rows kv p := by
  obtain ⟨e, t, e2, ht⟩ := h
  exact ⟨e, t, e2, s _ _ ht⟩
theorem KvOk.off {S : List Addr} {H H' : Hp} (s : Off S H H') (hS : ∀ b ∈ S, ∀ xs, H b ≠ some (.tup xs)) {rows : Rows} {kv : List L2.Key × V} {p : Pr} (h : KvOk H rows kv p) : KvOk H' rows kv p := by
  obtain ⟨e, t, e2, ht⟩ := h
  exact ⟨e, t, e2, s _ _ (fun z => hS _ z _ ht) ht⟩
theorem known_in {H : Hp} {rows : Rows} : ∀ {kvs : List (List L2.Key × V)} {ks : List Pr} {p : Pr}, Paired (KvOk H rows) kvs ks → p ∈ ks → ∃ t, valV kvs (kp p) = some (.ref t) ∧ H t = some (.tup (vtup (vd rows p)))
  | _, _, _, .nil, h => absurd h List.not_mem_nil
  | kv :: kvs, q :: ks, p, .cons r t, h => by
    obtain ⟨e, a, e2, ha⟩ := r
    by_cases hq : q = p
    · subst hq
      exact ⟨a, by rw [valV_pos e, e2], ha⟩
    · rw [valV_neg (fun z => hq (kp_inj (e.symm.trans z)))]
      exact known_in t (by rcases List.mem_cons.mp h with z | z; exact absurd z.symm hq; exact z)
theorem known_out {H : Hp} {rows : Rows} : ∀ {kvs : List (List L2.Key × V)} {ks : List Pr} {p : Pr}, Paired (KvOk H rows) kvs ks → p ∉ ks → valV kvs (kp p) = none
  | _, _, _, .nil, _ => rfl
  | kv :: kvs, q :: ks, p, .cons r t, h => by
    obtain ⟨e, _⟩ := r
    rw [valV_neg (fun z => h (by rw [kp_inj (e.symm.trans z)]; exact List.mem_cons_self))]
    exact known_out t fun z => h (List.mem_cons_of_mem _ z)
/-- every pair that a known pair enters is known -/
def Closed (rows : Rows) (ks : List Pr) : Prop := ∀ p ∈ ks, ∀ c ∈ kids rows p, c ∈ ks
/-- the Verdicts at v, but for its table of lists -/
structure VerM (C : Addr) (H : Hp) (v l d : Addr) (n : Nat) (rows : Rows) (ks : List Pr) : Prop where
  at_ : ∃ dx, H v = some (.ins C dx [("lists", V.ref l), ("known", V.ref d), ("deepest", V.int (n : Int))])
  dict : ∃ kvs, H d = some (.dT kvs) ∧ Paired (KvOk H rows) kvs ks
  nd : ks.Nodup
  inr : ∀ p ∈ ks, InR rows p
  deep : ∀ p ∈ ks, ∀ r, T rows p = some r → r.depth ≤ n
theorem VerM.same {C : Addr} {H H' : Hp} {v l d : Addr} {n : Nat} {rows : Rows} {ks : List Pr} (s : Same H H') (h : VerM C H v l d n rows ks) : VerM C H' v l d n rows ks := by
  obtain ⟨⟨dx, e⟩, ⟨kvs, e2, r⟩, a, b, c⟩ := h
  exact ⟨⟨dx, s _ _ e⟩, ⟨kvs, s _ _ e2, Paired.mapP r fun _ _ => KvOk.same s⟩, a, b, c⟩
/-- all but a thing that is neither v nor d nor a tuple -/
theorem VerM.off {S : List Addr} {C : Addr} {H H' : Hp} {v l d : Addr} {n : Nat} {rows : Rows} {ks : List Pr} (s : Off S H H') (hv : v ∉ S) (hd : d ∉ S) (hS : ∀ b ∈ S, ∀ xs, H b ≠ some (.tup xs)) (h : VerM C H v l d n rows ks) : VerM C H' v l d n rows ks := by
  obtain ⟨⟨dx, e⟩, ⟨kvs, e2, r⟩, a, b, c⟩ := h
  exact ⟨⟨dx, s _ _ hv e⟩, ⟨kvs, s _ _ hd e2, Paired.mapP r fun _ _ => KvOk.off s hS⟩, a, b, c⟩
theorem VerM.ne {C : Addr} {H : Hp} {v l d : Addr} {n : Nat} {rows : Rows} {ks : List Pr} (h : VerM C H v l d n rows ks) : v ≠ d := by
  obtain ⟨⟨dx, e⟩, ⟨kvs, e2, r⟩, _⟩ := h
  exact ne_of e e2 (fun z => nomatch z)
theorem VerM.count {C : Addr} {H : Hp} {v l d : Addr} {n : Nat} {rows : Rows} {ks : List Pr} (h : VerM C H v l d n rows ks) : ks.length ≤ rows.length * rows.length := nodup_pairs h.nd h.inr
/-- the Verdicts at v -/
def VerAt (C : Addr) (H : Hp) (v l d : Addr) (n : Nat) (rows : Rows) (ks : List Pr) : Prop := VerM C H v l d n rows ks ∧ TabAt H l rows
theorem VerAt.same {C : Addr} {H H' : Hp} {v l d : Addr} {n : Nat} {rows : Rows} {ks : List Pr} (s : Same H H') (h : VerAt C H v l d n rows ks) : VerAt C H' v l d n rows ks := ⟨h.1.same s, h.2.same s⟩
/-- a base: all that stood there, the lists too, but not v, d -/
theorem VerAt.base {C : Addr} {H : Hp} {v l d : Addr} {n : Nat} {rows : Rows} {ks : List Pr} (h : VerAt C H v l d n rows ks) : TabAt (cut [v, d] H) l rows := by
  obtain ⟨⟨⟨dx, e⟩, ⟨kvs, e2, r⟩, _⟩, t⟩ := h
  refine cut_tab (fun b hb => ?_) t
  rcases List.mem_cons.mp hb with z | z
  · exact ⟨.ins C dx _, by rw [z]; exact e, ⟨fun _ z => (nomatch z), fun _ z => (nomatch z)⟩⟩
  · cases List.mem_singleton.mp z
    exact ⟨.dT kvs, e2, ⟨fun _ z => (nomatch z), fun _ z => (nomatch z)⟩⟩

/-! ### the heap of lists -/
def HeapAt (C : Addr) (H : Hp) (h : Addr) (rows : Rows) : Prop := ∃ dx l, H h = some (.ins C dx [("lists", V.ref l)]) ∧ TabAt H l rows
theorem HeapAt.same {C : Addr} {H H' : Hp} {h : Addr} {rows : Rows} (s : Same H H') (x : HeapAt C H h rows) : HeapAt C H' h rows := by
  obtain ⟨dx, l, e, t⟩ := x
  exact ⟨dx, l, s _ _ e, t.same s⟩

/-! ### turns of a while -/
theorem while_m {c : TT} {tb : TS} {D : Ends} {σ : L2.St} {H : Hp} (W : Nat → L2.St → Hp → Prop) (h0 : ∃ m, W m σ H)
    (hs : ∀ m σ H, W m σ H → c σ H fun b H1 => if b = true then tb { D with nx := fun σ' H' => ∃ m', m' < m ∧ W m' σ' H', ct := fun σ' H' => ∃ m', m' < m ∧ W m' σ' H', bk := D.nx } σ H1 else D.nx σ H1)
    (mono : ∀ σ H Q Q', (∀ b H1, Q b H1 → Q' b H1) → c σ H Q → c σ H Q') : tWhile c tb D σ H := by
  refine ⟨W, h0, fun m σ H w => mono σ H _ _ (fun b H1 q => ?_) (hs m σ H w)⟩
  refine ite2 (fun e => ?_) (fun e => ?_)
  · rw [if_pos e] at q
    exact ⟨_, fun _ _ z => z, q⟩
  · rw [if_neg e] at q
    exact q
end Rg
end
section
set_option Elab.async false
set_option linter.all false
set_option maxRecDepth 100000
/-! Items as data: how == compares them. -/
namespace Rg
open PySem PySem.Spec PyProof.Rows L2
def toD : Item → PyData
  | .int i => .int i
  | .str x => .str x
  | .box k => .tuple [.str "box", .int (k : Int)]
theorem toD_eqv (a b : Item) : PyData.eqv (toD a) (toD b) = decide (a = b) := by
  cases a with
  | int i => cases b with
    | int j => simp [toD, PyData.eqv]; rw [Bool.eq_iff_iff]; simp
    | str y => simp [toD, PyData.eqv]
    | box k => simp [toD, PyData.eqv]
  | str x => cases b with
    | int j => simp [toD, PyData.eqv]
    | str y => simp [toD, PyData.eqv]; rw [Bool.eq_iff_iff]; simp
    | box k => simp [toD, PyData.eqv]
  | box k => cases b with
    | int j => simp [toD, PyData.eqv]
    | str y => simp [toD, PyData.eqv]
    | box j =>
      have e : PyData.eqv (toD (.box k)) (toD (.box j)) = ((k : Int) == (j : Int)) := by simp [toD, PyData.eqv, PyData.eqvAll]
      rw [e, Bool.eq_iff_iff, beq_iff_eq, decide_eq_true_eq]
      exact ⟨fun h => by rw [Int.ofNat.inj h], fun h => by rw [Item.box.inj h]⟩
theorem toDs_eqv : ∀ xs ys : List Item, PyData.eqvAll (xs.map toD) (ys.map toD) = decide (xs = ys)
  | [], [] => by simp [PyData.eqvAll]
  | [], y :: ys => by simp [PyData.eqvAll]
  | x :: xs, [] => by simp [PyData.eqvAll]
  | x :: xs, y :: ys => by
    simp only [List.map_cons, PyData.eqvAll]
    rw [toD_eqv, toDs_eqv, Bool.eq_iff_iff]
    simp
theorem toD_list (xs ys : List Item) : PyData.eqv (.list (xs.map toD)) (.list (ys.map toD)) = decide (xs = ys) := by
  simp only [PyData.eqv]
  exact toDs_eqv xs ys
def OkI : Item → Prop
  | .str x => PyData.strOk x = true
  | _ => True
theorem ItV.ok {H : Hp} {v : V} {a : Item} (h : ItV H v a) : OkI a := by
  cases a with
  | int i => exact True.intro
  | str x => exact h.2
  | box k => exact True.intro
theorem box_ok : PyData.strOk ("box" : Str) = true := by decide +kernel
theorem toD_lay {a : Item} (h : OkI a) : (toD a).canLay0 = true := by
  cases a with
  | int i => simp [toD, PyData.canLay0]
  | str x => simp [toD, PyData.canLay0]; exact h
  | box k => simp [toD, PyData.canLay0, PyData.canLayAll0]; exact box_ok
theorem toD_depth (a : Item) : (toD a).depth ≤ 1 := by cases a <;> simp [toD, PyData.depth, PyData.depthAll]
theorem toDs_lay {H : Hp} : ∀ {vs : List V} {xs : List Item}, Paired (ItV H) vs xs → PyData.canLayAll0 (xs.map toD) = true
  | _, _, .nil => by simp [PyData.canLayAll0]
  | _, _, .cons r t => by simp [PyData.canLayAll0, toD_lay r.ok, toDs_lay t]
theorem toDs_depth : ∀ xs : List Item, PyData.depthAll (xs.map toD) ≤ 1
  | [] => by simp [PyData.depthAll]
  | x :: xs => by
    have h1 := toDs_depth xs
    have h2 := toD_depth x
    simp only [List.map_cons, PyData.depthAll]
    omega
theorem toD_shaped {H : Hp} {v : V} {a : Item} (r : ItV H v a) : SeqAt.shaped (toD a) = true := by
  have h := toD_depth a
  show ((toD a).canLay0 && decide ((toD a).depth ≤ 64)) = true
  rw [Bool.and_eq_true]
  exact ⟨toD_lay r.ok, decide_eq_true (by omega)⟩
theorem toDs_shaped {H : Hp} {vs : List V} {xs : List Item} (r : Paired (ItV H) vs xs) : SeqAt.shaped (.list (xs.map toD)) = true := by
  have h1 := toDs_depth xs
  have h2 : PyData.depth (.list (xs.map toD)) ≤ 64 := by
    simp only [PyData.depth]
    omega
  show (PyData.canLay0 (.list (xs.map toD)) && decide (PyData.depth (.list (xs.map toD)) ≤ 64)) = true
  rw [Bool.and_eq_true]
  exact ⟨by simp only [PyData.canLay0]; exact toDs_lay r, decide_eq_true h2⟩
theorem ItV.dp {K : PySem.W.Frag} {H : Hp} {v : V} {a : Item} (h : ItV H v a) : Dp K H v (toD a) := by
  cases a with
  | int i => cases (show v = _ from h); exact .int i
  | str x => cases (show v = _ from h.1); exact .str x
  | box k =>
    obtain ⟨t, e, ht⟩ := h
    subst e
    exact .tup (.of ht) (.cons (.str _) (.cons (.int _) .nil))
theorem dp_all {K : PySem.W.Frag} {H : Hp} : ∀ {vs : List V} {row : List Item}, Paired (ItV H) vs row → DpAll K H vs (row.map toD)
  | _, _, .nil => .nil
  | _, _, .cons r t => .cons (ItV.dp r) (dp_all t)
/-- lists of items, compared -/
theorem row_dp {K : PySem.W.Frag} {H : Hp} {p : Addr} {row : List Item} (h : RowAt H p row) : Dp K H (.ref p) (.list (row.map toD)) := by
  obtain ⟨vs, e, r⟩ := h
  exact .lst (.of e) (dp_all r)
/-- words of few small letters -/
def LET : Str := "abcdefghijklmnopqrstuvwxyz"
def WordOk (z : Str) : Prop := z.length ≤ 8 ∧ z.cps.toList.all (fun c => !(Builtin.Str.occurrences LET ⟨#[c]⟩ 0 LET.length 1).isEmpty) = true
def GoodI (n : Nat) : Item → Prop
  | .int _ => True
  | .str z => WordOk z
  | .box k => k < n
end Rg
end
section
set_option Elab.async false
set_option linter.all false
set_option maxRecDepth 100000
set_option maxHeartbeats 2000000
/-! Items: what the small defs answer. -/
namespace Rg
open PySem PySem.Spec PyProof.Rows L2
section
variable {P : Program} {w : World} {K : PySem.W.Frag} {mg : Str → Option Value} {base : Heap}
theorem tyInt (H : Hp) (i : Int) : TyX K H (.int i) (.type "int") := .base (.int i)
theorem tyStr (H : Hp) (z : Str) : TyX K H (.str z) (.type "str") := .base (.str z)
theorem tyTup {H : Hp} {t : Addr} {xs : List V} (h : H t = some (.tup xs)) : TyX K H (.ref t) (.type "tuple") := .base (.tup h)
theorem k_ii : PySem.W.kitOne K (.type "int") (.type "int") = some true := kit_ty (by decide +kernel)
theorem k_ib : PySem.W.kitOne K (.type "int") (.type "bool") = some false := kit_ty (by decide +kernel)
theorem k_is : PySem.W.kitOne K (.type "int") (.type "str") = some false := kit_ty (by decide +kernel)
theorem k_it : PySem.W.kitOne K (.type "int") (.type "tuple") = some false := kit_ty (by decide +kernel)
theorem k_si : PySem.W.kitOne K (.type "str") (.type "int") = some false := kit_ty (by decide +kernel)
theorem k_ss : PySem.W.kitOne K (.type "str") (.type "str") = some true := kit_ty (by decide +kernel)
theorem k_st : PySem.W.kitOne K (.type "str") (.type "tuple") = some false := kit_ty (by decide +kernel)
theorem k_ti : PySem.W.kitOne K (.type "tuple") (.type "int") = some false := kit_ty (by decide +kernel)
theorem k_ts : PySem.W.kitOne K (.type "tuple") (.type "str") = some false := kit_ty (by decide +kernel)
theorem k_tt : PySem.W.kitOne K (.type "tuple") (.type "tuple") = some true := kit_ty (by decide +kernel)
theorem kpq {x q : Str} {st : Stmt} {kws : List (Str × V)} {f : Addr} (F : FnQ K x q st kws f) : PySem.W.keepIn K (.ref f) = true := by
  obtain ⟨fd, F⟩ := F
  exact F.kp
/-- is x an int -/
def KindI (H : Hp) (x : V) (b : Bool) : Prop := (∃ i, x = .int i ∧ b = true) ∨ (∃ z, x = .str z ∧ b = false) ∨ ∃ t xs, x = .ref t ∧ H t = some (.tup xs) ∧ b = false
def sp_is_integer : Sp := fun vs H Q _ => ∃ x b, vs = [x] ∧ KindI H x b ∧ Q (.bl b) H
theorem r_is_integer (T : Tx K mg) : FnR P w K mg base CX0 1 (He.ga K "is_integer") sp_is_integer := by
  refine fnr T.F_is_integer c_is_integer (fun vs H Q E h => ?_) (fun _ _ _ _ _ _ us hl => match us, hl with | [_], _ => rfl) (fun cdv A outer s H vs Q E hr h => ?_)
  · obtain ⟨x, b, rfl, _⟩ := h; rfl
  · obtain ⟨x, b, rfl, hk, q⟩ := h
    refine ⟨_, pss_one (ps_ret (pe_and (pe_callB call_isi (by rfl) T.z_isinstance boot_isinstance (pa_cons (pv 0) (pa_cons (pe_bltn (v := .ty "int") (by rfl) T.z_int boot_int rfl) pa_nil)))
      (pe_one (pe_not (pe_callB call_isi (by rfl) T.z_isinstance boot_isinstance (pa_cons (pv 0) (pa_cons (pe_bltn (v := .ty "bool") (by rfl) T.z_bool boot_bool rfl) pa_nil))))))), ?_⟩
    rcases hk with ⟨i, rfl, rfl⟩ | ⟨z, rfl, rfl⟩ | ⟨t, xs, rfl, ht, rfl⟩
    · refine ⟨_, rfl, _, _, _, _, true, rfl, .ty _, tyInt _ _, k_ii, _, rfl, iteT ?_⟩
      exact ⟨_, rfl, _, _, _, _, false, rfl, .ty _, tyInt _ _, k_ib, _, rfl, q⟩
    · exact ⟨_, rfl, _, _, _, _, false, rfl, .ty _, tyStr _ _, k_si, _, rfl, iteF q⟩
    · exact ⟨_, rfl, _, _, _, _, false, rfl, .ty _, tyTup ht, k_ti, _, rfl, iteF q⟩
/-- low ≤ x ≤ high, ints -/
def sp_is_within : Sp := fun vs H Q _ => ∃ x lo hi : Int, vs = [.int x, .int lo, .int hi] ∧ Q (.bl (decide (lo ≤ x ∧ x ≤ hi))) H
theorem r_is_within (T : Tx K mg) : FnR P w K mg base CX0 2 (He.ga K "is_within") sp_is_within := by
  refine fnr T.F_is_within c_is_within (fun vs H Q E h => ?_) (fun _ _ _ _ _ _ us hl => match us, hl with | [_, _, _], _ => rfl) (fun cdv A outer s H vs Q E hr h => ?_)
  · obtain ⟨x, lo, hi, rfl, _⟩ := h; rfl
  · obtain ⟨x, lo, hi, rfl, q⟩ := h
    refine ⟨_, pss_one (ps_ret (pe_and (pe_fn (r_is_integer T) hr (by rfl) T.g_is_integer (kpq T.F_is_integer) (pa_cons (pv 0) pa_nil))
      (pe_one (pe_chain op_le op_le (pv 1) (pv 0) (pv 2))))), ?_⟩
    refine ⟨_, rfl, _, true, rfl, .inl ⟨_, rfl, rfl⟩, _, rfl, iteT ?_⟩
    refine ⟨_, rfl, _, rfl, _, _, rfl, rfl, _, rfl, ?_⟩
    refine ite2 (fun e => ?_) (fun e => ?_)
    · refine ⟨_, rfl, _, _, rfl, rfl, ?_⟩
      have e1 : decide (lo ≤ x ∧ x ≤ hi) = decide (x ≤ hi) := by
        rw [Bool.eq_iff_iff, decide_eq_true_eq, decide_eq_true_eq]
        exact ⟨fun z => z.2, fun z => ⟨of_decide_eq_true e, z⟩⟩
      rw [e1] at q
      exact q
    · have e1 : decide (lo ≤ x ∧ x ≤ hi) = false := decide_eq_false fun z => e (decide_eq_true z.1)
      rw [e1] at q
      exact q
theorem yesT {σ : L2.St} {H : Hp} {f g : Hp → Prop} (h : f H) : tYes σ H fun b H3 => if b = true then f H3 else g H3 := by
  show (if true = true then f H else g H)
  exact iteT h
theorem u64 {k : Nat} {A : Around} (r : Room k A) : A.units + 64 < cLine := by have := r.un; omega
theorem u1 {k : Nat} {A : Around} (r : Room k A) : A.units + 1 < cLine := by have := r.un; omega
theorem pw_never {X : Cx} {e : Expr} : PW X e (fun _ _ _ => False) := ⟨fun _ _ _ _ _ _ _ h => h.elim⟩
/-- words, ints, tuples -/
def sp_is_word : Sp := fun vs H Q _ => ∃ x, vs = [x] ∧ ((∃ z, x = .str z ∧ WordOk z ∧ ∀ H', Same H H' → Q (.bl true) H') ∨ (∃ i, x = .int i ∧ Q (.bl false) H) ∨ ∃ t xs, x = .ref t ∧ H t = some (.tup xs) ∧ Q (.bl false) H)
theorem len8 {z : Str} (h : WordOk z) : decide ((z.length : Int) ≤ 8) = true := decide_eq_true (by have := h.1; omega)
theorem r_is_word (T : Tx K mg) : FnR P w K mg base CX0 1 (He.ga K "is_word") sp_is_word := by
  refine fnr T.F_is_word c_is_word (fun vs H Q E h => ?_) (fun _ _ _ _ _ _ us hl => match us, hl with | [_], _ => rfl) (fun cdv A outer s H vs Q E hr h => ?_)
  · obtain ⟨x, rfl, _⟩ := h; rfl
  · obtain ⟨x, rfl, h⟩ := h
    obtain ⟨tm, hm⟩ := T.t_MOST_LETTERS
    obtain ⟨tl, hl⟩ := T.t_LETTERS
    refine ⟨_, pss_one (ps_ret (pe_and (pe_callB call_isi (by rfl) T.z_isinstance boot_isinstance (pa_cons (pv 0) (pa_cons (pe_bltn (v := .ty "str") (by rfl) T.z_str boot_str rfl) pa_nil)))
      (pe_and (pe_cmpR op_le (pe_callB call_len_str (by rfl) T.z_len boot_len (pa_cons (pv 0) pa_nil)) (pe_glob (v := .int 8) (by rfl) hm ⟨_, rfl⟩) (nomark _))
      (pe_one (pe_callB (cr_all rfl) (by rfl) T.z_all boot_all (pa_cons (pe_lc (own := [("sign", 1)]) (g := gName 1) (tt := tYes) rfl c_is_word.nd (pi_str (pv 0)) (blkOk_by (N := n_is_word) (sc := defScope s_is_word) (by decide +kernel)) (fun _ _ _ _ _ => pg_name (i := 1) c_is_word.nd rfl (Or.inl rfl)) (fun _ _ _ _ _ => pts_nil)
        (fun _ _ _ _ _ => pe_cmpR op_in_str (pv 1) (pe_glob (v := .str LET) (by rfl) hl ⟨_, rfl⟩) (by with_unfolding_all rfl))) pa_nil)))))), ?_⟩
    rcases h with ⟨z, rfl, hz, q⟩ | ⟨i, rfl, q⟩ | ⟨t, xs, rfl, ht, q⟩
    · refine ⟨_, rfl, _, _, _, _, true, rfl, .ty _, tyStr _ _, k_ss, _, rfl, iteT ?_⟩
      refine ⟨_, rfl, _, rfl, Nat.le_trans hz.1 (by decide), _, _, rfl, rfl, _, rfl, ?_⟩
      rw [len8 hz]
      refine iteT ?_
      have hall := List.all_eq_true.mp hz.2
      refine ⟨_, rfl, _, rfl, fun D hD => lc_it walk_str (fun i H' => ∃ bs : List Bool, H' D = some (.lst (bs.map V.bl)) ∧ bs.all id = true ∧ bs.length = i ∧ Same H H') ⟨[], upd_same, rfl, rfl, same_new hD⟩ (fun _ _ _ _ => True.intro) ?_ ?_⟩
      · rintro i x H1 H2 hi ⟨bs, e, ba, bl, s0⟩ ⟨rfl, c, hc, rfl⟩
        have hsz : z.cps.size ≤ 8 := hz.1
        have hin : c ∈ z.cps.toList := by
          rw [← Array.getElem?_toList] at hc
          exact List.mem_of_getElem? hc
        refine ⟨rfl, yesT ⟨_, rfl, _, _, rfl, rfl, bs.map V.bl, e, ?_, bs ++ [true], ?_, ?_, ?_, ?_⟩⟩
        · rw [List.length_map, bl]
          exact Nat.lt_of_lt_of_le hi (Nat.le_trans hsz (by decide))
        · rw [upd_same, hall c hin]
          simp
        · simp [ba]
        · simp [bl]
        · exact same_put s0 hD
      · rintro H1 ⟨bs, e, ba, bl, s0⟩
        refine ⟨D, bs, rfl, .of e, ?_⟩
        rw [ba]
        exact q _ s0
    · exact ⟨_, rfl, _, _, _, _, false, rfl, .ty _, tyInt _ _, k_is, _, rfl, iteF q⟩
    · exact ⟨_, rfl, _, _, _, _, false, rfl, .ty _, tyTup ht, k_ts, _, rfl, iteF q⟩
def isLeaf : Item → Bool
  | .box _ => false
  | _ => true
def isBx : Item → Bool
  | .box _ => true
  | _ => false
theorem ItV.kindI {H : Hp} {x : V} {it : Item} (h : ItV H x it) : KindI H x (match it with | .int _ => true | _ => false) := by
  cases it with
  | int i => exact .inl ⟨i, h, rfl⟩
  | str z => exact .inr (.inl ⟨z, h.1, rfl⟩)
  | box k => obtain ⟨t, e, ht⟩ := h; exact .inr (.inr ⟨t, _, e, ht, rfl⟩)
def sp_is_leaf : Sp := fun vs H Q _ => ∃ x it n, vs = [x] ∧ ItV H x it ∧ GoodI n it ∧ ∀ H', Same H H' → Q (.bl (isLeaf it)) H'
theorem r_is_leaf (T : Tx K mg) : FnR P w K mg base CX0 2 (He.ga K "is_leaf") sp_is_leaf := by
  refine fnr T.F_is_leaf c_is_leaf (fun vs H Q E h => ?_) (fun _ _ _ _ _ _ us hl => match us, hl with | [_], _ => rfl) (fun cdv A outer s H vs Q E hr h => ?_)
  · obtain ⟨x, it, n, rfl, _⟩ := h; rfl
  · obtain ⟨x, it, n, rfl, hx, hg, q⟩ := h
    refine ⟨_, pss_one (ps_ret (pe_or (pe_fn (r_is_integer T) hr (by rfl) T.g_is_integer (kpq T.F_is_integer) (pa_cons (pv 0) pa_nil)) (pe_one (pe_fn (r_is_word T) hr (by rfl) T.g_is_word (kpq T.F_is_word) (pa_cons (pv 0) pa_nil))))), ?_⟩
    refine ⟨_, rfl, _, _, rfl, hx.kindI, _, rfl, ?_⟩
    cases it with
    | int i => exact iteT (q _ (Same.refl _))
    | str z => cases hx.1; exact iteF ⟨_, rfl, _, rfl, .inl ⟨_, rfl, hg, fun H' s => q _ s⟩⟩
    | box k => obtain ⟨t, e, ht⟩ := hx; subst e; exact iteF ⟨_, rfl, _, rfl, .inr (.inr ⟨_, _, rfl, ht, q _ (Same.refl _)⟩)⟩
/-- of a reference to a box that is there -/
def sp_is_reference : Sp := fun vs H Q _ => ∃ (t : Addr) (k : Nat) (n : Int), vs = [.ref t, .int n] ∧ H t = some (.tup [.str "box", .int (k : Int)]) ∧ (k : Int) < n ∧ Q (.bl true) H
theorem r_is_reference (T : Tx K mg) : FnR P w K mg base CX0 3 (He.ga K "is_reference") sp_is_reference := by
  refine fnr T.F_is_reference c_is_reference (fun vs H Q E h => ?_) (fun _ _ _ _ _ _ us hl => match us, hl with | [_, _], _ => rfl) (fun cdv A outer s H vs Q E hr h => ?_)
  · obtain ⟨t, k, n, rfl, _⟩ := h; rfl
  · obtain ⟨t, k, n, rfl, ht, hk, q⟩ := h
    obtain ⟨tb, hb⟩ := T.t_BOX
    refine ⟨_, pss_cons (ps_if (PW.pt (pw_or (pt_not (pt_val (pe_callB call_isi (by rfl) T.z_isinstance boot_isinstance (pa_cons (pv 0) (pa_cons (pe_bltn (v := .ty "tuple") (by rfl) T.z_tuple boot_tuple rfl) pa_nil)))))
      (pw_or (pt_cmpR op_ne (pe_callB call_len_seq (by rfl) T.z_len boot_len (pa_cons (pv 0) pa_nil)) pe_int (nomark _))
      (pw_or (pt_not (pt_val (pe_callB call_isi (by rfl) T.z_isinstance boot_isinstance (pa_cons (pe_ix ix_tup (pv 0) pe_int (fun _ _ => rfl)) (pa_cons (pe_bltn (v := .ty "str") (by rfl) T.z_str boot_str rfl) pa_nil)))))
      (pw_or1 (pt_cmpR op_ne (pe_ix ix_tup (pv 0) pe_int (fun _ _ => rfl)) (pe_glob (v := .str "box") (by rfl) hb ⟨_, rfl⟩) (nomark _))))))) pss_never pss_nil)
      (pss_one (ps_ret (pe_fn (r_is_within T) hr (by rfl) T.g_is_within (kpq T.F_is_within) (pa_cons (pe_ix ix_tup (pv 0) pe_int (fun _ _ => rfl)) (pa_cons pe_int (pa_cons (pe_op op_sub (pv 1) pe_int) pa_nil)))))), ?_⟩
    refine ⟨_, rfl, _, _, _, _, true, rfl, .ty _, tyTup ht, k_tt, _, rfl, iteF ?_⟩
    refine ⟨_, rfl, _, _, rfl, .inr (.of ht), rfl, _, rfl, iteF ?_⟩
    refine ⟨_, rfl, _, _, 0, _, rfl, rfl, .of ht, rfl, _, _, _, _, true, rfl, .ty _, tyStr _ _, k_ss, _, rfl, iteF ?_⟩
    refine ⟨_, rfl, _, _, 0, _, rfl, rfl, .of ht, rfl, rfl, _, rfl, iteF ?_⟩
    refine ⟨_, rfl, _, _, 1, _, rfl, rfl, .of ht, rfl, _, rfl, _, _, rfl, rfl, ?_⟩
    refine ⟨_, _, _, rfl, ?_⟩
    have e : decide ((0 : Int) ≤ (k : Int) ∧ (k : Int) ≤ n - 1) = true := decide_eq_true ⟨by omega, by omega⟩
    rw [e]
    exact q
def sp_is_item : Sp := fun vs H Q _ => ∃ (x : V) (it : Item) (n : Nat) (z : Int), vs = [x, .int z] ∧ z = (n : Int) ∧ ItV H x it ∧ GoodI n it ∧ ∀ H', Same H H' → Q (.bl true) H'
theorem r_is_item (T : Tx K mg) : FnR P w K mg base CX0 4 (He.ga K "is_item") sp_is_item := by
  refine fnr T.F_is_item c_is_item (fun vs H Q E h => ?_) (fun _ _ _ _ _ _ us hl => match us, hl with | [_, _], _ => rfl) (fun cdv A outer s H vs Q E hr h => ?_)
  · obtain ⟨x, it, n, z, rfl, _⟩ := h; rfl
  · obtain ⟨x, it, n, z, rfl, rfl, hx, hg, q⟩ := h
    refine ⟨_, pss_one (ps_ret (pe_or (pe_fn (r_is_leaf T) (hr.mono (by decide)) (by rfl) T.g_is_leaf (kpq T.F_is_leaf) (pa_cons (pv 0) pa_nil)) (pe_one (pe_fn (r_is_reference T) hr (by rfl) T.g_is_reference (kpq T.F_is_reference) (pa_cons (pv 0) (pa_cons (pv 1) pa_nil)))))), ?_⟩
    refine ⟨_, rfl, _, _, n, rfl, hx, hg, fun H' s => ⟨_, rfl, ?_⟩⟩
    cases it with
    | int i => exact iteT (q _ s)
    | str z => exact iteT (q _ s)
    | box k => obtain ⟨t, e, ht⟩ := hx; subst e; exact iteF ⟨_, rfl, _, rfl, _, k, _, rfl, s _ _ ht, by have := (show k < n from hg); omega, q _ s⟩
def sp_is_box : Sp := fun vs H Q _ => ∃ x it, vs = [x] ∧ ItV H x it ∧ Q (.bl (isBx it)) H
theorem r_is_box (T : Tx K mg) : FnR P w K mg base CX0 1 (He.ga K "is_box") sp_is_box := by
  refine fnr T.F_is_box c_is_box (fun vs H Q E h => ?_) (fun _ _ _ _ _ _ us hl => match us, hl with | [_], _ => rfl) (fun cdv A outer s H vs Q E hr h => ?_)
  · obtain ⟨x, it, rfl, _⟩ := h; rfl
  · obtain ⟨x, it, rfl, hx, q⟩ := h
    refine ⟨_, pss_one (ps_ret (pe_callB call_isi (by rfl) T.z_isinstance boot_isinstance (pa_cons (pv 0) (pa_cons (pe_bltn (v := .ty "tuple") (by rfl) T.z_tuple boot_tuple rfl) pa_nil)))), ?_⟩
    cases it with
    | int i => cases hx; exact ⟨_, rfl, _, _, _, _, false, rfl, .ty _, tyInt _ _, k_it, q⟩
    | str z => cases hx.1; exact ⟨_, rfl, _, _, _, _, false, rfl, .ty _, tyStr _ _, k_st, q⟩
    | box k => obtain ⟨t, e, ht⟩ := hx; subst e; exact ⟨_, rfl, _, _, _, _, true, rfl, .ty _, tyTup ht, k_tt, q⟩
/-- what a pair or None is as a value -/
def PrO (H : Hp) (v : V) : Option Pr → Prop
  | none => v = .non
  | some c => ∃ t, v = .ref t ∧ PrV H t c
def sp_pair_of : Sp := fun vs H Q _ => ∃ x y a b, vs = [x, y] ∧ ItV H x a ∧ ItV H y b ∧ ∀ v H', Same H H' → PrO H' v (pairOf a b) → Q v H'
theorem r_pair_of (T : Tx K mg) : FnR P w K mg base CX0 2 (He.ga K "pair_of") sp_pair_of := by
  refine fnr T.F_pair_of c_pair_of (fun vs H Q E h => ?_) (fun _ _ _ _ _ _ us hl => match us, hl with | [_, _], _ => rfl) (fun cdv A outer s H vs Q E hr h => ?_)
  · obtain ⟨x, y, a, b, rfl, _⟩ := h; rfl
  · obtain ⟨x, y, a, b, rfl, hx, hy, q⟩ := h
    refine ⟨_, pss_cons (ps_if (PW.pt (pw_or (pt_cmpR (op_eqD (u64 hr)) (pv 0) (pv 1) (nomark _)) (pw_or (pt_not (pt_val (pe_fn (r_is_box T) hr (by rfl) T.g_is_box (kpq T.F_is_box) (pa_cons (pv 0) pa_nil))))
      (pw_or1 (pt_not (pt_val (pe_fn (r_is_box T) hr (by rfl) T.g_is_box (kpq T.F_is_box) (pa_cons (pv 1) pa_nil)))))))) (pss_one (ps_ret pe_non)) pss_nil)
      (pss_one (ps_ret (pe_tup (pa_cons (pe_ix ix_tup (pv 0) pe_int (fun _ _ => rfl)) (pa_cons (pe_ix ix_tup (pv 1) pe_int (fun _ _ => rfl)) pa_nil))))), ?_⟩
    refine ⟨_, rfl, _, rfl, _, _, hx.dp, hy.dp, toD_shaped hx, toD_shaped hy, _, rfl, ?_⟩
    rw [toD_eqv]
    refine ite2 (fun e => ?_) (fun e => ?_)
    · refine iteT (q _ _ (Same.refl _) ?_)
      rw [of_decide_eq_true e, pairOf_self]
      rfl
    · have hab : a ≠ b := fun z => e (decide_eq_true z)
      refine ⟨_, rfl, _, _, rfl, hx, _, rfl, ?_⟩
      cases a with
      | int i => refine iteT (iteT (q _ _ (Same.refl _) ?_)); unfold pairOf; rw [if_neg hab]; rfl
      | str z => refine iteT (iteT (q _ _ (Same.refl _) ?_)); unfold pairOf; rw [if_neg hab]; rfl
      | box i =>
        refine iteF ⟨_, rfl, _, _, rfl, hy, _, rfl, ?_⟩
        cases b with
        | int j => refine iteT (q _ _ (Same.refl _) ?_); unfold pairOf; rw [if_neg hab]; rfl
        | str z => refine iteT (q _ _ (Same.refl _) ?_); unfold pairOf; rw [if_neg hab]; rfl
        | box j =>
          obtain ⟨t, ex, ht⟩ := hx
          obtain ⟨u, ey, hu⟩ := hy
          subst ex ey
          refine iteF ⟨_, rfl, _, _, 1, _, rfl, rfl, .of ht, rfl, _, rfl, _, _, 1, _, rfl, rfl, .of hu, rfl, by show 2 ≤ sizeLine; decide, fun p hp => q _ _ (same_new hp) ?_⟩
          rw [pairOf_box (fun z => hab (by rw [z]))]
          exact ⟨p, rfl, upd_same⟩
/-- a limit: None, or in range -/
def sp_check_limit : Sp := fun vs H Q _ => vs = [.non] ∧ Q .non H
theorem r_check_limit (T : Tx K mg) : FnR P w K mg base CX0 1 (He.ga K "check_limit") sp_check_limit := by
  refine fnr T.F_check_limit c_check_limit (fun vs H Q E h => ?_) (fun _ _ _ _ _ _ us hl => match us, hl with | [_], _ => rfl) (fun cdv A outer s H vs Q E hr h => ?_)
  · obtain ⟨rfl, _⟩ := h; rfl
  · obtain ⟨rfl, q⟩ := h
    refine ⟨_, pss_one (ps_if (PW.pt (pw_and (pt_cmpR op_notN (pv 0) pe_non (nomark _)) pw_never)) pss_never pss_nil), ?_⟩
    exact ⟨_, rfl, rfl, _, rfl, iteF q⟩
end
end Rg
end
section
set_option Elab.async false
set_option linter.all false
set_option maxRecDepth 100000
set_option maxHeartbeats 2000000
/-! Verdicts: made, decided. -/
namespace Rg
open PySem PySem.Spec PyProof.Rows L2
section
variable {P : Program} {w : World} {K : PySem.W.Frag} {mg : Str → Option Value} {base : Heap}
abbrev CV (K : PySem.W.Frag) : Addr := He.ga K "Verdicts"
def vf (l d : Addr) (n : Int) : List (Str × V) := [("lists", V.ref l), ("known", V.ref d), ("deepest", V.int n)]
theorem vf_lists (l d : Addr) (n : Int) : (vf l d n).lookup ("lists" : Str) = some (V.ref l) := rfl
theorem vf_known (l d : Addr) (n : Int) : (vf l d n).lookup ("known" : Str) = some (V.ref d) := rfl
theorem vf_deepest (l d : Addr) (n : Int) : (vf l d n).lookup ("deepest" : Str) = some (V.int n) := rfl
theorem vf_put (l d : Addr) (n m : Int) : putF "deepest" (.int m) (vf l d n) = vf l d m := rfl
theorem vf_mk (l d : Addr) (n : Int) : putF "deepest" (.int n) (putF "known" (.ref d) (putF "lists" (.ref l) [])) = vf l d n := rfl
theorem wst_en (wd : Wd) : decide (V.str (wst wd) = V.str "endless") = decide (wd = .en) := by cases wd <;> decide +kernel
theorem wst_un (wd : Wd) : decide (V.str (wst wd) = V.str "unlike") = decide (wd = .un) := by cases wd <;> decide +kernel
theorem wst_eq (wd : Wd) : decide (V.str (wst wd) = V.str "equal") = decide (wd = .eq) := by cases wd <;> decide +kernel
def sp_V_init (C : Addr) : Sp := fun vs H Q _ => ∃ (x l dx : Addr) (rows : Rows), vs = [.ref x, .ref l] ∧ H x = some (.ins C dx []) ∧ TabAt (cut [x] H) l rows ∧ ∀ H' d, Off [x] H H' → H d = none → VerAt C H' x l d 0 rows [] → Q .non H'
theorem r_V_init (T : Tx K mg) : FnR P w K mg base CX0 1 (He.ma K (CV K) "__init__") (sp_V_init (CV K)) := by
  refine fnr T.FV_init cV_init (fun vs H Q E h => ?_) (fun _ _ _ _ _ _ us hl => match us, hl with | [_, _], _ => rfl) (fun cdv A outer s H vs Q E hr h => ?_)
  · obtain ⟨x, l, dx, rows, rfl, _⟩ := h; rfl
  · obtain ⟨x, l, dx, rows, rfl, hx, ht, q⟩ := h
    refine ⟨_, pss_cons (ps_fld (pv 0) (pv 1) rfl) (pss_cons (ps_fld (pv 0) pe_dnewT rfl) (pss_one (ps_fld (pv 0) pe_int rfl))), ?_⟩
    refine ⟨_, rfl, _, rfl, x, _, dx, _, rfl, hx, T.c_Verdicts, T.n_Verdicts_lists, by show 0 < 1000; decide, fun d hd => ?_⟩
    have xd : x ≠ d := fun z => by rw [← z, upd_same] at hd; cases hd
    have hd0 : H d = none := by rw [upd_ne xd.symm] at hd; exact hd
    refine ⟨_, rfl, x, _, dx, _, rfl, by rw [upd_ne xd]; exact upd_same, T.c_Verdicts, T.n_Verdicts_known, by show 1 < 1000; decide, ?_⟩
    refine ⟨_, rfl, x, _, dx, _, rfl, upd_same, T.c_Verdicts, T.n_Verdicts_deepest, by show 2 < 1000; decide, ?_⟩
    have o1 : Off [x] H (upd H x (.ins (CV K) dx (putF "lists" (.ref l) []))) := Off.put (List.mem_singleton.mpr rfl)
    have o2 := o1.trans (Off.new (o := .dT []) hd)
    have o3 := (o2.trans (Off.put (o := .ins (CV K) dx (putF "known" (.ref d) (putF "lists" (.ref l) []))) (List.mem_singleton.mpr rfl))).trans (Off.put (o := .ins (CV K) dx (putF "deepest" (.int 0) (putF "known" (.ref d) (putF "lists" (.ref l) [])))) (List.mem_singleton.mpr rfl))
    refine q _ d o3 hd0 ⟨⟨⟨dx, upd_same⟩, ⟨[], ?_, .nil⟩, List.nodup_nil, fun _ h => absurd h List.not_mem_nil, fun _ h => absurd h List.not_mem_nil⟩, ht.same ?_⟩
    · rw [upd_ne xd.symm, upd_ne xd.symm, upd_same]
    · intro b o e
      unfold cut at e
      split at e
      · cases e
      · rename_i hb
        exact o3 b o hb e
/-- a frame of a comparison: the pair's tuple, the place, the steps, the depth -/
def FrmAt (H : Hp) (f t : Addr) (i s d : Nat) : Prop := H f = some (.lst [.ref t, .int (i : Int), .int (s : Int), .int (d : Int)])
def sp_decide (C : Addr) : Sp := fun vs H Q _ => ∃ (v l d f t : Addr) (n i s dd : Nat) (rows : Rows) (ks : List Pr) (p : Pr) (wd : Wd) (pl : Int), vs = [.ref v, .ref f, .str (wst wd), .int pl] ∧ VerM C H v l d n rows ks ∧ FrmAt H f t i s dd ∧ PrV H t p ∧
  p ∉ ks ∧ InR rows p ∧ Small rows ∧ vd rows p = (if wd = .en then ⟨.en, 0, 0, pl⟩ else ⟨wd, s, dd, pl⟩) ∧ ∀ H' n', Off [v, d] H H' → VerM C H' v l d n' rows (ks ++ [p]) → Q .non H'
theorem ks_few {C : Addr} {H : Hp} {v l d : Addr} {n : Nat} {rows : Rows} {ks : List Pr} (h : VerM C H v l d n rows ks) (sm : Small rows) : ks.length ≤ 100 :=
  Nat.le_trans h.count (Nat.mul_le_mul sm.ten sm.ten)
theorem VerM.grow {C : Addr} {H H' : Hp} {v l d q : Addr} {n n' : Nat} {rows : Rows} {ks : List Pr} {p : Pr} {kvs : List (List L2.Key × V)} (h : VerM C H v l d n rows ks) (hk : H d = some (.dT kvs)) (r : Paired (KvOk H rows) kvs ks) (np : p ∉ ks) (ip : InR rows p)
    (o : Off [v, d] H H') (hv : ∃ dx, H' v = some (.ins C dx (vf l d n'))) (hd : H' d = some (.dT (kvs ++ [(kp p, .ref q)]))) (hq : H' q = some (.tup (vtup (vd rows p)))) (hn : n ≤ n') (hn2 : ∀ r, T rows p = some r → r.depth ≤ n') : VerM C H' v l d n' rows (ks ++ [p]) := by
  obtain ⟨⟨dx0, e0⟩, _, a, b, c⟩ := h
  refine ⟨hv, ⟨_, hd, Paired.app (Paired.mapP r fun _ _ => KvOk.off o fun b hb xs => ?_) (.cons ⟨rfl, q, rfl, hq⟩ .nil)⟩, ?_, ?_, ?_⟩
  · rcases List.mem_cons.mp hb with z | z
    · rw [z, e0]; exact fun z => nomatch z
    · rw [List.mem_singleton.mp z, hk]; exact fun z => nomatch z
  · rw [List.nodup_append]
    exact ⟨a, List.nodup_cons.mpr ⟨List.not_mem_nil, List.nodup_nil⟩, fun x hx y hy e => np (by rw [List.mem_singleton.mp hy] at e; rw [← e]; exact hx)⟩
  · intro x hx
    rcases List.mem_append.mp hx with z | z
    · exact b x z
    · rw [List.mem_singleton.mp z]; exact ip
  · intro x hx r hr
    rcases List.mem_append.mp hx with z | z
    · exact Nat.le_trans (c x z r hr) hn
    · rw [List.mem_singleton.mp z] at hr; exact hn2 r hr
theorem r_decide (T : Tx K mg) : FnR P w K mg base CX0 1 (He.ma K (CV K) "decide") (sp_decide (CV K)) := by
  refine fnr T.FV_decide cV_decide (fun vs H Q E h => ?_) (fun _ _ _ _ _ _ us hl => match us, hl with | [_, _, _, _], _ => rfl) (fun cdv A outer s H vs Q E hr h => ?_)
  · obtain ⟨v, l, d, f, t, n, i, s, dd, rows, ks, p, wd, pl, rfl, _⟩ := h; rfl
  · obtain ⟨v, l, d, f, t, n, i, s, dd, rows, ks, p, wd, pl, rfl, hV, hF, hp, np, ip, sm, hvd, q⟩ := h
    obtain ⟨te, he⟩ := T.t_ENDLESS
    obtain ⟨dx, hv⟩ := hV.at_
    obtain ⟨kvs, hd, r⟩ := hV.dict
    have hv : H v = some (.ins (CV K) dx (vf l d n)) := hv
    have hkl : kvs.length < sizeLine := by
      rw [Paired.length r]
      exact Nat.lt_of_le_of_lt (ks_few hV sm) (by decide)
    have vd_ : v ≠ d := hV.ne
    refine ⟨_, pss_one (ps_if (pt_cmpR op_eq (pv 2) (pe_glob (v := .str "endless") (by rfl) he ⟨_, rfl⟩) (nomark _))
      (pss_one (ps_dput (u1 hr) (pe_fld (pv 0) rfl) (pe_ix ix_list (pv 1) pe_int (fun _ _ => rfl)) (pe_tup (pa_cons (pv 2) (pa_cons pe_non (pa_cons pe_non (pa_cons (pv 3) pa_nil))))) rfl))
      (pss_cons (ps_dput (u1 hr) (pe_fld (pv 0) rfl) (pe_ix ix_list (pv 1) pe_int (fun _ _ => rfl)) (pe_tup (pa_cons (pv 2) (pa_cons (pe_ix ix_list (pv 1) pe_int (fun _ _ => rfl)) (pa_cons (pe_ix ix_list (pv 1) pe_int (fun _ _ => rfl)) (pa_cons (pv 3) pa_nil))))) rfl)
      (pss_one (ps_fld (pv 0) (pe_callB (call_max2 rfl) (by rfl) T.z_max boot_max (pa_cons (pe_fld (pv 0) rfl) (pa_cons (pe_ix ix_list (pv 1) pe_int (fun _ _ => rfl)) pa_nil))) rfl)))), ?_⟩
    refine ⟨_, rfl, rfl, _, rfl, ?_⟩
    rw [wst_en]
    have fv : f ≠ v := ne_of hF hv (fun z => nomatch z)
    have fd : f ≠ d := ne_of hF hd (fun z => nomatch z)
    have td : t ≠ d := ne_of hp hd (fun z => nomatch z)
    have put : ∀ (a : Addr) (xs : List V), H a = none → xs = vtup (vd rows p) → ∃ H4, DPut (upd H a (.tup xs)) d (.ref t) (.ref a) H4 ∧ H4 = upd (upd H a (.tup xs)) d (.dT (kvs ++ [(kp p, .ref a)])) ∧ Off [v, d] H H4 ∧ H4 v = some (.ins (CV K) dx (vf l d n)) ∧ H4 d = some (.dT (kvs ++ [(kp p, .ref a)])) ∧ H4 a = some (.tup (vtup (vd rows p))) ∧ H4 f = H f := by
      intro a xs ha ex
      have da : d ≠ a := ne_of_none hd ha
      have va : v ≠ a := ne_of_none hv ha
      have hd1 : upd H a (.tup xs) d = some (.dT kvs) := by rw [upd_ne da]; exact hd
      have ht1 : upd H a (.tup xs) t = some (.tup ((kp p).map kV)) := by rw [upd_ne (ne_of_none hp ha)]; exact hp.key
      refine ⟨_, DPut.t hd1 ht1 hkl, by rw [putK_new _ (known_out r np)], (Off.new ha).trans (Off.put (by simp)), ?_, ?_, ?_, ?_⟩
      · rw [upd_ne vd_, upd_ne va]; exact hv
      · rw [putK_new _ (known_out r np)]; exact upd_same
      · rw [upd_ne da.symm, upd_same, ex]
      · rw [upd_ne fd, upd_ne (ne_of_none hF ha)]
    refine ite2 (fun e => ?_) (fun e => ?_)
    · have hw : wd = .en := of_decide_eq_true e
      subst hw
      rw [if_pos rfl] at hvd
      refine ⟨_, rfl, _, rfl, by show 4 ≤ sizeLine; decide, fun a ha => ?_⟩
      obtain ⟨H4, g, eH, o, h1, h2, h3, h4⟩ := put a _ ha (by rw [hvd, vtup_en rfl])
      refine ⟨_, rfl, v, _, dx, _, _, rfl, by rw [upd_ne (ne_of_none hv ha)]; exact hv, T.c_Verdicts, T.n_Verdicts_known, vf_known _ _ _, _, rfl, f, _, 0, _, rfl, rfl, .of (by rw [upd_ne (ne_of_none hF ha)]; exact hF), rfl, d, H4, rfl, g, ?_⟩
      refine q H4 n o (hV.grow hd r np ip o ⟨dx, h1⟩ h2 h3 (Nat.le_refl _) fun r hr => ?_)
      exact absurd hr (by rw [T_none_iff.mpr (by rw [hvd])]; exact fun z => nomatch z)
    · have hw : wd ≠ .en := fun z => e (decide_eq_true z)
      rw [if_neg hw] at hvd
      refine ⟨_, rfl, _, rfl, f, _, 2, _, rfl, rfl, .of hF, rfl, _, rfl, f, _, 3, _, rfl, rfl, .of hF, rfl, _, rfl, by show 4 ≤ sizeLine; decide, fun a ha => ?_⟩
      obtain ⟨H4, g, eH, o, h1, h2, h3, h4⟩ := put a _ ha (by rw [hvd, vtup_ne hw])
      refine ⟨_, rfl, v, _, dx, _, _, rfl, by rw [upd_ne (ne_of_none hv ha)]; exact hv, T.c_Verdicts, T.n_Verdicts_known, vf_known _ _ _, _, rfl, f, _, 0, _, rfl, rfl, .of (by rw [upd_ne (ne_of_none hF ha)]; exact hF), rfl, d, H4, rfl, g, ?_⟩
      refine ⟨_, rfl, v, _, dx, _, _, rfl, h1, T.c_Verdicts, T.n_Verdicts_deepest, vf_deepest _ _ _, _, rfl, f, _, 3, _, rfl, rfl, .of (h4.trans hF), rfl, _, _, rfl, ?_⟩
      refine ⟨_, rfl, v, _, dx, _, rfl, h1, T.c_Verdicts, T.n_Verdicts_deepest, by show 3 < 1000; decide, ?_⟩
      have o5 : Off [v, d] H (upd H4 v (.ins (CV K) dx (putF "deepest" (.int (if (dd : Int) > (n : Int) then (dd : Int) else (n : Int))) (vf l d n)))) := o.trans (Off.put (by simp))
      have em : (if (dd : Int) > (n : Int) then (dd : Int) else (n : Int)) = ((max n dd : Nat) : Int) := by
        by_cases h : (dd : Int) > (n : Int)
        · rw [if_pos h]; omega
        · rw [if_neg h]; omega
      refine q _ (max n dd) o5 (hV.grow (q := a) hd r np ip o5 ⟨dx, ?_⟩ ?_ ?_ (Nat.le_max_left _ _) fun r hr => ?_)
      · rw [upd_same, vf_put, em]
      · rw [upd_ne vd_.symm]; exact h2
      · rw [upd_ne (ne_of_none hv ha).symm]; exact h3
      · obtain ⟨e1, _⟩ := T_vd hr
        rw [← e1, hvd]
        exact Nat.le_max_right _ _
end
end Rg
end
section
set_option Elab.async false
set_option linter.all false
/-! A comparison step by step. -/
namespace Rg
section
variable {ev : Pr → Option Fv} {a b : Item} {as bs : List Item} {i s d : Nat} {c : Pr} {r : Fv}
theorem scan_ne (hp : pairOf a b = none) (h : a ≠ b) : scan ev (a :: as) (b :: bs) i s d = ⟨.un, s, d, i⟩ := by
  conv => lhs; unfold scan
  rw [hp]
  exact if_neg h
theorem scan_same (hp : pairOf a b = none) (h : a = b) : scan ev (a :: as) (b :: bs) i s d = scan ev as bs (i + 1) s d := by
  conv => lhs; unfold scan
  rw [hp]
  exact if_pos h
theorem scan_en (hp : pairOf a b = some c) (h : ev c = none) : scan ev (a :: as) (b :: bs) i s d = ⟨.en, 0, 0, i⟩ := by
  conv => lhs; unfold scan
  rw [hp]
  dsimp only
  rw [h]
theorem scan_un (hp : pairOf a b = some c) (h : ev c = some r) (hu : r.wd = .un) : scan ev (a :: as) (b :: bs) i s d = ⟨.un, s + r.steps, max d (r.depth + 1), i⟩ := by
  conv => lhs; unfold scan
  rw [hp]
  dsimp only
  rw [h]
  exact if_pos hu
theorem scan_go (hp : pairOf a b = some c) (h : ev c = some r) (hu : r.wd ≠ .un) : scan ev (a :: as) (b :: bs) i s d = scan ev as bs (i + 1) (s + r.steps) (max d (r.depth + 1)) := by
  conv => lhs; unfold scan
  rw [hp]
  dsimp only
  rw [h]
  exact if_neg hu
end
section
variable {rows : Rows} {p c : Pr}
def SameLen (rows : Rows) (p : Pr) : Prop := (rowOf rows p.1).length = (rowOf rows p.2).length
/-- so far the comparison of p has come: place i, s steps, depth d -/
def Sc (rows : Rows) (p : Pr) (i s d : Nat) : Prop := vd rows p = scan (T rows) ((rowOf rows p.1).drop i) ((rowOf rows p.2).drop i) i s d
theorem sc_start (h : SameLen rows p) : Sc rows p 0 1 1 := by
  unfold Sc vd stepV
  rw [if_pos (show (rowOf rows p.1).length = (rowOf rows p.2).length from h)]
  rfl
theorem vd_lengths (h : ¬ SameLen rows p) : vd rows p = ⟨.un, 1, 1, -1⟩ := by
  unfold vd stepV
  rw [if_neg (show ¬ (rowOf rows p.1).length = (rowOf rows p.2).length from h)]
/-- an ancestor, where the comparison of p is under way -/
def AncR (rows : Rows) (c p : Pr) : Prop := ∀ rc, T rows c = some rc → ∃ rp, T rows p = some rp ∧ rp.depth ≤ rc.depth
theorem AncR.refl : AncR rows p p := fun rc h => ⟨rc, h, Nat.le_refl _⟩
section
variable {i s d : Nat} {a b : Item} (h : Sc rows p i s d) (ha : (rowOf rows p.1)[i]? = some a) (hb : (rowOf rows p.2)[i]? = some b)
include h ha hb
theorem Sc.cons : vd rows p = scan (T rows) (a :: (rowOf rows p.1).drop (i + 1)) (b :: (rowOf rows p.2).drop (i + 1)) i s d := by
  obtain ⟨l1, e1⟩ := List.getElem?_eq_some_iff.mp ha
  obtain ⟨l2, e2⟩ := List.getElem?_eq_some_iff.mp hb
  unfold Sc at h
  rw [List.drop_eq_getElem_cons l1, List.drop_eq_getElem_cons l2, e1, e2] at h
  exact h
theorem Sc.ne (hp : pairOf a b = none) (hn : a ≠ b) : vd rows p = ⟨.un, s, d, i⟩ := by
  rw [h.cons ha hb, scan_ne hp hn]
theorem Sc.same (hp : pairOf a b = none) (hn : a = b) : Sc rows p (i + 1) s d := by
  have e := h.cons ha hb
  rw [scan_same hp hn] at e
  exact e
theorem Sc.en (hp : pairOf a b = some c) (hn : (vd rows c).wd = .en) : vd rows p = ⟨.en, 0, 0, i⟩ := by
  rw [h.cons ha hb, scan_en hp (T_none_iff.mpr hn)]
theorem Sc.un (hp : pairOf a b = some c) (hn : (vd rows c).wd = .un) : vd rows p = ⟨.un, s + (vd rows c).steps, max d ((vd rows c).depth + 1), i⟩ := by
  rw [h.cons ha hb, scan_un hp (T_some (by rw [hn]; exact fun z => nomatch z)) hn]
theorem Sc.go (hp : pairOf a b = some c) (h1 : (vd rows c).wd ≠ .en) (hn : (vd rows c).wd ≠ .un) : Sc rows p (i + 1) (s + (vd rows c).steps) (max d ((vd rows c).depth + 1)) := by
  have e := h.cons ha hb
  rw [scan_go hp (T_some h1) hn] at e
  exact e
/-- a child of a pair that ends ends -/
theorem Sc.down (hp : pairOf a b = some c) {rp : Fv} (hr : T rows p = some rp) : ∃ r, T rows c = some r ∧ r.depth + 1 ≤ rp.depth := by
  obtain ⟨e, hw⟩ := T_vd hr
  have e1 := h.cons ha hb
  rw [e] at e1
  rw [e1] at hw ⊢
  exact scan_child hp hw
/-- a child that is under way never ends -/
theorem Sc.loop (hp : pairOf a b = some c) (hc : AncR rows c p) : (vd rows c).wd = .en := by
  refine Classical.byContradiction fun z => ?_
  obtain ⟨rp, h1, h2⟩ := hc _ (T_some z)
  obtain ⟨r, h3, h4⟩ := h.down ha hb hp h1
  obtain ⟨e, _⟩ := T_vd h3
  rw [e] at h2
  omega
theorem Sc.anc (hp : pairOf a b = some c) {q : Pr} (hc : AncR rows q p) : AncR rows q c := fun rq hq => by
  obtain ⟨rp, h1, h2⟩ := hc rq hq
  obtain ⟨r, h3, h4⟩ := h.down ha hb hp h1
  exact ⟨r, h3, by omega⟩
end
theorem sc_end {i s d : Nat} (h : Sc rows p i s d) (hi : (rowOf rows p.1).length ≤ i) : vd rows p = ⟨.eq, s, d, i⟩ := by
  unfold Sc at h
  rw [List.drop_eq_nil_of_le hi] at h
  rw [h]
  unfold scan
  rfl
/-- what stands ahead of place i is known -/
def Vis (rows : Rows) (ks : List Pr) (p : Pr) (i : Nat) : Prop := ∀ j, j < i → ∀ c, at2 (rowOf rows p.1) (rowOf rows p.2) j = some c → c ∈ ks
theorem at2_at {x y : List Item} {j : Nat} {a b : Item} (ha : x[j]? = some a) (hb : y[j]? = some b) : at2 x y j = pairOf a b := by
  unfold at2
  rw [ha, hb]
theorem at2_out {x y : List Item} {j : Nat} (h : x.length ≤ j) : at2 x y j = none := by
  unfold at2
  rw [List.getElem?_eq_none h]
theorem Vis.next {ks : List Pr} {i : Nat} {a b : Item} (h : Vis rows ks p i) (ha : (rowOf rows p.1)[i]? = some a) (hb : (rowOf rows p.2)[i]? = some b) (hh : ∀ c, pairOf a b = some c → c ∈ ks) : Vis rows ks p (i + 1) := fun j hj c e => by
  by_cases hji : j = i
  · subst hji
    rw [at2_at ha hb] at e
    exact hh c e
  · exact h j (by omega) c e
theorem Vis.mono {ks ks' : List Pr} {i : Nat} (h : Vis rows ks p i) (hk : ∀ q ∈ ks, q ∈ ks') : Vis rows ks' p i := fun j hj c e => hk c (h j hj c e)
theorem kids_at {ks ps : List Pr} {i : Nat} {a b : Item} (hp : (vd rows p).place = (i : Int)) (h : Vis rows ks p i) (ha : (rowOf rows p.1)[i]? = some a) (hb : (rowOf rows p.2)[i]? = some b) (hh : ∀ c, pairOf a b = some c → c ∈ ks ∨ c ∈ ps) :
    ∀ c ∈ kids rows p, c ∈ ks ∨ c ∈ ps := fun c hc => by
  rw [kids_eq, hp] at hc
  obtain ⟨j, hj, e⟩ := mem_kidsS.mp hc
  by_cases hji : j = i
  · subst hji
    rw [at2_at ha hb] at e
    exact hh c e
  · exact .inl (h j (by omega) c e)
theorem kids_end {ks ps : List Pr} {i : Nat} (hp : (vd rows p).place = (i : Int)) (h : Vis rows ks p i) (hi : (rowOf rows p.1).length ≤ i) : ∀ c ∈ kids rows p, c ∈ ks ∨ c ∈ ps := fun c hc => by
  rw [kids_eq, hp] at hc
  obtain ⟨j, hj, e⟩ := mem_kidsS.mp hc
  by_cases hji : j = i
  · subst hji
    rw [at2_out hi] at e
    cases e
  · exact .inl (h j (by omega) c e)
end
end Rg
end
section
set_option Elab.async false
set_option linter.all false
set_option maxRecDepth 100000
set_option maxHeartbeats 4000000
/-! Verdicts: one comparison goes on. -/
namespace Rg
open PySem PySem.Spec PyProof.Rows L2
section
variable {P : Program} {w : World} {K : PySem.W.Frag} {mg : Str → Option Value} {base : Heap}
theorem vint (m n : Nat) : decide (V.int (m : Int) = V.int (n : Int)) = decide (m = n) := by
  rw [Bool.eq_iff_iff, decide_eq_true_eq, decide_eq_true_eq]
  exact ⟨fun h => Int.ofNat.inj (V.int.inj h), fun h => by rw [h]⟩
/-- the pairs under way, as the dict's entries -/
def acK (ps : List Pr) : List (List L2.Key × V) := ps.map fun p => (kp p, V.bl true)
theorem acK_in : ∀ {ps : List Pr} {p : Pr}, p ∈ ps → valV (acK ps) (kp p) = some (.bl true)
  | [], p, h => absurd h List.not_mem_nil
  | q :: ps, p, h => by
    unfold acK
    rw [List.map_cons]
    by_cases e : q = p
    · rw [valV_pos (p := (kp q, V.bl true)) (by rw [e])]
    · rw [valV_neg (p := (kp q, V.bl true)) (fun z => e (kp_inj z))]
      exact acK_in (by rcases List.mem_cons.mp h with z | z; exact absurd z.symm e; exact z)
theorem acK_out : ∀ {ps : List Pr} {p : Pr}, p ∉ ps → valV (acK ps) (kp p) = none
  | [], p, h => rfl
  | q :: ps, p, h => by
    unfold acK
    rw [List.map_cons, valV_neg (p := (kp q, V.bl true)) (fun z => h (by rw [kp_inj z]; exact List.mem_cons_self))]
    exact acK_out fun z => h (List.mem_cons_of_mem _ z)
/-- how far a frame has come -/
def FrOk (rows : Rows) (p : Pr) (i s d : Nat) : Prop := (SameLen rows p → Sc rows p i s d ∧ i ≤ (rowOf rows p.1).length) ∧ (¬ SameLen rows p → s = 1 ∧ d = 1)
def sp_go_on (C : Addr) : Sp := fun vs H Q _ => ∃ (B : Hp) (v l d f t ac : Addr) (n i s dd : Nat) (rows : Rows) (ks ps : List Pr) (p : Pr), vs = [.ref v, .ref f, .ref ac] ∧ Same B H ∧ TabAt B l rows ∧ B v = none ∧ B d = none ∧ B f = none ∧
  VerM C H v l d n rows ks ∧ FrmAt H f t i s dd ∧ PrV H t p ∧ H ac = some (.dT (acK ps)) ∧ ac ≠ d ∧ p ∉ ks ∧ InR rows p ∧ Small rows ∧ FrOk rows p i s dd ∧ Vis rows ks p i ∧ (∀ c ∈ ps, AncR rows c p) ∧
  (∀ H' n', (∀ c ∈ kids rows p, c ∈ ks ∨ c ∈ ps) → Off [f, v, d] H H' → VerM C H' v l d n' rows (ks ++ [p]) → (∃ i s d, FrmAt H' f t i s d) → Q .non H') ∧
  (∀ H' u c i' s' d' a b, Off [f] H H' → FrmAt H' f t i' s' d' → FrOk rows p i' s' d' → Vis rows ks p i' → Sc rows p i' s' d' → (rowOf rows p.1)[i']? = some a → (rowOf rows p.2)[i']? = some b → pairOf a b = some c → c ∉ ks → c ∉ ps → PrV H' u c → Q (.ref u) H')
theorem r_go_on (T : Tx K mg) : FnR P w K mg base CX0 4 (He.ma K (CV K) "go_on") (sp_go_on (CV K)) := by
  refine fnr T.FV_go_on cV_go_on (fun vs H Q E h => ?_) (fun _ _ _ _ _ _ us hl => match us, hl with | [_, _, _], _ => rfl) (fun cdv A outer s H vs Q E hr h => ?_)
  · obtain ⟨B, v, l, d, f, t, ac, n, i, s, dd, rows, ks, ps, p, rfl, _⟩ := h; rfl
  · obtain ⟨B, v, l, d, f, t, ac, n, i, s0, d0, rows, ks, ps, p, rfl, sB, hT, bv, bd, bf, hV, hF, hp, ha, acd, np, ip, sm, fr, vis, anc, q1, q2⟩ := h
    obtain ⟨te, he⟩ := T.t_ENDLESS
    obtain ⟨tu, hun⟩ := T.t_UNLIKE
    obtain ⟨tq, heq⟩ := T.t_EQUAL
    obtain ⟨tl, hle⟩ := T.t_LENGTHS
    refine ⟨_, pss_cons (ps_asg (pe_ix ix_list (pv 1) pe_int (fun _ _ => rfl)) (pg_tup (n := 2) rfl (pgs_cons (pg_name (i := 3) cV_go_on.nd rfl (.inl rfl)) (pgs_cons (pg_name (i := 4) cV_go_on.nd rfl (.inl rfl)) pgs_nil))))
      (pss_cons (ps_par (i := 5) (j := 6) rfl cV_go_on.nd rfl rfl (by decide) rfl rfl (pa_cons (pe_ix ix_list (pe_fld (pv 0) rfl) (pv 3) (fun _ _ => rfl)) (pa_cons (pe_ix ix_list (pe_fld (pv 0) rfl) (pv 4) (fun _ _ => rfl)) pa_nil)) (by rfl))
      (pss_cons (ps_if (pt_cmpR op_ne (pe_callB call_len_seq (by rfl) T.z_len boot_len (pa_cons (pv 5) pa_nil)) (pe_callB call_len_seq (by rfl) T.z_len boot_len (pa_cons (pv 6) pa_nil)) (nomark _))
        (pss_one (ps_ret (pe_mt (pv 0) T.c_Verdicts T.m_Verdicts_decide (r_decide T) (hr.mono (by decide)) (pa_cons (pv 1) (pa_cons (pe_glob (v := .str (wst .un)) (by rfl) hun ⟨_, rfl⟩) (pa_cons (pe_glob (v := .int (-1)) (by rfl) hle ⟨_, rfl⟩) pa_nil)))))) pss_nil)
      (pss_cons (ps_for PassesOwn.never rfl (pi_range2 (by rfl) T.z_range (pa_cons (pe_ix ix_list (pv 1) pe_int (fun _ _ => rfl)) (pa_cons (pe_callB call_len_seq (by rfl) T.z_len boot_len (pa_cons (pv 5) pa_nil)) pa_nil))) (pg_name (i := 7) cV_go_on.nd rfl (.inl rfl))
        (pss_cons (ps_set (i := 8) cV_go_on.nd rfl (.inl rfl) (pe_fn (r_pair_of T) (hr.mono (by decide)) (by rfl) T.g_pair_of (kpq T.F_pair_of) (pa_cons (pe_ix ix_list (pv 5) (pv 7) (fun _ _ => rfl)) (pa_cons (pe_ix ix_list (pv 6) (pv 7) (fun _ _ => rfl)) pa_nil))))
        (pss_one (ps_if (pt_cmpR op_isN (pv 8) pe_non (nomark _))
          (pss_one (ps_if (pt_cmpR (op_neD (u64 hr)) (pe_ix ix_list (pv 5) (pv 7) (fun _ _ => rfl)) (pe_ix ix_list (pv 6) (pv 7) (fun _ _ => rfl)) (nomark _))
            (pss_one (ps_ret (pe_mt (pv 0) T.c_Verdicts T.m_Verdicts_decide (r_decide T) (hr.mono (by decide)) (pa_cons (pv 1) (pa_cons (pe_glob (v := .str (wst .un)) (by rfl) hun ⟨_, rfl⟩) (pa_cons (pv 7) pa_nil)))))) pss_nil))
          (pss_one (ps_if (pt_cmp (pc_din (u1 hr) (pv 8) (pv 2)))
            (pss_one (ps_ret (pe_mt (pv 0) T.c_Verdicts T.m_Verdicts_decide (r_decide T) (hr.mono (by decide)) (pa_cons (pv 1) (pa_cons (pe_glob (v := .str (wst .en)) (by rfl) he ⟨_, rfl⟩) (pa_cons (pv 7) pa_nil))))))
            (pss_one (ps_if (pt_cmp (pc_dnotin (u1 hr) (pv 8) (pe_fld (pv 0) rfl)))
              (pss_cons (ps_asg (pv 7) (pg_sub (pv 1) pe_int set_list)) (pss_one (ps_ret (pv 8))))
              (pss_cons (ps_asg (pe_dget (u1 hr) (pe_fld (pv 0) rfl) (pv 8) (fun _ _ => rfl)) (pg_tup (n := 4) rfl (pgs_cons (pg_name (i := 9) cV_go_on.nd rfl (.inl rfl)) (pgs_cons (pg_name (i := 10) cV_go_on.nd rfl (.inl rfl)) (pgs_cons (pg_name (i := 11) cV_go_on.nd rfl (.inl rfl)) (pgs_cons (pg_name (i := 12) cV_go_on.nd rfl (.inl rfl)) pgs_nil))))))
              (pss_cons (ps_if (pt_cmpR op_eq (pv 9) (pe_glob (v := .str (wst .en)) (by rfl) he ⟨_, rfl⟩) (nomark _))
                (pss_one (ps_ret (pe_mt (pv 0) T.c_Verdicts T.m_Verdicts_decide (r_decide T) (hr.mono (by decide)) (pa_cons (pv 1) (pa_cons (pe_glob (v := .str (wst .en)) (by rfl) he ⟨_, rfl⟩) (pa_cons (pv 7) pa_nil)))))) pss_nil)
              (pss_cons (ps_augS (pv 1) pe_int get_list (pv 10) ip_add set_list)
              (pss_cons (ps_asg (pe_callB (call_max2 rfl) (by rfl) T.z_max boot_max (pa_cons (pe_ix ix_list (pv 1) pe_int (fun _ _ => rfl)) (pa_cons (pe_op op_add (pv 11) pe_int) pa_nil))) (pg_sub (pv 1) pe_int set_list))
              (pss_one (ps_if (pt_cmpR op_eq (pv 9) (pe_glob (v := .str (wst .un)) (by rfl) hun ⟨_, rfl⟩) (nomark _))
                (pss_one (ps_ret (pe_mt (pv 0) T.c_Verdicts T.m_Verdicts_decide (r_decide T) (hr.mono (by decide)) (pa_cons (pv 1) (pa_cons (pe_glob (v := .str (wst .un)) (by rfl) hun ⟨_, rfl⟩) (pa_cons (pv 7) pa_nil)))))) pss_nil))))))))))))))
      (pss_one (ps_ret (pe_mt (pv 0) T.c_Verdicts T.m_Verdicts_decide (r_decide T) (hr.mono (by decide)) (pa_cons (pv 1) (pa_cons (pe_glob (v := .str (wst .eq)) (by rfl) heq ⟨_, rfl⟩) (pa_cons (pe_callB call_len_seq (by rfl) T.z_len boot_len (pa_cons (pv 5) pa_nil)) pa_nil)))))))))
      , ?_⟩
    obtain ⟨dx, hv⟩ := hV.at_
    have hv : H v = some (.ins (CV K) dx (vf l d n)) := hv
    obtain ⟨kvs, hd, kr⟩ := hV.dict
    obtain ⟨qs, hl, hqs⟩ := hT
    obtain ⟨pm, em, vsM, hm, rm⟩ := row_at hqs ip.1
    obtain ⟨py, ey, vsY, hy, ry⟩ := row_at hqs ip.2
    have fv : f ≠ v := ne_of hF hv (fun z => nomatch z)
    have fd : f ≠ d := ne_of hF hd (fun z => nomatch z)
    have vd_ : v ≠ d := hV.ne
    have bFree : ∀ b ∈ [f], B b = none := fun b hb => by rw [List.mem_singleton.mp hb]; exact bf
    have lm : vsM.length = (rowOf rows p.1).length := Paired.length rm
    have ly : vsY.length = (rowOf rows p.2).length := Paired.length ry
    have l3 : (rowOf rows p.1).length ≤ 3 := sm.three _ (List.mem_of_getElem? (rowOf_at ip.1))
    have offV : ∀ {H'}, Off [f] H H' → VerM (CV K) H' v l d n rows ks := fun o => hV.off o (by simpa using fv.symm) (by simpa using fd.symm) fun b hb xs => by
      rw [List.mem_singleton.mp hb, hF]; exact fun z => nomatch z
    have offv : ∀ {H'}, Off [f] H H' → H' v = some (.ins (CV K) dx (vf l d n)) := fun o => o _ _ (by simpa using fv.symm) hv
    have offt : ∀ {H'}, Off [f] H H' → PrV H' t p := fun o => o _ _ (by simpa using ne_of hp hF (fun z => nomatch z)) hp
    have dec : ∀ (H' : Hp) (i' s' d' : Nat) (wd : Wd) (pl : Int), (∀ c ∈ kids rows p, c ∈ ks ∨ c ∈ ps) → Off [f] H H' → FrmAt H' f t i' s' d' → vd rows p = (if wd = .en then ⟨.en, 0, 0, pl⟩ else ⟨wd, s', d', pl⟩) → sp_decide (CV K) [.ref v, .ref f, .str (wst wd), .int pl] H' Q E0 :=
      fun H' i' s' d' wd pl hk o hF' hvd => ⟨v, l, d, f, t, n, i', s', d', rows, ks, p, wd, pl, rfl, offV o, hF', offt o, np, ip, sm, hvd, fun H2 n' o2 hV2 =>
        q1 H2 n' hk ((o.mono (fun b hb => by rw [List.mem_singleton.mp hb]; simp)).trans (o2.mono (fun b hb => List.mem_cons_of_mem _ hb))) hV2 ⟨i', s', d', o2 _ _ (by simp [fv, fd]) hF'⟩⟩
    refine ⟨_, rfl, f, _, 0, _, rfl, rfl, .of hF, rfl, t, _, rfl, .of hp, rfl, _, _, rfl, _, _, rfl, rfl, ?_⟩
    refine ⟨_, rfl, v, _, dx, _, _, rfl, hv, T.c_Verdicts, T.n_Verdicts_lists, vf_lists _ _ _, _, rfl, l, _, _, _, rfl, rfl, .of (sB _ _ hl), atI_nat em,
      _, rfl, v, _, dx, _, _, rfl, hv, T.c_Verdicts, T.n_Verdicts_lists, vf_lists _ _ _, _, rfl, l, _, _, _, rfl, rfl, .of (sB _ _ hl), atI_nat ey, _, _, rfl, ?_⟩
    refine ⟨_, rfl, _, _, rfl, .inl (.of (sB _ _ hm)), _, rfl, _, _, rfl, .inl (.of (sB _ _ hy)), rfl, _, rfl, ?_⟩
    by_cases hsl : SameLen rows p
    · have e0 : (!decide (V.int (vsM.length : Int) = V.int (vsY.length : Int))) = false := by
        rw [lm, ly, show (rowOf rows p.1).length = (rowOf rows p.2).length from hsl]
        simp
      rw [e0]
      obtain ⟨sc, hi⟩ := fr.1 hsl
      refine iteF ?_
      refine ⟨_, rfl, f, _, 1, _, rfl, rfl, .of hF, rfl, _, rfl, _, _, rfl, .inl (.of (sB _ _ hm)), _, _, rfl, ⟨by omega, by omega, by omega, by omega⟩, ?_⟩
      refine for_range (fun j σ H' => ∃ (s' d' : Nat) (o7 o8 o9 o10 o11 o12 : Option V), σ = [some (.ref v), some (.ref f), some (.ref ac), some (.int (p.1 : Int)), some (.int (p.2 : Int)), some (.ref pm), some (.ref py), o7, o8, o9, o10, o11, o12] ∧ Off [f] H H' ∧ FrmAt H' f t i s' d' ∧ Sc rows p (i + j) s' d' ∧ Vis rows ks p (i + j))
        ⟨s0, d0, _, _, _, _, _, _, rfl, Off.refl, hF, sc, vis⟩ ?_ ?_
      · rintro j σ H' hj ⟨s', d', o7, o8, o9, o10, o11, o12, rfl, o, hF', sc', vs'⟩
        have hlt : i + j < (rowOf rows p.1).length := by
          rw [← lm]
          omega
        have hlt2 : i + j < (rowOf rows p.2).length := by rw [← show (rowOf rows p.1).length = (rowOf rows p.2).length from hsl]; exact hlt
        obtain ⟨a, ea⟩ : ∃ a, (rowOf rows p.1)[i + j]? = some a := ⟨_, List.getElem?_eq_getElem hlt⟩
        obtain ⟨b, eb⟩ : ∃ b, (rowOf rows p.2)[i + j]? = some b := ⟨_, List.getElem?_eq_getElem hlt2⟩
        obtain ⟨x, ex, hxa⟩ := Paired.at_ rm ea
        obtain ⟨y, ey2, hyb⟩ := Paired.at_ ry eb
        have sB' : Same B H' := Off.base sB o bFree
        have ij : ((i : Int) + (j : Nat)) = ((i + j : Nat) : Int) := by omega
        have hp7 : ∀ {H2}, Same H' H2 → H2 pm = some (.lst vsM) ∧ H2 py = some (.lst vsY) := fun s2 => ⟨s2 _ _ (sB' _ _ hm), s2 _ _ (sB' _ _ hy)⟩
        have go2 := hp7 (Same.refl H')
        refine ⟨_, rfl, _, rfl, pm, vsM, _, _, rfl, rfl, .of go2.1, at_of ij ex, _, rfl, _, rfl, py, vsY, _, _, rfl, rfl, .of go2.2, at_of ij ey2, x, y, a, b, rfl, hxa.same sB', hyb.same sB', fun u H2 s2 hu => ?_⟩
        have o2 : Off [f] H H2 := o.trans (Off.same s2)
        have hF2 : FrmAt H2 f t i s' d' := s2 _ _ hF'
        have sB2 : Same B H2 := sB'.trans s2
        have go3 := hp7 s2
        refine ⟨_, rfl, rfl, _, rfl, ?_⟩
        cases hpo : pairOf a b with
        | none =>
          rw [hpo] at hu
          cases (show u = _ from hu)
          refine iteT ?_
          refine ⟨_, rfl, _, rfl, pm, vsM, _, _, rfl, rfl, .of go3.1, at_of ij ex, _, rfl, _, rfl, py, vsY, _, _, rfl, rfl, .of go3.2, at_of ij ey2, _, _, (hxa.same sB2).dp, (hyb.same sB2).dp, toD_shaped (hxa.same sB2), toD_shaped (hyb.same sB2), _, rfl, ?_⟩
          rw [toD_eqv]
          by_cases hab : a = b
          · rw [decide_eq_true hab]
            exact iteF ⟨s', d', _, _, _, _, _, _, rfl, o2, hF2, sc'.same ea eb hpo hab, vs'.next ea eb fun c z => by rw [hpo] at z; cases z⟩
          · rw [decide_eq_false hab]
            exact iteT ⟨_, rfl, v, dx, _, rfl, offv o2, rfl, _, rfl, _, rfl, dec H2 i s' d' .un _ (kids_at (by rw [sc'.ne ea eb hpo hab]) vs' ea eb fun c z => by rw [hpo] at z; cases z) o2 hF2 (by rw [ij, sc'.ne ea eb hpo hab]; rfl)⟩
        | some c =>
          rw [hpo] at hu
          obtain ⟨tu2, eu, hc⟩ := hu
          subst eu
          refine iteF ?_
          have hac2 : H2 ac = some (.dT (acK ps)) := o2 _ _ (by simpa using ne_of ha hF (fun z => nomatch z)) ha
          refine ⟨_, rfl, _, rfl, ac, _, rfl, DGet.t hac2 hc.key, _, rfl, ?_⟩
          by_cases hcp : c ∈ ps
          · rw [acK_in hcp]
            exact iteT ⟨_, rfl, v, dx, _, rfl, offv o2, rfl, _, rfl, _, rfl, dec H2 i s' d' .en _ (kids_at (by rw [sc'.en ea eb hpo (sc'.loop ea eb hpo (anc c hcp))]) vs' ea eb fun c' z => by rw [hpo] at z; cases z; exact .inr hcp) o2 hF2 (by rw [ij, sc'.en ea eb hpo (sc'.loop ea eb hpo (anc c hcp))]; rfl)⟩
          · rw [acK_out hcp]
            refine iteF ?_
            have hV2 := offV o2
            obtain ⟨kvs2, hd2, kr2⟩ := hV2.dict
            refine ⟨_, rfl, _, rfl, v, _, dx, _, _, rfl, offv o2, T.c_Verdicts, T.n_Verdicts_known, vf_known _ _ _, d, _, rfl, DGet.t hd2 hc.key, _, rfl, ?_⟩
            by_cases hck : c ∈ ks
            · obtain ⟨tv, ev, htv⟩ := known_in kr2 hck
              rw [ev]
              refine iteF ?_
              have gd := DGet.t hd2 hc.key
              rw [ev] at gd
              by_cases hw : (vd rows c).wd = .en
              · rw [vtup_en hw] at htv
                refine ⟨_, rfl, v, _, dx, _, _, rfl, offv o2, T.c_Verdicts, T.n_Verdicts_known, vf_known _ _ _, _, rfl, d, _, rfl, gd, tv, _, rfl, .of htv, rfl, _, _, rfl, _, _, rfl, _, _, rfl, _, _, rfl, rfl, ?_⟩
                refine ⟨_, rfl, rfl, _, rfl, ?_⟩
                have e9 : decide (V.str "endless" = V.str (wst .en)) = true := decide_eq_true rfl
                rw [e9]
                exact iteT ⟨_, rfl, v, dx, _, rfl, offv o2, rfl, _, rfl, _, rfl, dec H2 i s' d' .en _ (kids_at (by rw [sc'.en ea eb hpo hw]) vs' ea eb fun c' z => by rw [hpo] at z; cases z; exact .inl hck) o2 hF2 (by rw [ij, sc'.en ea eb hpo hw]; rfl)⟩
              · rw [vtup_ne hw] at htv
                refine ⟨_, rfl, v, _, dx, _, _, rfl, offv o2, T.c_Verdicts, T.n_Verdicts_known, vf_known _ _ _, _, rfl, d, _, rfl, gd, tv, _, rfl, .of htv, rfl, _, _, rfl, _, _, rfl, _, _, rfl, _, _, rfl, rfl, ?_⟩
                refine ⟨_, rfl, rfl, _, rfl, ?_⟩
                have e9 : decide (V.str (wst (vd rows c).wd) = V.str (wst .en)) = false := (wst_en _).trans (decide_eq_false hw)
                rw [e9]
                refine iteF ?_
                refine ⟨_, rfl, f, _, 2, _, rfl, rfl, .of hF2, rfl, _, rfl, _, _, rfl, rfl, f, _, 2, 2, rfl, rfl, hF2, rfl, ?_⟩
                refine ⟨_, rfl, f, _, 3, _, rfl, rfl, .of upd_same, rfl, _, rfl, _, _, rfl, rfl, _, _, rfl, _, rfl, f, _, 3, 3, rfl, rfl, upd_same, rfl, ?_⟩
                refine ⟨_, rfl, rfl, _, rfl, ?_⟩
                have em : (if (((vd rows c).depth : Int) + 1) > (d' : Int) then (((vd rows c).depth : Int) + 1) else (d' : Int)) = ((max d' ((vd rows c).depth + 1) : Nat) : Int) := by
                  by_cases h : (((vd rows c).depth : Int) + 1) > (d' : Int)
                  · rw [if_pos h]; omega
                  · rw [if_neg h]; omega
                have o4 : Off [f] H (upd (upd H2 f (.lst ([V.ref t, V.int (i : Int), V.int (s' : Int), V.int (d' : Int)].set 2 (V.int ((s' : Int) + ((vd rows c).steps : Int)))))) f (.lst (([V.ref t, V.int (i : Int), V.int (s' : Int), V.int (d' : Int)].set 2 (V.int ((s' : Int) + ((vd rows c).steps : Int)))).set 3 (V.int (if (((vd rows c).depth : Int) + 1) > (d' : Int) then (((vd rows c).depth : Int) + 1) else (d' : Int)))))) :=
                  (o2.trans (Off.put (List.mem_singleton.mpr rfl))).trans (Off.put (List.mem_singleton.mpr rfl))
                have hF4 : FrmAt (upd (upd H2 f (.lst ([V.ref t, V.int (i : Int), V.int (s' : Int), V.int (d' : Int)].set 2 (V.int ((s' : Int) + ((vd rows c).steps : Int)))))) f (.lst (([V.ref t, V.int (i : Int), V.int (s' : Int), V.int (d' : Int)].set 2 (V.int ((s' : Int) + ((vd rows c).steps : Int)))).set 3 (V.int (if (((vd rows c).depth : Int) + 1) > (d' : Int) then (((vd rows c).depth : Int) + 1) else (d' : Int)))))) f t i (s' + (vd rows c).steps) (max d' ((vd rows c).depth + 1)) := by
                  unfold FrmAt
                  rw [upd_same, em]
                  rfl
                by_cases hun2 : (vd rows c).wd = .un
                · have e10 : decide (V.str (wst (vd rows c).wd) = V.str (wst .un)) = true := (wst_un _).trans (decide_eq_true hun2)
                  rw [e10]
                  exact iteT ⟨_, rfl, v, dx, _, rfl, offv o4, rfl, _, rfl, _, rfl, dec _ i _ _ .un _ (kids_at (by rw [sc'.un ea eb hpo hun2]) vs' ea eb fun c' z => by rw [hpo] at z; cases z; exact .inl hck) o4 hF4 (by rw [ij, sc'.un ea eb hpo hun2]; rfl)⟩
                · have e10 : decide (V.str (wst (vd rows c).wd) = V.str (wst .un)) = false := (wst_un _).trans (decide_eq_false hun2)
                  rw [e10]
                  exact iteF ⟨_, _, _, _, _, _, _, _, rfl, o4, hF4, sc'.go ea eb hpo hw hun2, vs'.next ea eb fun c' z => by rw [hpo] at z; cases z; exact hck⟩
            · rw [known_out kr2 hck]
              refine iteT ?_
              refine ⟨_, rfl, _, rfl, f, _, 1, 1, rfl, rfl, hF2, rfl, _, rfl, ?_⟩
              have hfin : FrmAt (upd H2 f (.lst [.ref t, .int ((i : Int) + (j : Nat)), .int (s' : Int), .int (d' : Int)])) f t (i + j) s' d' := by
                unfold FrmAt
                rw [upd_same, ij]
              refine q2 _ tu2 c (i + j) s' d' a b (o2.trans (Off.put (List.mem_singleton.mpr rfl))) hfin ⟨fun _ => ⟨sc', Nat.le_of_lt hlt⟩, fun z => absurd hsl z⟩ vs' sc' ea eb hpo hck hcp ?_
              unfold PrV
              rw [upd_ne (ne_of hc hF2 (fun z => nomatch z))]
              exact hc
      · rintro σ H' ⟨s', d', o7, o8, o9, o10, o11, o12, rfl, o, hF', sc', vs'⟩
        have sB' : Same B H' := Off.base sB o bFree
        have en : i + ((vsM.length : Int) - (i : Int)).toNat = (rowOf rows p.1).length := by rw [lm]; omega
        rw [en] at sc' vs'
        refine ⟨_, rfl, v, dx, _, rfl, offv o, rfl, _, rfl, _, rfl, _, _, rfl, .inl (.of (sB' _ _ hm)), dec H' i s' d' .eq _ (kids_end (by rw [sc_end sc' (Nat.le_refl _)]) vs' (Nat.le_refl _)) o hF' ?_⟩
        rw [sc_end sc' (Nat.le_refl _), lm]
        rfl
    · have e0 : (!decide (V.int (vsM.length : Int) = V.int (vsY.length : Int))) = true := by
        rw [lm, ly, vint, decide_eq_false (show ¬ (rowOf rows p.1).length = (rowOf rows p.2).length from hsl)]
        rfl
      rw [e0]
      obtain ⟨rfl, rfl⟩ := fr.2 hsl
      exact iteT ⟨_, rfl, v, dx, _, rfl, hv, rfl, _, rfl, dec _ _ _ _ .un _ (fun c hc => by rw [(kids_unlike hsl).1] at hc; exact absurd hc List.not_mem_nil) Off.refl hF (by rw [vd_lengths hsl]; rfl)⟩
end
end Rg
end
section
set_option Elab.async false
set_option linter.all false
set_option maxRecDepth 100000
set_option maxHeartbeats 4000000
/-! Verdicts: of a pair. -/
namespace Rg
open PySem PySem.Spec PyProof.Rows L2
theorem off_in {S S1 : List Addr} {H H1 H2 : Hp} (a : Off S H H1) (b : Off S1 H1 H2) (h : ∀ x ∈ S1, x ∈ S ∨ H x = none) : Off S H H2 := fun c o n e => b c o (fun z => by
  rcases h c z with q | q
  · exact n q
  · rw [q] at e; cases e) (a c o n e)
theorem off_new {S : List Addr} {H H1 : Hp} {a : Addr} {o : HO} (x : Off S H H1) (h : H a = none) : Off S H (upd H1 a o) := off_in x (Off.put (S := [a]) (List.mem_singleton.mpr rfl)) fun b hb => .inr (by rw [List.mem_singleton.mp hb]; exact h)
theorem same_cut {S : List Addr} {H H1 : Hp} (x : Off S H H1) : Same (cut S H) H1 := fun b o e => by
  unfold cut at e
  split at e
  · cases e
  · rename_i hb
    exact x b o hb e
theorem off_free {S : List Addr} {H H1 : Hp} {a : Addr} (x : Off S H H1) (h : H1 a = none) (hS : ∀ b ∈ S, ∃ o, H1 b = some o) : H a = none := by
  cases e : H a with
  | none => rfl
  | some o =>
    by_cases hb : a ∈ S
    · obtain ⟨o', e'⟩ := hS a hb
      rw [h] at e'
      cases e'
    · have := x a o hb e
      rw [h] at this
      cases this
structure Frx where
  f : Addr
  t : Addr
  p : Pr
  i : Nat
  s : Nat
  d : Nat
/-- a frame under way -/
structure FrxOk (H H' : Hp) (rows : Rows) (ks : List Pr) (x : Frx) : Prop where
  new : H x.f = none
  at_ : FrmAt H' x.f x.t x.i x.s x.d
  pr : PrV H' x.t x.p
  out : x.p ∉ ks
  inr : InR rows x.p
  ok : FrOk rows x.p x.i x.s x.d
  vis : Vis rows ks x.p x.i
structure LoopI (C : Addr) (rows : Rows) (H H' : Hp) (v l d sk ac : Addr) (ks : List Pr) (p0 : Pr) (n' : Nat) (ks' : List Pr) (L : List Frx) : Prop where
  off : Off [v, d] H H'
  ver : VerM C H' v l d n' rows ks'
  sub : ∀ q ∈ ks, q ∈ ks'
  stk : H' sk = some (.lst (L.map fun x => V.ref x.f))
  act : H' ac = some (.dT (acK (L.map (·.p))))
  fr : ∀ x ∈ L, FrxOk H H' rows ks' x
  nf : (L.map (·.f)).Nodup
  np : (L.map (·.p)).Nodup
  anc : L.Pairwise fun x y => AncR rows x.p y.p
  clo : ∀ q ∈ ks', ∀ c ∈ kids rows q, c ∈ ks' ∨ c ∈ L.map (·.p)
  end_ : (p0 ∈ ks' ∧ L = []) ∨ (p0 ∉ ks' ∧ ∃ x L1, L = x :: L1 ∧ x.p = p0)
theorem LoopI.few {C : Addr} {rows : Rows} {H H' : Hp} {v l d sk ac : Addr} {ks : List Pr} {p0 : Pr} {n' : Nat} {ks' : List Pr} {L : List Frx} (h : LoopI C rows H H' v l d sk ac ks p0 n' ks' L) : L.length ≤ rows.length * rows.length := by
  have e := nodup_pairs (rows := rows) h.np fun p hp => by
    obtain ⟨x, hx, e⟩ := List.mem_map.mp hp
    rw [← e]
    exact (h.fr x hx).inr
  rw [List.length_map] at e
  exact e
theorem stk_ne {H : Hp} {sk f t : Addr} {i s d : Nat} {L : List Frx} (h : H sk = some (.lst (L.map fun x => V.ref x.f))) (hf : FrmAt H f t i s d) : sk ≠ f := by
  refine ne_of h hf fun z => ?_
  have z2 := HO.lst.inj z
  cases L with
  | nil => cases z2
  | cons x L =>
    cases L with
    | nil => cases z2
    | cons y L =>
      have := (List.cons.inj (List.cons.inj z2).2).1
      cases this
theorem acK_drop : ∀ {ps : List Pr} {p : Pr}, p ∉ ps → dropK (acK (ps ++ [p])) (kp p) = acK ps := by
  intro ps p h
  have e : acK (ps ++ [p]) = acK ps ++ [(kp p, V.bl true)] := by unfold acK; rw [List.map_append]; rfl
  rw [e]
  unfold dropK
  rw [List.filter_append]
  have e2 : (acK ps).filter (fun kv => decide (kv.1 ≠ kp p)) = acK ps := by
    rw [List.filter_eq_self]
    intro a ha
    obtain ⟨q, hq, e⟩ := List.mem_map.mp ha
    rw [← e]
    exact decide_eq_true fun z => h (by rw [← kp_inj z]; exact hq)
  rw [e2]
  have e3 : [(kp p, V.bl true)].filter (fun kv => decide (kv.1 ≠ kp p)) = [] := by simp
  rw [e3, List.append_nil]
theorem acK_app (ps : List Pr) (p : Pr) : acK ps ++ [(kp p, V.bl true)] = acK (ps ++ [p]) := by unfold acK; rw [List.map_append]; rfl
/-- how far the loop is from its end -/
def msr (rows : Rows) (ks : List Pr) (L : List Frx) : Nat := 2 * (rows.length * rows.length - ks.length) + (rows.length * rows.length - L.length)
section
variable {C : Addr} {rows : Rows} {H H' : Hp} {v l d sk ac : Addr} {ks : List Pr} {p0 : Pr} {n n' : Nat} {ks' : List Pr} {M : List Frx} {x : Frx}
/-- a frame below, where others have changed -/
theorem FrxOk.keep {S : List Addr} {H2 : Hp} {y : Frx} (h : FrxOk H H' rows ks y) (o : Off S H' H2) (hf : y.f ∉ S) (hS : ∀ b ∈ S, ∀ xs, H' b ≠ some (.tup xs)) (hk : ∀ q ∈ ks, q ∈ ks') (hn : y.p ∉ ks') : FrxOk H H2 rows ks' y :=
  ⟨h.new, o _ _ hf h.at_, o _ _ (fun z => hS _ z _ h.pr) h.pr, hn, h.inr, h.ok, h.vis.mono hk⟩
theorem nd_app {α β : Type} {g : α → β} {M : List α} {x : α} (h : ((M ++ [x]).map g).Nodup) : (M.map g).Nodup ∧ ∀ y ∈ M, g y ≠ g x := by
  rw [List.map_append, List.nodup_append] at h
  exact ⟨h.1, fun y hy => h.2.2 _ (List.mem_map_of_mem hy) _ (by simp)⟩
/-- the top is decided and taken off -/
theorem LoopI.pop (h : LoopI C rows H H' v l d sk ac ks p0 n' ks' (M ++ [x])) (h0 : VerM C H v l d n rows ks) (hs : H sk = none) (ha : H ac = none) {n2 : Nat} {H2 : Hp} (hk : ∀ c ∈ kids rows x.p, c ∈ ks' ∨ c ∈ (M ++ [x]).map (·.p)) (o : Off [x.f, v, d] H' H2) (hV : VerM C H2 v l d n2 rows (ks' ++ [x.p])) :
    LoopI C rows H (upd (upd H2 sk (.lst (M.map fun x => V.ref x.f))) ac (.dT (acK (M.map (·.p))))) v l d sk ac ks p0 n2 (ks' ++ [x.p]) M ∧ msr rows (ks' ++ [x.p]) M < msr rows ks' (M ++ [x]) := by
  have hx := h.fr x (by simp)
  obtain ⟨dxv0, hv0⟩ := h0.at_
  obtain ⟨kvs0, hd0, _⟩ := h0.dict
  obtain ⟨dxv, hv⟩ := h.ver.at_
  obtain ⟨kvs, hd, _⟩ := h.ver.dict
  have dac : d ≠ ac := ne_of_none hd0 ha
  have dsk : d ≠ sk := ne_of_none hd0 hs
  have vac : v ≠ ac := ne_of_none hv0 ha
  have vsk : v ≠ sk := ne_of_none hv0 hs
  have skac : sk ≠ ac := ne_of h.stk h.act (fun z => nomatch z)
  have skx : sk ≠ x.f := stk_ne h.stk hx.at_
  have acx : ac ≠ x.f := ne_of h.act hx.at_ (fun z => nomatch z)
  have sk2 : H2 sk = some (.lst ((M ++ [x]).map fun x => V.ref x.f)) := o _ _ (by simp [skx, vsk.symm, dsk.symm]) h.stk
  have ac2 : H2 ac = some (.dT (acK ((M ++ [x]).map (·.p)))) := o _ _ (by simp [acx, vac.symm, dac.symm]) h.act
  have o2 : Off [sk, ac] H2 (upd (upd H2 sk (.lst (M.map fun x => V.ref x.f))) ac (.dT (acK (M.map (·.p))))) := (Off.put (by simp)).trans (Off.put (by simp))
  have nt2 : ∀ b ∈ [sk, ac], ∀ xs, H2 b ≠ some (.tup xs) := fun b hb xs => by
    rcases List.mem_cons.mp hb with z | z
    · rw [z, sk2]; exact fun z => nomatch z
    · rw [List.mem_singleton.mp z, ac2]; exact fun z => nomatch z
  have nt1 : ∀ b ∈ [x.f, v, d], ∀ xs, H' b ≠ some (.tup xs) := fun b hb xs => by
    rcases List.mem_cons.mp hb with z | z
    · rw [z, hx.at_]; exact fun z => nomatch z
    · rcases List.mem_cons.mp z with z | z
      · rw [z, hv]; exact fun z => nomatch z
      · rw [List.mem_singleton.mp z, hd]; exact fun z => nomatch z
  obtain ⟨nf1, nf2⟩ := nd_app h.nf
  obtain ⟨np1, np2⟩ := nd_app h.np
  have hcnt := hV.count
  have hfew := h.few
  refine ⟨⟨off_new (off_new (off_in h.off o fun b hb => ?_) hs) ha, hV.off o2 (by simp [vsk, vac]) (by simp [dsk, dac]) nt2, fun q hq => List.mem_append_left _ (h.sub q hq), by rw [upd_ne skac, upd_same], upd_same, fun y hy => ?_, nf1, np1, (List.pairwise_append.mp h.anc).1, fun q hq c hc => ?_, ?_⟩, ?_⟩
  · rcases List.mem_cons.mp hb with z | z
    · rw [z]; exact .inr hx.new
    · exact .inl z
  · have hy' := h.fr y (List.mem_append_left _ hy)
    have out : y.p ∉ ks' ++ [x.p] := fun z => by
      rcases List.mem_append.mp z with z | z
      · exact hy'.out z
      · exact np2 y hy (List.mem_singleton.mp z)
    have k1 := hy'.keep (ks' := ks' ++ [x.p]) o (by
      simp only [List.mem_cons, List.not_mem_nil, or_false, not_or]
      exact ⟨nf2 y hy, ne_of hy'.at_ hv (fun z => nomatch z), ne_of hy'.at_ hd (fun z => nomatch z)⟩) nt1 (fun q hq => List.mem_append_left _ hq) out
    exact k1.keep o2 (by
      simp only [List.mem_cons, List.not_mem_nil, or_false, not_or]
      exact ⟨(stk_ne h.stk hy'.at_).symm, ne_of hy'.at_ h.act (fun z => nomatch z)⟩) nt2 (fun q hq => hq) out
  · have key : ∀ c, c ∈ ks' ∨ c ∈ (M ++ [x]).map (·.p) → c ∈ ks' ++ [x.p] ∨ c ∈ M.map (·.p) := fun c z => by
      rcases z with z | z
      · exact .inl (List.mem_append_left _ z)
      · rw [List.map_append, List.mem_append] at z
        rcases z with z | z
        · exact .inr z
        · exact .inl (List.mem_append_right _ z)
    rcases List.mem_append.mp hq with z | z
    · exact key c (h.clo q z c hc)
    · rw [List.mem_singleton.mp z] at hc
      exact key c (hk c hc)
  · rcases h.end_ with ⟨_, z⟩ | ⟨z0, y, L1, e, ey⟩
    · exact absurd z (by simp)
    · cases M with
      | nil =>
        have e2 := (List.cons.inj (show [x] = y :: L1 from e)).1
        exact .inl ⟨by rw [← ey, ← e2]; simp, rfl⟩
      | cons m M =>
        have e2 := (List.cons.inj (show m :: (M ++ [x]) = y :: L1 from e)).1
        refine .inr ⟨fun z => ?_, m, M, rfl, by rw [e2]; exact ey⟩
        rcases List.mem_append.mp z with z | z
        · exact z0 z
        · exact np2 m List.mem_cons_self (by rw [← List.mem_singleton.mp z, ← ey, e2])
  · unfold msr
    simp only [List.length_append, List.length_cons, List.length_nil] at hfew hcnt ⊢
    omega
/-- the top waits for another -/
theorem LoopI.push (h : LoopI C rows H H' v l d sk ac ks p0 n' ks' (M ++ [x])) (h0 : VerM C H v l d n rows ks) (hs : H sk = none) (ha : H ac = none) {H2 : Hp} {u fn : Addr} {c : Pr} {i' s' d' : Nat} {a b : Item} (o : Off [x.f] H' H2) (hF : FrmAt H2 x.f x.t i' s' d')
    (ok : FrOk rows x.p i' s' d') (vis : Vis rows ks' x.p i') (sc : Sc rows x.p i' s' d') (ea : (rowOf rows x.p.1)[i']? = some a) (eb : (rowOf rows x.p.2)[i']? = some b) (hp : pairOf a b = some c) (hck : c ∉ ks') (hcp : c ∉ (M ++ [x]).map (·.p)) (hu : PrV H2 u c) (sm : Small rows) (hfn : H2 fn = none) :
    LoopI C rows H (upd (upd (upd H2 fn (.lst [.ref u, .int 0, .int 1, .int 1])) sk (.lst (((M ++ [x]).map fun x => V.ref x.f) ++ [.ref fn]))) ac (.dT (acK ((M ++ [x]).map (·.p) ++ [c])))) v l d sk ac ks p0 n' ks' (M ++ [{ x with i := i', s := s', d := d' }, ⟨fn, u, c, 0, 1, 1⟩]) ∧
    msr rows ks' (M ++ [{ x with i := i', s := s', d := d' }, ⟨fn, u, c, 0, 1, 1⟩]) < msr rows ks' (M ++ [x]) := by
  have hx := h.fr x (by simp)
  obtain ⟨dxv0, hv0⟩ := h0.at_
  obtain ⟨kvs0, hd0, _⟩ := h0.dict
  obtain ⟨dxv, hv⟩ := h.ver.at_
  obtain ⟨kvs, hd, _⟩ := h.ver.dict
  have dac : d ≠ ac := ne_of_none hd0 ha
  have dsk : d ≠ sk := ne_of_none hd0 hs
  have vac : v ≠ ac := ne_of_none hv0 ha
  have vsk : v ≠ sk := ne_of_none hv0 hs
  have skac : sk ≠ ac := ne_of h.stk h.act (fun z => nomatch z)
  have skx : sk ≠ x.f := stk_ne h.stk hx.at_
  have acx : ac ≠ x.f := ne_of h.act hx.at_ (fun z => nomatch z)
  have vx : v ≠ x.f := ne_of hv hx.at_ (fun z => nomatch z)
  have dx : d ≠ x.f := ne_of hd hx.at_ (fun z => nomatch z)
  have sk2 : H2 sk = some (.lst ((M ++ [x]).map fun x => V.ref x.f)) := o _ _ (by simp [skx]) h.stk
  have ac2 : H2 ac = some (.dT (acK ((M ++ [x]).map (·.p)))) := o _ _ (by simp [acx]) h.act
  have hv2 := o _ _ (by simpa using vx) hv
  have hd2 := o _ _ (by simpa using dx) hd
  have skfn : sk ≠ fn := ne_of_none sk2 hfn
  have acfn : ac ≠ fn := ne_of_none ac2 hfn
  have xfn : x.f ≠ fn := ne_of_none hF hfn
  have o3 : Off [sk, ac] H2 (upd (upd (upd H2 fn (.lst [.ref u, .int 0, .int 1, .int 1])) sk (.lst (((M ++ [x]).map fun x => V.ref x.f) ++ [.ref fn]))) ac (.dT (acK ((M ++ [x]).map (·.p) ++ [c])))) := ((Off.new hfn).trans (Off.put (by simp))).trans (Off.put (by simp))
  have nt2 : ∀ b ∈ [sk, ac], ∀ xs, H2 b ≠ some (.tup xs) := fun b hb xs => by
    rcases List.mem_cons.mp hb with z | z
    · rw [z, sk2]; exact fun z => nomatch z
    · rw [List.mem_singleton.mp z, ac2]; exact fun z => nomatch z
  have nt1 : ∀ b ∈ [x.f], ∀ xs, H' b ≠ some (.tup xs) := fun b hb xs => by
    rw [List.mem_singleton.mp hb, hx.at_]; exact fun z => nomatch z
  have hV2 := h.ver.off o (by simpa using vx) (by simpa using dx) nt1
  obtain ⟨nf1, nf2⟩ := nd_app h.nf
  obtain ⟨np1, np2⟩ := nd_app h.np
  have fnH : H fn = none := off_free (off_in h.off o fun b hb => .inr (by rw [List.mem_singleton.mp hb]; exact hx.new)) hfn fun b hb => by
    rcases List.mem_cons.mp hb with z | z
    · rw [z]; exact ⟨_, hv2⟩
    · rw [List.mem_singleton.mp z]; exact ⟨_, hd2⟩
  have ic : InR rows c := at2_inR sm.clo (by rw [at2_at ea eb]; exact hp)
  have eL : (M ++ [{ x with i := i', s := s', d := d' }, (⟨fn, u, c, 0, 1, 1⟩ : Frx)]).map (·.p) = (M ++ [x]).map (·.p) ++ [c] := by simp
  have eF : (M ++ [{ x with i := i', s := s', d := d' }, (⟨fn, u, c, 0, 1, 1⟩ : Frx)]).map (·.f) = (M ++ [x]).map (·.f) ++ [fn] := by simp
  have hM : ∀ y ∈ M, y.f ≠ fn := fun y hy => by
    have hy' := h.fr y (List.mem_append_left _ hy)
    exact ne_of_none (o _ _ (by simpa using nf2 y hy) hy'.at_) hfn
  have res : LoopI C rows H (upd (upd (upd H2 fn (.lst [.ref u, .int 0, .int 1, .int 1])) sk (.lst (((M ++ [x]).map fun x => V.ref x.f) ++ [.ref fn]))) ac (.dT (acK ((M ++ [x]).map (·.p) ++ [c])))) v l d sk ac ks p0 n' ks' (M ++ [{ x with i := i', s := s', d := d' }, ⟨fn, u, c, 0, 1, 1⟩]) := by
    refine ⟨?_, hV2.off o3 (by simp [vsk, vac]) (by simp [dsk, dac]) nt2, h.sub, by rw [upd_ne skac, upd_same]; simp, by rw [eL]; exact upd_same, fun y hy => ?_, ?_, ?_, ?_, fun q hq c' hc => ?_, ?_⟩
    · exact off_in (off_in h.off o fun b hb => .inr (by rw [List.mem_singleton.mp hb]; exact hx.new)) o3 fun b hb => by
        rcases List.mem_cons.mp hb with z | z
        · rw [z]; exact .inr hs
        · rw [List.mem_singleton.mp z]; exact .inr ha
    · rcases List.mem_append.mp hy with hy | hy
      · have hy' := h.fr y (List.mem_append_left _ hy)
        have k1 := hy'.keep (ks' := ks') o (by simpa using nf2 y hy) nt1 (fun q hq => hq) hy'.out
        exact k1.keep o3 (by
          simp only [List.mem_cons, List.not_mem_nil, or_false, not_or]
          exact ⟨(stk_ne h.stk hy'.at_).symm, ne_of hy'.at_ h.act (fun z => nomatch z)⟩) nt2 (fun q hq => hq) hy'.out
      · rcases List.mem_cons.mp hy with hy | hy
        · subst hy
          refine ⟨hx.new, o3 _ _ (by simp [skx.symm, acx.symm]) hF, o3 _ _ (fun z => nt2 _ z _ (o _ _ (fun z => nt1 _ z _ hx.pr) hx.pr)) (o _ _ (fun z => nt1 _ z _ hx.pr) hx.pr), hx.out, hx.inr, ok, vis⟩
        · cases List.mem_singleton.mp hy
          refine ⟨fnH, ?_, o3 _ _ (fun z => nt2 _ z _ hu) hu, hck, ic, ⟨fun z => ⟨sc_start z, Nat.zero_le _⟩, fun _ => ⟨rfl, rfl⟩⟩, fun j hj => absurd hj (Nat.not_lt_zero j)⟩
          show _ = some (HO.lst [.ref u, .int 0, .int 1, .int 1])
          rw [upd_ne acfn.symm, upd_ne skfn.symm, upd_same]
    · rw [eF, List.nodup_append]
      refine ⟨h.nf, List.nodup_cons.mpr ⟨List.not_mem_nil, List.nodup_nil⟩, fun f hf g hg e => ?_⟩
      rw [List.mem_singleton.mp hg] at e
      rw [List.map_append, List.mem_append] at hf
      rcases hf with hf | hf
      · obtain ⟨y, hy, ey⟩ := List.mem_map.mp hf
        exact hM y hy (ey.trans e)
      · exact xfn ((List.mem_singleton.mp hf).symm.trans e)
    · rw [eL, List.nodup_append]
      exact ⟨h.np, List.nodup_cons.mpr ⟨List.not_mem_nil, List.nodup_nil⟩, fun f hf g hg e => hcp (by rw [← List.mem_singleton.mp hg, ← e]; exact hf)⟩
    · obtain ⟨a1, a2, a3⟩ := List.pairwise_append.mp h.anc
      refine List.pairwise_append.mpr ⟨a1, ?_, fun y hy z hz => ?_⟩
      · refine List.pairwise_cons.mpr ⟨fun z hz => ?_, List.pairwise_singleton _ _⟩
        cases List.mem_singleton.mp hz
        exact sc.anc ea eb hp AncR.refl
      · rcases List.mem_cons.mp hz with e | e
        · rw [e]; exact a3 y hy x (by simp)
        · cases List.mem_singleton.mp e
          exact sc.anc ea eb hp (a3 y hy x (by simp))
    · rcases h.clo q hq c' hc with z | z
      · exact .inl z
      · exact .inr (by rw [eL]; exact List.mem_append_left _ z)
    · rcases h.end_ with ⟨_, z⟩ | ⟨z0, y, L1, e, ey⟩
      · exact absurd z (by simp)
      · cases M with
        | nil =>
          have e2 := (List.cons.inj (show [x] = y :: L1 from e)).1
          exact .inr ⟨z0, _, _, rfl, by rw [← ey, ← e2]⟩
        | cons m M =>
          have e2 := (List.cons.inj (show m :: (M ++ [x]) = y :: L1 from e)).1
          exact .inr ⟨z0, _, _, rfl, by rw [e2]; exact ey⟩
  refine ⟨res, ?_⟩
  have hfew := res.few
  have hf2 := h.few
  unfold msr
  simp only [List.length_append, List.length_cons, List.length_nil] at *
  omega
end
section
variable {P : Program} {w : World} {K : PySem.W.Frag} {mg : Str → Option Value} {base : Heap}
/-- of a pair: known, and all is as it was; or it gets known -/
def sp_of_pair (C : Addr) : Sp := fun vs H Q _ => ∃ (v l d t0 : Addr) (n : Nat) (rows : Rows) (ks : List Pr) (p0 : Pr), vs = [.ref v, .ref t0] ∧ PrV H t0 p0 ∧ VerAt C H v l d n rows ks ∧ Closed rows ks ∧ InR rows p0 ∧ Small rows ∧
  (p0 ∈ ks → ∀ H' t', Same H H' → H' t' = some (.tup (vtup (vd rows p0))) → Q (.ref t') H') ∧
  (p0 ∉ ks → ∀ H' t' n' ks', Off [v, d] H H' → VerM C H' v l d n' rows ks' → Closed rows ks' → p0 ∈ ks' → (∀ q ∈ ks, q ∈ ks') → H' t' = some (.tup (vtup (vd rows p0))) → Q (.ref t') H')
theorem r_of_pair (T : Tx K mg) : FnR P w K mg base CX0 5 (He.ma K (CV K) "of_pair") (sp_of_pair (CV K)) := by
  refine fnr T.FV_of_pair cV_of_pair (fun vs H Q E h => ?_) (fun _ _ _ _ _ _ us hl => match us, hl with | [_, _], _ => rfl) (fun cdv A outer s H vs Q E hr h => ?_)
  · obtain ⟨v, l, d, t0, n, rows, ks, p0, rfl, _⟩ := h; rfl
  · obtain ⟨v, l, d, t0, n, rows, ks, p0, rfl, ht0, hV, clo, ip, sm, q1, q2⟩ := h
    have nd := cV_of_pair.nd
    refine ⟨_, pss_cons (ps_set (i := 2) nd rfl (.inl rfl) (pe_lst (pa_cons (pe_lst (pa_cons (pv 1) (pa_cons pe_int (pa_cons pe_int (pa_cons pe_int pa_nil))))) pa_nil)))
      (pss_cons (ps_set (i := 3) nd rfl (.inl rfl) (pe_dict1 (u1 hr) (pv 1) pe_bl))
      (pss_cons (ps_while PassesOwn.never (pt_cmp (pc_dnotin (u1 hr) (pv 1) (pe_fld (pv 0) rfl)))
        (pss_cons (ps_set (i := 4) nd rfl (.inl rfl) (pe_ix ix_list (pv 2) (pe_un un_neg pe_int) (fun _ _ => rfl)))
        (pss_cons (ps_set (i := 5) nd rfl (.inl rfl) (pe_mt (pv 0) T.c_Verdicts T.m_Verdicts_go_on (r_go_on T) hr (pa_cons (pv 4) (pa_cons (pv 3) pa_nil))))
        (pss_one (ps_if (pt_cmpR op_isN (pv 5) pe_non (nomark _))
          (pss_cons (ps_expr (pe_bm0 PySem.F.plainAttrs_list PySem.F.slot_list_pop PySem.F.type_list_pop mt_pop (pv 2)))
            (pss_one (ps_expr (pe_bm PySem.F.plainAttrs_dict PySem.F.slot_dict_pop PySem.F.type_dict_pop (mt_pop1 (u1 hr)) (pv 3) (pa_cons (pe_ix ix_list (pv 4) pe_int (fun _ _ => rfl)) pa_nil)))))
          (pss_cons (ps_expr (pe_bm PySem.F.plainAttrs_list PySem.F.slot_list_append PySem.F.type_list_append mt_append (pv 2) (pa_cons (pe_lst (pa_cons (pv 5) (pa_cons pe_int (pa_cons pe_int (pa_cons pe_int pa_nil))))) pa_nil)))
            (pss_one (ps_dput (u1 hr) (pv 3) (pv 5) pe_bl rfl))))))))
      (pss_one (ps_ret (pe_dget (u1 hr) (pe_fld (pv 0) rfl) (pv 1) (fun _ _ => rfl)))))), ?_⟩
    obtain ⟨dx0, hv0⟩ := hV.1.at_
    have hv0 : H v = some (.ins (CV K) dx0 (vf l d n)) := hv0
    obtain ⟨kvs0, hd0, kr0⟩ := hV.1.dict
    have nn : rows.length * rows.length ≤ 100 := Nat.mul_le_mul sm.ten sm.ten
    have s100 : (100 : Nat) < sizeLine := by decide
    refine ⟨_, rfl, by show 4 ≤ sizeLine; decide, fun f0 hf0 => ⟨by show 1 ≤ sizeLine; decide, fun sk hsk => ?_⟩⟩
    intro ac hac
    have s1 : Same H (upd H f0 (.lst [.ref t0, .int 0, .int 1, .int 1])) := same_new hf0
    have s2 := s1.trans (same_new (o := .lst [.ref f0]) hsk)
    have s3 := s2.trans (same_new (o := .dT []) hac)
    have hsk0 : H sk = none := s1.free hsk
    have hac0 : H ac = none := s2.free hac
    have s4 := same_put (o := .dT [(kp p0, .bl true)]) s3 hac0
    refine ⟨_, rfl, t0, kp p0, upd_same, rfl, s3 _ _ ht0, ?_⟩
    have mono : ∀ (σ : L2.St) (H : Hp) (Q Q' : Bool → Hp → Prop), (∀ b H1, Q b H1 → Q' b H1) → tB (tDNotIn (tVar 1) (tFld K (tVar 0) "known")) σ H Q → tB (tDNotIn (tVar 1) (tFld K (tVar 0) "known")) σ H Q' := by
      intro σ H Q Q' hq h
      obtain ⟨x, e1, x2, e2, a, C, dx, fs, w, h1, h2, h3, h4, h5, a2, o, h6, h7, b, h8, h9⟩ := h
      exact ⟨x, e1, x2, e2, a, C, dx, fs, w, h1, h2, h3, h4, h5, a2, o, h6, h7, b, h8, hq _ _ h9⟩
    by_cases hpk : p0 ∈ ks
    · refine while_m (fun m σ H' => σ = [some (.ref v), some (.ref t0), some (.ref sk), some (.ref ac), none, none] ∧ Same H H') ⟨0, rfl, s4⟩ ?_ mono
      rintro m σ H' ⟨rfl, s5⟩
      obtain ⟨t, ev, ht⟩ := known_in kr0 hpk
      have gd := DGet.t (s5 _ _ hd0) (s5 _ _ ht0.key)
      rw [ev] at gd
      refine ⟨_, rfl, _, rfl, v, _, dx0, _, _, rfl, s5 _ _ hv0, T.c_Verdicts, T.n_Verdicts_known, vf_known _ _ _, d, _, rfl, gd, _, rfl, iteF ?_⟩
      exact ⟨_, rfl, v, _, dx0, _, _, rfl, s5 _ _ hv0, T.c_Verdicts, T.n_Verdicts_known, vf_known _ _ _, _, rfl, d, _, rfl, gd, q1 hpk H' t s5 (s5 _ _ ht)⟩
    · refine while_m (fun m σ H' => ∃ (n' : Nat) (ks' : List Pr) (L : List Frx) (o4 o5 : Option V), σ = [some (.ref v), some (.ref t0), some (.ref sk), some (.ref ac), o4, o5] ∧ LoopI (CV K) rows H H' v l d sk ac ks p0 n' ks' L ∧ m = msr rows ks' L) ?_ ?_ mono
      · have ac_sk : sk ≠ ac := fun z => by rw [z, upd_same] at hac; cases hac
        have f0_sk : sk ≠ f0 := fun z => by rw [z, upd_same] at hsk; cases hsk
        have f0_ac : ac ≠ f0 := fun z => by rw [z, upd_ne (fun q => f0_sk q.symm), upd_same] at hac; cases hac
        refine ⟨_, n, ks, [⟨f0, t0, p0, 0, 1, 1⟩], none, none, rfl, ⟨Off.same s4, hV.1.same s4, fun _ z => z, ?_, upd_same, fun x hx => ?_, List.nodup_cons.mpr ⟨List.not_mem_nil, List.nodup_nil⟩, List.nodup_cons.mpr ⟨List.not_mem_nil, List.nodup_nil⟩, List.pairwise_singleton _ _, fun q hq c hc => .inl (clo q hq c hc), .inr ⟨hpk, _, [], rfl, rfl⟩⟩, rfl⟩
        · rw [upd_ne ac_sk, upd_ne ac_sk, upd_same]; rfl
        · cases List.mem_singleton.mp hx
          refine ⟨hf0, ?_, s4 _ _ ht0, hpk, ip, ⟨fun z => ⟨sc_start z, Nat.zero_le _⟩, fun _ => ⟨rfl, rfl⟩⟩, fun j hj => absurd hj (Nat.not_lt_zero j)⟩
          show _ = some (HO.lst [.ref t0, .int 0, .int 1, .int 1])
          rw [upd_ne f0_ac.symm, upd_ne f0_ac.symm, upd_ne f0_sk.symm, upd_same]
      · rintro m σ H' ⟨n', ks', L, o4, o5, rfl, I, rfl⟩
        obtain ⟨dx, hv⟩ := I.ver.at_
        have hv : H' v = some (.ins (CV K) dx (vf l d n')) := hv
        obtain ⟨kvs, hd, kr⟩ := I.ver.dict
        have vac : v ≠ ac := ne_of_none hv0 hac0
        have dac : d ≠ ac := ne_of_none hd0 hac0
        have vsk : v ≠ sk := ne_of_none hv0 hsk0
        have dsk : d ≠ sk := ne_of_none hd0 hsk0
        have ht0' : PrV H' t0 p0 := I.off _ _ (by
          simp only [List.mem_cons, List.not_mem_nil, or_false, not_or]
          exact ⟨ne_of ht0 hv0 (fun z => nomatch z), ne_of ht0 hd0 (fun z => nomatch z)⟩) ht0
        have gd := DGet.t hd ht0'.key
        refine ⟨_, rfl, _, rfl, v, _, dx, _, _, rfl, hv, T.c_Verdicts, T.n_Verdicts_known, vf_known _ _ _, d, _, rfl, gd, _, rfl, ?_⟩
        by_cases hp' : p0 ∈ ks'
        · obtain ⟨t, ev, ht⟩ := known_in kr hp'
          rw [ev] at gd ⊢
          have eL : L = [] := by
            rcases I.end_ with z | z
            · exact z.2
            · exact absurd hp' z.1
          subst eL
          exact iteF ⟨_, rfl, v, _, dx, _, _, rfl, hv, T.c_Verdicts, T.n_Verdicts_known, vf_known _ _ _, _, rfl, d, _, rfl, gd, q2 hpk H' t n' ks' I.off I.ver (fun q hq c hc => by
            rcases I.clo q hq c hc with z | z
            · exact z
            · exact absurd z List.not_mem_nil) hp' I.sub ht⟩
        · rw [known_out kr hp']
          refine iteT ?_
          obtain ⟨M, x, rfl⟩ : ∃ M x, L = M ++ [x] := by
            rcases I.end_ with z | ⟨_, y, L1, e, _⟩
            · exact absurd z.1 hp'
            · have hne : L ≠ [] := by rw [e]; exact List.cons_ne_nil _ _
              exact ⟨L.dropLast, L.getLast hne, (List.dropLast_concat_getLast hne).symm⟩
          have hx := I.fr x (by simp)
          have eF : ((M ++ [x]).map fun x => V.ref x.f) = (M.map fun x => V.ref x.f) ++ [V.ref x.f] := by simp
          have skx : sk ≠ x.f := stk_ne I.stk hx.at_
          have acx : ac ≠ x.f := ne_of I.act hx.at_ (fun z => nomatch z)
          have hstk := I.stk
          rw [eF] at hstk
          have hlen : ((M.map fun x => V.ref x.f) ++ [V.ref x.f]).length ≤ 100 := by
            rw [← eF, List.length_map]
            exact Nat.le_trans I.few nn
          refine ⟨_, rfl, _, rfl, sk, _, -1, _, rfl, rfl, .of hstk, atI_last _ _, ?_⟩
          refine ⟨_, rfl, v, dx, _, rfl, hv, rfl, _, rfl, _, rfl, cut [v, d] H, v, l, d, x.f, x.t, ac, n', x.i, x.s, x.d, rows, ks', (M ++ [x]).map (·.p), x.p, rfl, same_cut I.off, hV.base, cut_none (by simp), cut_none (by simp), cut_free hx.new, I.ver, hx.at_, hx.pr, I.act, dac.symm, hx.out, hx.inr, sm, hx.ok, hx.vis, ?_, ?_, ?_⟩
          · intro c hc
            rw [List.map_append, List.mem_append] at hc
            rcases hc with hc | hc
            · obtain ⟨y, hy, e⟩ := List.mem_map.mp hc
              rw [← e]
              exact (List.pairwise_append.mp I.anc).2.2 y hy x (by simp)
            · rw [List.mem_singleton.mp hc]
              exact AncR.refl
          · rintro H2 n2 hk o hV2 ⟨i2, s2', d2, hF2⟩
            obtain ⟨I2, lt⟩ := I.pop hV.1 hsk0 hac0 hk o hV2
            have sk2 : H2 sk = some (.lst ((M.map fun x => V.ref x.f) ++ [V.ref x.f])) := o _ _ (by simp [skx, vsk.symm, dsk.symm]) hstk
            have ac2 : H2 ac = some (.dT (acK ((M ++ [x]).map (·.p)))) := o _ _ (by simp [acx, vac.symm, dac.symm]) I.act
            have skac : sk ≠ ac := ne_of sk2 ac2 (fun z => nomatch z)
            have tx : PrV H2 x.t x.p := o _ _ (by
              simp only [List.mem_cons, List.not_mem_nil, or_false, not_or]
              exact ⟨ne_of hx.pr hx.at_ (fun z => nomatch z), ne_of hx.pr hv (fun z => nomatch z), ne_of hx.pr hd (fun z => nomatch z)⟩) hx.pr
            refine ⟨_, rfl, rfl, _, rfl, iteT ?_⟩
            refine ⟨_, rfl, .inl ⟨rfl, _, .of sk2⟩, sk, _, .ref x.f, rfl, rfl, sk2, by simp, ?_⟩
            have ac3 : upd H2 sk (.lst ((M.map fun x => V.ref x.f) ++ [V.ref x.f]).dropLast) ac = some (.dT (acK ((M ++ [x]).map (·.p)))) := by rw [upd_ne skac.symm]; exact ac2
            have hF3 : upd H2 sk (.lst ((M.map fun x => V.ref x.f) ++ [V.ref x.f]).dropLast) x.f = some (.lst [.ref x.t, .int (i2 : Int), .int (s2' : Int), .int (d2 : Int)]) := by rw [upd_ne skx.symm]; exact hF2
            have tx3 : upd H2 sk (.lst ((M.map fun x => V.ref x.f) ++ [V.ref x.f]).dropLast) x.t = some (.tup ((kp x.p).map kV)) := by
              rw [upd_ne (ne_of tx sk2 (fun z => nomatch z))]; exact tx
            refine ⟨_, rfl, .inr (.inr (.inl ⟨rfl, .inr ⟨_, ac3⟩⟩)), _, rfl, x.f, _, 0, _, rfl, rfl, .of hF3, rfl, ac, _, kp x.p, x.t, .bl true, rfl, rfl, ac3, tx3, acK_in (by simp), ?_⟩
            refine ⟨msr rows (ks' ++ [x.p]) M, lt, n2, ks' ++ [x.p], M, _, _, rfl, ?_, rfl⟩
            have e1 : ((M.map fun x => V.ref x.f) ++ [V.ref x.f]).dropLast = M.map fun x => V.ref x.f := by simp
            have e2 : dropK (acK ((M ++ [x]).map (·.p))) (kp x.p) = acK (M.map (·.p)) := by
              rw [List.map_append]
              exact acK_drop fun z => by
                obtain ⟨y, hy, e⟩ := List.mem_map.mp z
                exact (nd_app I.np).2 y hy e
            rw [e1, e2]
            exact I2
          · intro H2 u c i' s' d' a b o hF ok vis sc ea eb hp hck hcp hu
            have sk2 : H2 sk = some (.lst ((M.map fun x => V.ref x.f) ++ [V.ref x.f])) := o _ _ (by simp [skx]) hstk
            have ac2 : H2 ac = some (.dT (acK ((M ++ [x]).map (·.p)))) := o _ _ (by simp [acx]) I.act
            have skac : sk ≠ ac := ne_of sk2 ac2 (fun z => nomatch z)
            refine ⟨_, rfl, rfl, _, rfl, iteF ?_⟩
            refine ⟨_, rfl, .inl ⟨rfl, _, .of sk2⟩, _, rfl, by show 4 ≤ sizeLine; decide, fun fn hfn => ?_⟩
            have skfn : sk ≠ fn := ne_of_none sk2 hfn
            have acfn : ac ≠ fn := ne_of_none ac2 hfn
            obtain ⟨I2, lt⟩ := I.push hV.1 hsk0 hac0 o hF ok vis sc ea eb hp hck hcp hu sm hfn
            refine ⟨sk, _, _, rfl, rfl, by rw [upd_ne skfn]; exact sk2, Nat.lt_of_le_of_lt hlen s100, ?_⟩
            refine ⟨_, rfl, _, rfl, ac, _, rfl, DPut.t (kvs := acK ((M ++ [x]).map (·.p))) (k := kp c) (by rw [upd_ne skac.symm, upd_ne acfn]; exact ac2) (by rw [upd_ne (ne_of hu sk2 (fun z => nomatch z)), upd_ne (ne_of_none hu hfn)]; exact hu) ?_, ?_⟩
            · unfold acK
              rw [List.length_map, List.length_map]
              exact Nat.lt_of_le_of_lt (Nat.le_trans I.few nn) s100
            refine ⟨_, lt, n', ks', _, _, _, rfl, ?_, rfl⟩
            rw [putK_new _ (acK_out hcp), acK_app, ← eF]
            exact I2
end
end Rg
end
section
set_option Elab.async false
set_option linter.all false
set_option maxRecDepth 100000
set_option maxHeartbeats 4000000
/-! Verdicts: the pairs that a pair enters. -/
namespace Rg
open PySem PySem.Spec PyProof.Rows L2
theorem Paired.take {α β : Type} {F : α → β → Prop} : ∀ {xs : List α} {ys : List β} (n : Nat), Paired F xs ys → Paired F (xs.take n) (ys.take n)
  | _, _, 0, _ => by rw [List.take_zero, List.take_zero]; exact .nil
  | _, _, n + 1, .nil => by rw [List.take_nil, List.take_nil]; exact .nil
  | _, _, n + 1, .cons r t => by rw [List.take_succ_cons, List.take_succ_cons]; exact .cons r (Paired.take n t)
theorem Paired.zip3 {α β γ δ ε : Type} {F : α → β × γ → Prop} {R : β → δ → Prop} {S : γ → ε → Prop} : ∀ {ts : List α} {xs : List β} {ys : List γ} {as : List δ} {bs : List ε}, Paired F ts (xs.zip ys) → Paired R xs as → Paired S ys bs →
    Paired (fun t q => ∃ p, F t p ∧ R p.1 q.1 ∧ S p.2 q.2) ts (as.zip bs)
  | _, _, _, _, _, h, .nil, _ => by cases h; exact .nil
  | _, _, _, _, _, h, .cons _ _, .nil => by cases h; exact .nil
  | _, _, _, _, _, h, .cons r t, .cons r2 t2 => by
    cases h with
    | cons f k => exact .cons ⟨_, f, r, r2⟩ (Paired.zip3 k t t2)
theorem Paired.mapL {α α' β : Type} {F : α' → β → Prop} {g : α → α'} : ∀ {xs : List α} {ys : List β}, Paired (fun x y => F (g x) y) xs ys → Paired F (xs.map g) ys
  | _, _, .nil => .nil
  | _, _, .cons r t => .cons r (Paired.mapL t)
theorem cutV_take (xs : List V) (n : Nat) : cutV xs none (some (n : Int)) = xs.take n := by
  unfold cutV
  rw [HT.sIx_none, HT.sIx_nat, List.drop_zero, Nat.sub_zero]
  by_cases h : n ≤ xs.length
  · rw [Nat.min_eq_left h]
  · rw [Nat.min_eq_right (by omega), List.take_of_length_le (Nat.le_refl _), List.take_of_length_le (by omega)]
theorem PrV.off {S : List Addr} {H H' : Hp} (s : Off S H H') (hS : ∀ b ∈ S, ∀ xs, H b ≠ some (.tup xs)) {t : Addr} {p : Pr} (h : PrV H t p) : PrV H' t p := s _ _ (fun z => hS _ z _ h) h
theorem PrO.off {S : List Addr} {H H' : Hp} (s : Off S H H') (hS : ∀ b ∈ S, ∀ xs, H b ≠ some (.tup xs)) {v : V} {o : Option Pr} (h : PrO H v o) : PrO H' v o := by
  cases o with
  | none => exact h
  | some c => obtain ⟨t, e, ht⟩ := h; exact ⟨t, e, PrV.off s hS ht⟩
theorem PrO.same {H H' : Hp} (s : Same H H') {v : V} {o : Option Pr} (h : PrO H v o) : PrO H' v o := by
  cases o with
  | none => exact h
  | some c => obtain ⟨t, e, ht⟩ := h; exact ⟨t, e, ht.same s⟩
theorem lst_nt {H : Hp} {D : Addr} {xs : List V} (h : H D = some (.lst xs)) : ∀ b ∈ [D], ∀ ys, H b ≠ some (.tup ys) := fun b hb ys => by
  rw [List.mem_singleton.mp hb, h]; exact fun z => nomatch z
theorem place_nat {rows : Rows} {p : Pr} : ∃ n : Nat, (vd rows p).place + 1 = (n : Int) ∧ ((vd rows p).place + 1).toNat = n := by
  by_cases h : SameLen rows p
  · obtain ⟨k, e, _⟩ := vd_place_nat (rows := rows) (p := p) h
    exact ⟨k + 1, by rw [e]; omega, by rw [e]; omega⟩
  · refine ⟨0, ?_, ?_⟩ <;> rw [(kids_unlike h).2] <;> rfl
section
variable {P : Program} {w : World} {K : PySem.W.Frag} {mg : Str → Option Value} {base : Heap}
def sp_entered (C : Addr) : Sp := fun vs H Q _ => ∃ (v l d t0 : Addr) (n : Nat) (rows : Rows) (ks : List Pr) (p0 : Pr), vs = [.ref v, .ref t0] ∧ PrV H t0 p0 ∧ VerAt C H v l d n rows ks ∧ Closed rows ks ∧ p0 ∈ ks ∧ Small rows ∧
  (∀ H' a ts, Same H H' → H' a = some (.lst (ts.map V.ref)) → Paired (PrV H') ts (kids rows p0) → Q (.ref a) H')
theorem r_entered (T : Tx K mg) : FnR P w K mg base CX0 6 (He.ma K (CV K) "entered_from") (sp_entered (CV K)) := by
  refine fnr T.FV_entered_from cV_entered_from (fun vs H Q E h => ?_) (fun _ _ _ _ _ _ us hl => match us, hl with | [_, _], _ => rfl) (fun cdv A outer s H vs Q E hr h => ?_)
  · obtain ⟨v, l, d, t0, n, rows, ks, p0, rfl, _⟩ := h; rfl
  · obtain ⟨v, l, d, t0, n, rows, ks, p0, rfl, ht0, hV, clo, hp, sm, q⟩ := h
    have nd := cV_entered_from.nd
    refine ⟨_, pss_cons (ps_asg (pv 1) (pg_tup (n := 2) rfl (pgs_cons (pg_name (i := 2) nd rfl (.inl rfl)) (pgs_cons (pg_name (i := 3) nd rfl (.inl rfl)) pgs_nil))))
      (pss_cons (ps_set (i := 4) nd rfl (.inl rfl) (pe_ix ix_tup (pe_mt (pv 0) T.c_Verdicts T.m_Verdicts_of_pair (r_of_pair T) hr (pa_cons (pv 1) pa_nil)) pe_int (fun _ _ => rfl)))
      (pss_cons (ps_set (i := 5) nd rfl (.inl rfl) (pe_listZip rfl (by rfl) T.z_list (by rfl) T.z_zip (pa_cons (pe_ix ix_list (pe_fld (pv 0) rfl) (pv 2) (fun _ _ => rfl)) (pa_cons (pe_ix ix_list (pe_fld (pv 0) rfl) (pv 3) (fun _ _ => rfl)) pa_nil))))
      (pss_cons (ps_setLc (i := 6) (own := [("mine", 7), ("yours", 8)]) (g := gTup K 2 (gCons (gName 7) (gCons (gName 8) gNil))) (tt := tYes) rfl nd rfl rfl (sw_true rfl rfl rfl (by decide +kernel)) (pi_list (pe_slice sl_list (pv 5) po_none (po_some (pe_op op_add (pv 4) pe_int)))) (blkOk_by (N := nV_entered_from) (sc := defScope sV_entered_from) (by decide +kernel))
        (fun _ _ _ _ _ => pg_tup (n := 2) rfl (pgs_cons (pg_name (i := 7) nd rfl (.inl rfl)) (pgs_cons (pg_name (i := 8) nd rfl (.inl rfl)) pgs_nil))) (fun _ _ _ _ _ => pts_nil)
        (fun _ _ _ _ _ => pe_fn (r_pair_of T) (hr.mono (by decide)) (by rfl) T.g_pair_of (kpq T.F_pair_of) (pa_cons (pv 7) (pa_cons (pv 8) pa_nil))))
      (pss_one (ps_ret (pe_lc (own := [("child", 9)]) (g := gName 9) rfl nd (pi_list (pv 6)) (blkOk_by (N := nV_entered_from) (sc := defScope sV_entered_from) (by decide +kernel))
        (fun _ _ _ _ _ => pg_name (i := 9) nd rfl (.inl rfl)) (fun _ _ _ _ _ => pts_one (pt_cmpR op_notN (pv 9) pe_non (nomark _))) (fun _ _ _ _ _ => pv 9))))))), ?_⟩
    obtain ⟨dx, hv⟩ := hV.1.at_
    have hv : H v = some (.ins (CV K) dx (vf l d n)) := hv
    obtain ⟨qs, hl, hqs⟩ := hV.2
    have ip := hV.1.inr p0 hp
    obtain ⟨pm, em, vsM, hm, rm⟩ := row_at hqs ip.1
    obtain ⟨py, ey, vsY, hy, ry⟩ := row_at hqs ip.2
    obtain ⟨m, em1, em2⟩ := place_nat (rows := rows) (p := p0)
    have l3 : (rowOf rows p0.1).length ≤ 3 := sm.three _ (List.mem_of_getElem? (rowOf_at ip.1))
    refine ⟨_, rfl, t0, _, rfl, .of ht0, rfl, _, _, rfl, _, _, rfl, rfl, ?_⟩
    refine ⟨_, rfl, v, dx, _, rfl, hv, rfl, _, rfl, v, l, d, t0, n, rows, ks, p0, rfl, ht0, hV, clo, ip, sm, fun _ H1 t1 s1 ht1 => ?_, fun z => absurd hp z⟩
    refine ⟨t1, _, ((3 : Nat) : Int), _, rfl, rfl, .of ht1, atI_nat (vtup_3 _), ?_⟩
    refine ⟨_, rfl, v, _, dx, _, _, rfl, s1 _ _ hv, T.c_Verdicts, T.n_Verdicts_lists, vf_lists _ _ _, _, rfl, l, _, _, _, rfl, rfl, .of (s1 _ _ hl), atI_nat em,
      _, rfl, v, _, dx, _, _, rfl, s1 _ _ hv, T.c_Verdicts, T.n_Verdicts_lists, vf_lists _ _ _, _, rfl, l, _, _, _, rfl, rfl, .of (s1 _ _ hl), atI_nat ey, pm, py, vsM, vsY, rfl, .of (s1 _ _ hm), .of (s1 _ _ hy), fun H2 it ts s2 _ _ hit pts => ?_⟩
    have s02 : Same H H2 := s1.trans s2
    have pz : Paired (fun (v : V) (q : Item × Item) => ∃ t x y, v = .ref t ∧ H2 t = some (.tup [x, y]) ∧ ItV H2 x q.1 ∧ ItV H2 y q.2) ((ts.map V.ref).take m) (((rowOf rows p0.1).zip (rowOf rows p0.2)).take m) :=
      Paired.take m (Paired.mapL (Paired.mapP (Paired.zip3 pts rm ry) fun t q ⟨p, h1, h2, h3⟩ => ⟨t, p.1, p.2, rfl, h1, h2.same s02, h3.same s02⟩))
    have ec : cutV (ts.map V.ref) none (some ((vd rows p0).place + 1)) = (ts.map V.ref).take m := by rw [em1]; exact cutV_take _ _
    generalize hZ : ((rowOf rows p0.1).zip (rowOf rows p0.2)).take m = Z at pz
    have lZ : Z.length ≤ 3 := by
      rw [← hZ]
      refine Nat.le_trans (List.length_take_le' _ _) ?_
      rw [List.length_zip]
      exact Nat.le_trans (Nat.min_le_left _ _) l3
    have l9 : ∀ k : Nat, k ≤ 3 → k < sizeLine := fun k hk => Nat.lt_of_le_of_lt hk (by decide)
    refine ⟨_, rfl, _, rfl, _, _, rfl, rfl, _, rfl, it, ts.map V.ref, rfl, .of hit, fun sl hsl => ?_⟩
    rw [ec]
    refine ⟨sl, rfl, ⟨_, .of upd_same⟩, fun D hD => ?_⟩
    have s23 : Same H2 (upd H2 sl (.lst ((ts.map V.ref).take m))) := same_new hsl
    have D2 : H2 D = none := s23.free hD
    refine lc_list (xs := (ts.map V.ref).take m) (fun i H' => ∃ acc, H' D = some (.lst acc) ∧ Same (upd H2 sl (.lst ((ts.map V.ref).take m))) H' ∧ Paired (fun v (q : Item × Item) => PrO H' v (pairOf q.1 q.2)) acc (Z.take i))
      ⟨[], upd_same, same_new hD, by rw [List.take_zero]; exact .nil⟩ (fun i H' _ ⟨acc, _, s', _⟩ => .of (s' _ _ upd_same)) ?_ ?_
    · rintro i x H' hx ⟨acc, e, s', pa⟩
      obtain ⟨qq, hq, t, a, b, rfl, ht, ha, hb⟩ := Paired.at1 pz hx
      have s2' : Same H2 H' := s23.trans s'
      refine ⟨t, _, rfl, .of (s2' _ _ ht), rfl, _, _, rfl, _, _, rfl, rfl, rfl, yesT ?_⟩
      refine ⟨_, rfl, _, rfl, a, b, qq.1, qq.2, rfl, ha.same s2', hb.same s2', fun u H4 s4 hu => ?_⟩
      have e4 := s4 _ _ e
      refine ⟨acc, e4, l9 _ ?_, acc ++ [u], upd_same, same_put (s'.trans s4) hD, ?_⟩
      · rw [Paired.length pa]
        exact Nat.le_trans (List.length_take_le' _ _) lZ
      · have et : Z.take (i + 1) = Z.take i ++ [qq] := by rw [List.take_add_one, hq]; rfl
        rw [et]
        refine Paired.app (Paired.mapP pa fun v q h => PrO.off (S := [D]) (Off.put (by simp)) (lst_nt e4) (PrO.same s4 h)) (.cons (PrO.off (S := [D]) (Off.put (by simp)) (lst_nt e4) hu) .nil)
    · rintro H' ⟨acc, e, s', pa⟩
      rw [Paired.length pz, List.take_of_length_le (Nat.le_refl _)] at pa
      refine ⟨_, rfl, D, rfl, ⟨_, .of e⟩, fun D2 hD2 => ?_⟩
      refine lc_list (xs := acc) (fun i H'' => ∃ us : List Addr, H'' D2 = some (.lst (us.map V.ref)) ∧ Same H' H'' ∧ Paired (PrV H'') us ((Z.take i).filterMap fun q => pairOf q.1 q.2))
        ⟨[], upd_same, same_new hD2, by rw [List.take_zero]; exact .nil⟩ (fun i H'' _ ⟨us, _, s2', _⟩ => .of (s2' _ _ e)) ?_ ?_
      · rintro i x H2' hx ⟨us, e2, s2', pu⟩
        obtain ⟨qq, hq, hxo⟩ := Paired.at1 pa hx
        have et : Z.take (i + 1) = Z.take i ++ [qq] := by rw [List.take_add_one, hq]; rfl
        refine ⟨rfl, _, rfl, rfl, _, rfl, ?_⟩
        cases hpo : pairOf qq.1 qq.2 with
        | none =>
          rw [hpo] at hxo
          cases (show x = _ from hxo)
          refine iteF ⟨us, e2, s2', ?_⟩
          rw [et, List.filterMap_append]
          have : [qq].filterMap (fun q : Item × Item => pairOf q.1 q.2) = [] := by simp [hpo]
          rw [this, List.append_nil]
          exact pu
        | some c =>
          rw [hpo] at hxo
          obtain ⟨t, rfl, ht⟩ := hxo
          refine iteT ⟨_, rfl, us.map V.ref, e2, l9 _ ?_, us ++ [t], by rw [upd_same]; simp, same_put s2' hD2, ?_⟩
          · rw [List.length_map, Paired.length pu]
            exact Nat.le_trans (List.length_filterMap_le _ _) (Nat.le_trans (List.length_take_le' _ _) lZ)
          · rw [et, List.filterMap_append]
            have : [qq].filterMap (fun q : Item × Item => pairOf q.1 q.2) = [c] := by simp [hpo]
            rw [this]
            exact Paired.app (Paired.mapP pu fun v q h => PrV.off (S := [D2]) (Off.put (by simp)) (lst_nt e2) h) (.cons (PrV.off (S := [D2]) (Off.put (by simp)) (lst_nt e2) (ht.same s2')) .nil)
      · rintro H'' ⟨us, e2, s2', pu⟩
        rw [Paired.length pa, List.take_of_length_le (Nat.le_refl _)] at pu
        refine q H'' D2 us (((s02.trans s23).trans s').trans s2') e2 ?_
        rw [kids_eq, em2]
        unfold kidsS
        rw [hZ]
        exact pu
end
end Rg
end
section
set_option Elab.async false
set_option linter.all false
/-! Steps until too deep: what a turn of the loop keeps. -/
namespace Rg
structure SudI (rows : Rows) (ks : List Pr) (n L0 : Nat) (p0 p : Pr) (l s : Nat) (E : List (Pr × Nat × Nat)) : Prop where
  inks : p ∈ ks
  le : l ≤ L0
  tot : s + sud rows l p = sud rows L0 p0
  deep : Deep rows p l
  nd : (E.map (·.1)).Nodup
  inE : ∀ e ∈ E, e.1 ∈ ks
  leE : ∀ e ∈ E, e.2.1 ≤ L0
  pas : n < l → ∀ e ∈ E, ∃ j, e.2.1 = l + (j + 1) ∧ p = nxs rows (j + 1) e.1 ∧ s = e.2.2 + csts rows (j + 1) e.1 ∧ T rows e.1 = none
section
variable {rows : Rows} {ks : List Pr} {n L0 : Nat} {p0 p : Pr} {l s : Nat} {E : List (Pr × Nat × Nat)}
theorem SudI.start (h : p0 ∈ ks) (hd : Deep rows p0 L0) : SudI rows ks n L0 p0 p0 L0 0 [] :=
  ⟨h, Nat.le_refl _, Nat.zero_add _, hd, List.nodup_nil, fun _ z => absurd z List.not_mem_nil, fun _ z => absurd z List.not_mem_nil, fun _ _ z => absurd z List.not_mem_nil⟩
theorem deep_none (hp : p ∈ ks) (hk : ∀ q ∈ ks, ∀ r, T rows q = some r → r.depth ≤ n) (hd : Deep rows p l) (hn : n ≤ l) : T rows p = none := by
  rcases hd with h | h
  · exact h
  · cases e : T rows p with
    | none => rfl
    | some r =>
      have := hk p hp r e
      unfold dpt at h
      rw [e] at h
      dsimp only at h
      omega
/-- a turn of rounds -/
theorem SudI.jump (I : SudI rows ks n L0 p0 p l s E) (clo : Closed rows ks) (hk : ∀ q ∈ ks, ∀ r, T rows q = some r → r.depth ≤ n) (hl : n < l) {f b : Nat} (he : (p, f, b) ∈ E) :
    l < f ∧ b ≤ s ∧ (l - n) / (f - l) * (f - l) ≤ l - n ∧ SudI rows ks n L0 p0 p (l - (l - n) / (f - l) * (f - l)) (s + (l - n) / (f - l) * (s - b)) [] := by
  obtain ⟨j, e1, e2, e3, e4⟩ := I.pas hl _ he
  dsimp only at e1 e2 e3 e4
  have hm : f - l = j + 1 := by omega
  have hdiv : (l - n) / (f - l) * (f - l) ≤ l - n := Nat.div_mul_le_self _ _
  refine ⟨by omega, by omega, hdiv, I.inks, by have := I.le; omega, ?_, .inl e4, List.nodup_nil, fun _ z => absurd z List.not_mem_nil, fun _ z => absurd z List.not_mem_nil, fun _ _ z => absurd z List.not_mem_nil⟩
  have hloop := sud_loop (rows := rows) (p := p) (D := n) (m := f - l) (S := fun q => q ∈ ks) (fun q hq hT => by
    obtain ⟨cs, c, e, _, _⟩ := kids_endless (T_none_iff.mp hT)
    have hc : c ∈ ks := clo q hq c (by rw [e]; simp)
    have : nx rows q = c := by unfold nx; rw [e]; simp
    show nx rows q ∈ ks
    rw [this]; exact hc) (fun q hq c hc r hr => hk c (clo q hq c hc) r hr) e4 I.inks (by rw [hm]; exact e2.symm) ((l - n) / (f - l)) (l - (l - n) / (f - l) * (f - l)) (by omega)
  rw [show l - (l - n) / (f - l) * (f - l) + (l - n) / (f - l) * (f - l) = l by omega] at hloop
  have ht := I.tot
  have hs : s - b = csts rows (f - l) p := by rw [hm]; omega
  rw [hs]
  omega
/-- a turn's step, to the first child that is too deep -/
theorem SudI.step (I : SudI rows ks n L0 p0 p (l + 1) s E) (clo : Closed rows ks) (hk : ∀ q ∈ ks, ∀ r, T rows q = some r → r.depth ≤ n) {i : Nat} {c : Pr} (hc : (kids rows p)[i]? = some c) (hd : Deep rows c l) (hn : ∀ q ∈ (kids rows p).take i, ¬ Deep rows q l)
    {E' : List (Pr × Nat × Nat)} (hE : E' = E ∨ (E' = E ++ [(p, l + 1, s)] ∧ p ∉ E.map (·.1))) : SudI rows ks n L0 p0 c l (s + 1 + (((kids rows p).take i).map (stp rows)).sum) E' := by
  have hck : c ∈ ks := clo p I.inks c (List.mem_of_getElem? hc)
  obtain ⟨hi, ec⟩ := List.getElem?_eq_some_iff.mp hc
  have esplit : kids rows p = (kids rows p).take i ++ c :: (kids rows p).drop (i + 1) := by
    rw [← ec, ← List.drop_eq_getElem_cons hi, List.take_append_drop]
  have hsud : sud rows (l + 1) p = 1 + ((((kids rows p).take i).map (stp rows)).sum + sud rows l c) := by
    show 1 + walkK rows (sud rows l) l (kids rows p) = _
    have : walkK rows (sud rows l) l (kids rows p) = (((kids rows p).take i).map (stp rows)).sum + walkK rows (sud rows l) l (c :: (kids rows p).drop (i + 1)) := by
      conv => lhs; rw [esplit]
      exact walkK_app _ _ hn
    rw [this, walkK_pos hd]
  have key : n < l → T rows p = none ∧ c = nx rows p ∧ 1 + (((kids rows p).take i).map (stp rows)).sum = cst rows p := fun hnl => by
    have hT := deep_none I.inks hk I.deep (by omega)
    obtain ⟨cs, cl, e, h1, h2⟩ := kids_endless (T_none_iff.mp hT)
    have hlen : (kids rows p).length = cs.length + 1 := by rw [e]; simp
    have hics : i = cs.length := by
      refine Classical.byContradiction fun z => ?_
      have hlt : i < cs.length := by omega
      have hcc : c ∈ cs := by
        rw [e, List.getElem?_append_left hlt] at hc
        exact List.mem_of_getElem? hc
      obtain ⟨r, hr⟩ := h2 c hcc
      rw [deep_none hck hk hd (by omega)] at hr
      cases hr
    have htk : (kids rows p).take i = cs := by rw [e, hics]; simp
    have hcl : c = cl := by
      rw [e, hics] at hc
      simpa using hc.symm
    refine ⟨hT, ?_, ?_⟩
    · unfold nx; rw [e, hcl]; simp
    · unfold cst; rw [htk, e]; simp
  have ht := I.tot
  refine ⟨hck, by have := I.le; omega, by omega, hd, ?_, fun e he => ?_, fun e he => ?_, fun hnl e he => ?_⟩
  · rcases hE with h | ⟨h, hp⟩
    · rw [h]; exact I.nd
    · rw [h, List.map_append, List.nodup_append]
      exact ⟨I.nd, List.nodup_cons.mpr ⟨List.not_mem_nil, List.nodup_nil⟩, fun a ha b hb e => hp (by rw [← (show b = p from List.mem_singleton.mp hb), ← e]; exact ha)⟩
  · rcases hE with h | ⟨h, hp⟩
    · rw [h] at he; exact I.inE e he
    · rw [h] at he
      rcases List.mem_append.mp he with z | z
      · exact I.inE e z
      · rw [List.mem_singleton.mp z]; exact I.inks
  · rcases hE with h | ⟨h, hp⟩
    · rw [h] at he; exact I.leE e he
    · rw [h] at he
      rcases List.mem_append.mp he with z | z
      · exact I.leE e z
      · rw [List.mem_singleton.mp z]; exact I.le
  · obtain ⟨k1, k2, k3⟩ := key hnl
    have old : e ∈ E → ∃ j, e.2.1 = l + (j + 1) ∧ c = nxs rows (j + 1) e.1 ∧ s + 1 + (((kids rows p).take i).map (stp rows)).sum = e.2.2 + csts rows (j + 1) e.1 ∧ T rows e.1 = none := fun he => by
      obtain ⟨j, a1, a2, a3, a4⟩ := I.pas (by omega) e he
      refine ⟨j + 1, by omega, ?_, ?_, a4⟩
      · show c = nx rows (nxs rows (j + 1) e.1)
        rw [← a2]; exact k2
      · show _ = e.2.2 + (csts rows (j + 1) e.1 + cst rows (nxs rows (j + 1) e.1))
        rw [← a2]
        omega
    rcases hE with h | ⟨h, hp⟩
    · rw [h] at he; exact old he
    · rw [h] at he
      rcases List.mem_append.mp he with z | z
      · exact old z
      · rw [List.mem_singleton.mp z]
        refine ⟨0, rfl, k2, ?_, k1⟩
        show _ = s + (0 + cst rows p)
        omega
end
end Rg
end
section
set_option Elab.async false
set_option linter.all false
set_option maxRecDepth 100000
set_option maxHeartbeats 4000000
set_option exponentiation.threshold 1000
/-! Steps until too deep. -/
namespace Rg
open PySem PySem.Spec PyProof.Rows L2
/-- a statement, then what is kept, then the rest -/
def tMid (t u : TS) : TS := fun D σ H => ∃ R : L2.St → Hp → Prop, t { D with nx := R } σ H ∧ ∀ σ' H', R σ' H' → u D σ' H'
theorem pss_mid {X : Cx} {st : Stmt} {rest : List Stmt} {t u : TS} (h1 : PS X st t) (h2 : PSs X rest u) : PSs X (st :: rest) (tMid t u) := by
  refine ⟨fun pins s σ H D I h => ?_⟩
  obtain ⟨R, ha, hb⟩ := h
  refine wpAny_execs_cons (thn (h1.run pins s σ H { D with nx := R } I ha) fun f s1 q => ?_)
  cases f with
  | next =>
    obtain ⟨σ', H', I', q⟩ := q
    exact h2.run pins s1 σ' H' D I' (hb _ _ q)
  | ret v => exact q
  | brk => exact q
  | cont => exact q
/-- what has been passed, as the dict's entries -/
def PasE (H : Hp) (kv : List L2.Key × V) (e : Pr × Nat × Nat) : Prop := kv.1 = kp e.1 ∧ ∃ t, kv.2 = .ref t ∧ H t = some (.tup [.int (e.2.1 : Int), .int (e.2.2 : Int)])
def PasAt (H : Hp) (pd : Addr) (E : List (Pr × Nat × Nat)) : Prop := ∃ kvs, H pd = some (.dT kvs) ∧ Paired (PasE H) kvs E
theorem PasAt.same {H H' : Hp} (s : Same H H') {pd : Addr} {E : List (Pr × Nat × Nat)} (h : PasAt H pd E) : PasAt H' pd E := by
  obtain ⟨kvs, e, r⟩ := h
  exact ⟨kvs, s _ _ e, Paired.mapP r fun _ _ ⟨a, t, b, c⟩ => ⟨a, t, b, s _ _ c⟩⟩
theorem pas_in {H : Hp} : ∀ {kvs : List (List L2.Key × V)} {E : List (Pr × Nat × Nat)} {p : Pr}, Paired (PasE H) kvs E → p ∈ E.map (·.1) → ∃ f b t, (p, f, b) ∈ E ∧ valV kvs (kp p) = some (.ref t) ∧ H t = some (.tup [.int (f : Int), .int (b : Int)])
  | _, _, _, .nil, h => absurd h List.not_mem_nil
  | kv :: kvs, e :: E, p, .cons r t, h => by
    obtain ⟨a, u, b, c⟩ := r
    by_cases hq : e.1 = p
    · exact ⟨e.2.1, e.2.2, u, by rw [← hq]; exact List.mem_cons_self, by rw [valV_pos (by rw [a, hq]), b], c⟩
    · obtain ⟨f, b2, t2, h1, h2, h3⟩ := pas_in (p := p) t (by
        rcases List.mem_cons.mp h with z | z
        · exact absurd z.symm hq
        · exact z)
      exact ⟨f, b2, t2, List.mem_cons_of_mem _ h1, by rw [valV_neg (fun z => hq (kp_inj (a.symm.trans z)))]; exact h2, h3⟩
theorem pas_out {H : Hp} : ∀ {kvs : List (List L2.Key × V)} {E : List (Pr × Nat × Nat)} {p : Pr}, Paired (PasE H) kvs E → p ∉ E.map (·.1) → valV kvs (kp p) = none
  | _, _, _, .nil, _ => rfl
  | kv :: kvs, e :: E, p, .cons r t, h => by
    obtain ⟨a, _⟩ := r
    rw [valV_neg (fun z => h (by rw [← kp_inj (a.symm.trans z)]; exact List.mem_cons_self))]
    exact pas_out t fun z => h (List.mem_cons_of_mem _ z)
section
variable {P : Program} {w : World} {K : PySem.W.Frag} {mg : Str → Option Value} {base : Heap}
def sp_sud (C : Addr) : Sp := fun vs H Q _ => ∃ (v l d t0 : Addr) (n : Nat) (rows : Rows) (ks : List Pr) (p0 : Pr) (L : Nat) (z : Int), vs = [.ref v, .ref t0, .int z] ∧ z = (L : Int) ∧ PrV H t0 p0 ∧ VerAt C H v l d n rows ks ∧ Closed rows ks ∧ p0 ∈ ks ∧ Small rows ∧ L ≤ 10 ^ 30 ∧ Deep rows p0 L ∧
  (∀ H', Same H H' → Q (.int (sud rows L p0 : Nat)) H')
theorem r_sud (T : Tx K mg) : FnR P w K mg base CX0 7 (He.ga K "steps_until_deep") (sp_sud (CV K)) := by
  refine fnr T.F_steps_until_deep c_steps_until_deep (fun vs H Q E h => ?_) (fun _ _ _ _ _ _ us hl => match us, hl with | [_, _, _], _ => rfl) (fun cdv A outer s H vs Q E hr h => ?_)
  · obtain ⟨v, l, d, t0, n, rows, ks, p0, L, z, rfl, _⟩ := h; rfl
  · obtain ⟨v, ll, d, t0, n, rows, ks, p0, L, z, rfl, rfl, ht0, hV, clo, hp, sm, hL, hdp, q⟩ := h
    have nd := c_steps_until_deep.nd
    obtain ⟨te, he⟩ := T.t_ENDLESS
    refine ⟨_, pss_cons (ps_set (i := 3) nd rfl (.inl rfl) pe_int) (pss_cons (ps_set (i := 4) nd rfl (.inl rfl) pe_dnewT)
      (pss_cons (ps_while PassesOwn.never (pt_cmpR op_gt (pv 2) pe_int (nomark _))
        (pss_mid (ps_if (pt_cmpR op_gt (pv 2) (pe_fld (pv 0) rfl) (nomark _))
          (pss_mid (ps_if (pt_cmp (pc_din (u1 hr) (pv 1) (pv 4)))
            (pss_cons (ps_asg (pe_dget (u1 hr) (pv 4) (pv 1) (fun _ _ => rfl)) (pg_tup (n := 2) rfl (pgs_cons (pg_name (i := 5) nd rfl (.inl rfl)) (pgs_cons (pg_name (i := 6) nd rfl (.inl rfl)) pgs_nil))))
            (pss_cons (ps_set (i := 7) nd rfl (.inl rfl) (pe_op op_fdivW (pe_op op_sub (pv 2) (pe_fld (pv 0) rfl)) (pe_op op_sub (pv 5) (pv 2))))
            (pss_cons (ps_par (i := 3) (j := 2) rfl nd rfl rfl (by decide) rfl rfl (pa_cons (pe_op op_add (pv 3) (pe_op op_mulW (pv 7) (pe_op op_sub (pv 3) (pv 6)))) (pa_cons (pe_op op_sub (pv 2) (pe_op op_mulW (pv 7) (pe_op op_sub (pv 5) (pv 2)))) pa_nil)) (by rfl))
            (pss_cons (ps_expr (pe_bm0 PySem.F.plainAttrs_dict PySem.F.slot_dict_clear PySem.F.type_dict_clear mt_clearT (pv 4)))
            (pss_one (ps_if (pt_cmpR op_eq (pv 2) pe_int (nomark _)) (pss_one (ps_ret (pv 3))) pss_nil)))))) pss_nil)
          (pss_one (ps_dput (u1 hr) (pv 4) (pv 1) (pe_tup (pa_cons (pv 2) (pa_cons (pv 3) pa_nil))) rfl))) pss_nil)
        (pss_cons (ps_par (i := 3) (j := 2) rfl nd rfl rfl (by decide) rfl rfl (pa_cons (pe_op op_add (pv 3) pe_int) (pa_cons (pe_op op_sub (pv 2) pe_int) pa_nil)) (by rfl))
        (pss_one (ps_for PassesOwn.never rfl (pi_list (pe_mt (pv 0) T.c_Verdicts T.m_Verdicts_entered_from (r_entered T) hr (pa_cons (pv 1) pa_nil))) (pg_name (i := 8) nd rfl (.inl rfl))
          (pss_cons (ps_asg (pe_mt (pv 0) T.c_Verdicts T.m_Verdicts_of_pair (r_of_pair T) (hr.mono (by decide)) (pa_cons (pv 8) pa_nil)) (pg_tup (n := 4) rfl (pgs_cons (pg_name (i := 9) nd rfl (.inl rfl)) (pgs_cons (pg_name (i := 10) nd rfl (.inl rfl)) (pgs_cons (pg_name (i := 11) nd rfl (.inl rfl)) (pgs_cons (pg_name (i := 12) nd rfl (.inl rfl)) pgs_nil))))))
          (pss_cons (ps_if (PW.pt (pw_or (pt_cmpR op_eq (pv 9) (pe_glob (v := .str (wst .en)) (by rfl) he ⟨_, rfl⟩) (nomark _)) (pw_or1 (pt_cmpR op_gt (pv 11) (pv 2) (nomark _)))))
            (pss_cons (ps_set (i := 1) nd rfl (.inl rfl) (pv 8)) (pss_one ps_break)) pss_nil)
          (pss_one (ps_aug (i := 3) nd rfl (.inl rfl) (pv 10) ip_add)))))))))
      (pss_one (ps_ret (pv 3))))), ?_⟩
    obtain ⟨dx, hv⟩ := hV.1.at_
    have hv : H v = some (.ins (CV K) dx (vf ll d n)) := hv
    have hk := hV.1.deep
    have hS0 : sud rows L p0 ≤ 10 ^ 30 * (4 * big) := Nat.le_trans (sud_le sm L p0) (Nat.mul_le_mul_right _ hL)
    have hB : 10 ^ 30 * (4 * big) < 2 ^ 310 := by unfold big; decide +kernel
    have hL2 : (10 : Nat) ^ 30 < 2 ^ 100 := by decide +kernel
    intro pd hpd
    have s1 : Same H (upd H pd (.dT [])) := same_new hpd
    refine while_m (fun m σ H' => ∃ (t : Addr) (p : Pr) (s : Nat) (E : List (Pr × Nat × Nat)) (o5 o6 o7 o8 o9 o10 o11 o12 : Option V), σ = [some (.ref v), some (.ref t), some (.int (m : Int)), some (.int (s : Int)), some (.ref pd), o5, o6, o7, o8, o9, o10, o11, o12] ∧
      Same H H' ∧ PrV H' t p ∧ PasAt H' pd E ∧ SudI rows ks n L p0 p m s E)
      ⟨L, t0, p0, 0, [], _, _, _, _, _, _, _, _, rfl, s1, ht0.same s1, ⟨[], upd_same, .nil⟩, SudI.start hp hdp⟩ ?_ (fun σ H Q Q' hq h => by
        obtain ⟨x, e, i, j, h1, h2, k, h3, h4⟩ := h
        exact ⟨x, e, i, j, h1, h2, k, h3, hq _ _ h4⟩)
    rintro m σ H1 ⟨t, p, s, E, o5, o6, o7, o8, o9, o10, o11, o12, rfl, sH1, ht, hpas, I⟩
    refine ⟨_, rfl, _, _, rfl, rfl, _, rfl, ?_⟩
    refine ite2 (fun em => ?_) (fun em => ?_)
    · have hm : 0 < m := by have := of_decide_eq_true em; omega
      -- what the first if leaves
      refine ⟨fun σ1 H2 => ∃ (l1 s1 : Nat) (E1 E' : List (Pr × Nat × Nat)) (o5 o6 o7 : Option V), σ1 = [some (.ref v), some (.ref t), some (.int ((l1 + 1 : Nat) : Int)), some (.int (s1 : Int)), some (.ref pd), o5, o6, o7, o8, o9, o10, o11, o12] ∧
        l1 + 1 ≤ m ∧ Same H H2 ∧ PrV H2 t p ∧ PasAt H2 pd E' ∧ SudI rows ks n L p0 p (l1 + 1) s1 E1 ∧ (E' = E1 ∨ (E' = E1 ++ [(p, l1 + 1, s1)] ∧ p ∉ E1.map (·.1))), ?_, ?_⟩
      · refine ⟨_, rfl, _, rfl, v, _, dx, _, _, rfl, sH1 _ _ hv, T.c_Verdicts, T.n_Verdicts_deepest, vf_deepest _ _ _, _, _, rfl, rfl, _, rfl, ?_⟩
        refine ite2 (fun en => ?_) (fun en => ?_)
        · have hn : n < m := by have := of_decide_eq_true en; omega
          obtain ⟨kvs, hkv, pr⟩ := hpas
          have gd := DGet.t hkv ht.key
          refine ⟨fun σ1 H2 => ∃ (l1 s1 : Nat) (E1 : List (Pr × Nat × Nat)) (o5 o6 o7 : Option V), σ1 = [some (.ref v), some (.ref t), some (.int ((l1 + 1 : Nat) : Int)), some (.int (s1 : Int)), some (.ref pd), o5, o6, o7, o8, o9, o10, o11, o12] ∧
            l1 + 1 ≤ m ∧ Same H H2 ∧ PrV H2 t p ∧ PasAt H2 pd E1 ∧ SudI rows ks n L p0 p (l1 + 1) s1 E1 ∧ p ∉ E1.map (·.1), ?_, ?_⟩
          · refine ⟨_, rfl, _, rfl, pd, _, rfl, gd, _, rfl, ?_⟩
            by_cases hpE : p ∈ E.map (·.1)
            · obtain ⟨f, b, tt, he1, he2, he3⟩ := pas_in pr hpE
              rw [he2] at gd ⊢
              refine iteT ?_
              obtain ⟨j1, j2, j3, j4⟩ := I.jump clo hk hn he1
              refine ⟨_, rfl, _, rfl, pd, _, rfl, gd, tt, _, rfl, .of he3, rfl, _, _, rfl, _, _, rfl, rfl, ?_⟩
              have ef : ((f : Int) - (m : Int)) = ((f - m : Nat) : Int) := by omega
              have en1 : ((m : Int) - (n : Int)) = ((m - n : Nat) : Int) := by omega
              have er : ((m : Int) - (n : Int)) / ((f : Int) - (m : Int)) = (((m - n) / (f - m) : Nat) : Int) := by rw [ef, en1]; rfl
              have es : ((s : Int) - (b : Int)) = ((s - b : Nat) : Int) := by omega
              have hfL : f ≤ L := I.leE _ he1
              have hsS : s ≤ sud rows L p0 := by have := I.tot; omega
              have hmL := I.le
              refine ⟨_, rfl, _, rfl, v, _, dx, _, _, rfl, sH1 _ _ hv, T.c_Verdicts, T.n_Verdicts_deepest, vf_deepest _ _ _, _, _, rfl, rfl, _, rfl, _, rfl, _, _, rfl, rfl, _, _, rfl, rfl, ?_, ?_⟩
              · exact wide_div (b := 100) (by omega) (by rw [ef]; show f - m < 2 ^ 100; omega) (by decide) (by decide)
              show gName 7 (.int (((m : Int) - (n : Int)) / ((f : Int) - (m : Int)))) _ _ _
              rw [er]
              have hR : (m - n) / (f - m) < 2 ^ 100 := Nat.lt_of_le_of_lt (Nat.div_le_self _ _) (by omega)
              have w1 : CMulW (((m - n) / (f - m) : Nat) : Int) ((s : Int) - (b : Int)) := by
                rw [es]
                exact wide_mul (a := 100) (b := 310) hR (show s - b < 2 ^ 310 by omega) (by decide) (by decide) (by decide)
              have w2 : CMulW (((m - n) / (f - m) : Nat) : Int) ((f : Int) - (m : Int)) := by
                rw [ef]
                exact wide_mul (a := 100) (b := 100) hR (show f - m < 2 ^ 100 by omega) (by decide) (by decide) (by decide)
              have e3 : (s : Int) + (((m - n) / (f - m) : Nat) : Int) * ((s : Int) - (b : Int)) = ((s + (m - n) / (f - m) * (s - b) : Nat) : Int) := by
                rw [es]; rfl
              have e4 : (m : Int) - (((m - n) / (f - m) : Nat) : Int) * ((f : Int) - (m : Int)) = ((m - (m - n) / (f - m) * (f - m) : Nat) : Int) := by
                have e5 : ((m - (m - n) / (f - m) * (f - m) : Nat) : Int) = (m : Int) - (((m - n) / (f - m) * (f - m) : Nat) : Int) := by omega
                rw [ef, e5]; rfl
              refine ⟨_, rfl, _, rfl, _, rfl, _, rfl, _, _, rfl, rfl, _, _, rfl, rfl, w1, _, _, rfl, rfl, _, rfl, _, rfl, _, rfl, _, rfl, _, _, rfl, rfl, _, _, rfl, rfl, w2, _, _, rfl, rfl,
                .int ((s + (m - n) / (f - m) * (s - b) : Nat) : Int), .int ((m - (m - n) / (f - m) * (f - m) : Nat) : Int), ?_, ?_⟩
              · show [V.int ((s : Int) + (((m - n) / (f - m) : Nat) : Int) * ((s : Int) - (b : Int))), V.int ((m : Int) - (((m - n) / (f - m) : Nat) : Int) * ((f : Int) - (m : Int)))] = _
                rw [e3, e4]
              generalize hml : m - (m - n) / (f - m) * (f - m) = m2 at *
              generalize hs2 : s + (m - n) / (f - m) * (s - b) = s2 at *
              refine ⟨_, rfl, .inr (.inr (.inl ⟨rfl, .inr ⟨_, hkv⟩⟩)), pd, kvs, rfl, rfl, hkv, ?_⟩
              refine ⟨_, rfl, rfl, _, rfl, ?_⟩
              have sH2 : Same H (upd H1 pd (.dT [])) := same_put sH1 hpd
              by_cases hz : m2 = 0
              · have e5 : decide (V.int (m2 : Int) = V.int 0) = true := decide_eq_true (by rw [hz]; rfl)
                rw [e5]
                refine iteT ⟨_, rfl, ?_⟩
                have ht3 := j4.tot
                rw [hz, show sud rows 0 p = 0 from rfl, Nat.add_zero] at ht3
                rw [ht3]
                exact q _ sH2
              · have e5 : decide (V.int (m2 : Int) = V.int 0) = false := decide_eq_false (fun z => hz (Int.ofNat.inj (V.int.inj z)))
                rw [e5]
                obtain ⟨l1, rfl⟩ : ∃ l1, m2 = l1 + 1 := ⟨m2 - 1, by omega⟩
                refine iteF ⟨l1, s2, [], _, _, _, rfl, by omega, sH2, ?_, ⟨[], upd_same, .nil⟩, j4, List.not_mem_nil⟩
                exact PrV.off (S := [pd]) (Off.put (by simp)) (fun b hb xs => by rw [List.mem_singleton.mp hb, hkv]; exact fun z => nomatch z) ht
            · rw [pas_out pr hpE]
              obtain ⟨l1, rfl⟩ : ∃ l1, m = l1 + 1 := ⟨m - 1, by omega⟩
              exact iteF ⟨l1, s, E, _, _, _, rfl, Nat.le_refl _, sH1, ht, ⟨kvs, hkv, pr⟩, I, hpE⟩
          · rintro σ1 H2 ⟨l1, s1, E1, o5, o6, o7, rfl, hl1, sH2, ht2, ⟨kvs2, hkv2, pr2⟩, I2, hpE⟩
            refine ⟨_, rfl, _, rfl, by show 2 ≤ sizeLine; decide, fun tt htt => ?_⟩
            have pdtt : pd ≠ tt := ne_of_none hkv2 htt
            have hlen : kvs2.length < sizeLine := by
              rw [Paired.length pr2]
              have := nodup_pairs (rows := rows) I2.nd fun q hq => by
                obtain ⟨e, he, ee⟩ := List.mem_map.mp hq
                rw [← ee]
                exact hV.1.inr _ (I2.inE e he)
              rw [List.length_map] at this
              exact Nat.lt_of_le_of_lt (Nat.le_trans this (Nat.mul_le_mul sm.ten sm.ten)) (by decide)
            refine ⟨_, rfl, _, rfl, pd, _, rfl, DPut.t (by rw [upd_ne pdtt]; exact hkv2) ((same_new htt) _ _ ht2.key) hlen, ?_⟩
            have s5 : Same H (upd H2 tt (.tup [.int ((l1 + 1 : Nat) : Int), .int (s1 : Int)])) := sH2.trans (same_new htt)
            refine ⟨l1, s1, E1, _, o5, o6, o7, rfl, hl1, same_put s5 hpd, ?_, ⟨kvs2 ++ [(kp p, .ref tt)], ?_, ?_⟩, I2, .inr ⟨rfl, hpE⟩⟩
            · exact PrV.off (S := [pd]) (Off.put (by simp)) (fun b hb xs => by rw [List.mem_singleton.mp hb, upd_ne pdtt, hkv2]; exact fun z => nomatch z) (ht2.same (same_new htt))
            · rw [putK_new _ (pas_out pr2 hpE)]; exact upd_same
            · refine Paired.app (Paired.mapP pr2 fun kv e ⟨a, u, b, c⟩ => ⟨a, u, b, ?_⟩) (.cons ⟨rfl, tt, rfl, ?_⟩ .nil)
              · rw [upd_ne (ne_of c hkv2 (fun z => nomatch z)), upd_ne (ne_of_none c htt)]; exact c
              · rw [upd_ne pdtt.symm, upd_same]
        · obtain ⟨l1, rfl⟩ : ∃ l1, m = l1 + 1 := ⟨m - 1, by omega⟩
          exact ⟨l1, s, E, E, _, _, _, rfl, Nat.le_refl _, sH1, ht, hpas, I, .inl rfl⟩
      · rintro σ1 H2 ⟨l1, s1, E1, E', o5, o6, o7, rfl, hl1, sH2, ht2, hpas2, I2, hE⟩
        have e1 : ((l1 + 1 : Nat) : Int) - 1 = (l1 : Int) := by omega
        have e2 : (s1 : Int) + 1 = ((s1 + 1 : Nat) : Int) := by omega
        refine ⟨_, rfl, _, _, rfl, rfl, _, rfl, _, _, rfl, rfl, .int ((s1 + 1 : Nat) : Int), .int (l1 : Int), ?_, ?_⟩
        · show [V.int ((s1 : Int) + 1), V.int (((l1 + 1 : Nat) : Int) - 1)] = _
          rw [e1, e2]
        refine ⟨_, rfl, v, dx, _, rfl, sH2 _ _ hv, rfl, _, rfl, v, ll, d, t, n, rows, ks, p, rfl, ht2, hV.same sH2, clo, I2.inks, sm, fun H3 a ts s3 ha pts => ⟨a, rfl, ⟨_, .of ha⟩, ?_⟩⟩
        refine for_list (xs := ts.map V.ref) (fun i σ H4 => ∃ (o8 o9 o10 o11 o12 : Option V), σ = [some (.ref v), some (.ref t), some (.int (l1 : Int)), some (.int ((s1 + 1 + (((kids rows p).take i).map (stp rows)).sum : Nat) : Int)), some (.ref pd), o5, o6, o7, o8, o9, o10, o11, o12] ∧
          Same H3 H4 ∧ ∀ q ∈ (kids rows p).take i, ¬ Deep rows q l1) ⟨o8, o9, o10, o11, o12, by simp, Same.refl _, fun q hq => by simp at hq⟩ (fun i σ H4 _ ⟨_, _, _, _, _, _, s4, _⟩ => .of (s4 _ _ ha)) ?_ ?_
        · rintro i x σ H4 hx ⟨o8, o9, o10, o11, o12, rfl, s4, hnd⟩
          obtain ⟨u, hu, rfl⟩ : ∃ u, ts[i]? = some u ∧ x = V.ref u := by
            rw [List.getElem?_map] at hx
            cases e : ts[i]? with
            | none => rw [e] at hx; cases hx
            | some u => rw [e] at hx; exact ⟨u, rfl, (Option.some.inj hx).symm⟩
          obtain ⟨c, hc, hcu⟩ := Paired.at1 pts hu
          have hck : c ∈ ks := clo p I2.inks c (List.mem_of_getElem? hc)
          have sH4 : Same H H4 := (sH2.trans s3).trans s4
          refine ⟨_, rfl, v, dx, _, rfl, sH4 _ _ hv, rfl, _, rfl, v, ll, d, u, n, rows, ks, c, rfl, hcu.same s4, hV.same sH4, clo, hV.1.inr c hck, sm, fun _ H5 t5 s5 ht5 => ?_, fun z => absurd hck z⟩
          have fin : Deep rows c l1 → SudI rows ks n L p0 c l1 (s1 + 1 + (((kids rows p).take i).map (stp rows)).sum) E' := fun hd => I2.step clo hk hc hd hnd hE
          have sH5 : Same H H5 := sH4.trans s5
          have pas5 : PasAt H5 pd E' := ((hpas2.same s3).same s4).same s5
          have lt : l1 < m := by omega
          by_cases hw : (vd rows c).wd = .en
          · rw [vtup_en hw] at ht5
            refine ⟨t5, _, rfl, .of ht5, rfl, _, _, rfl, _, _, rfl, _, _, rfl, _, _, rfl, rfl, ?_⟩
            refine ⟨_, rfl, rfl, _, rfl, ?_⟩
            have e9 : decide (V.str "endless" = V.str (wst .en)) = true := decide_eq_true rfl
            rw [e9]
            exact iteT (iteT ⟨_, rfl, l1, lt, u, c, _, E', _, _, _, _, _, _, _, _, rfl, sH5, (hcu.same s4).same s5, pas5, fin (deep_iff.mpr (.inl hw))⟩)
          · rw [vtup_ne hw] at ht5
            refine ⟨t5, _, rfl, .of ht5, rfl, _, _, rfl, _, _, rfl, _, _, rfl, _, _, rfl, rfl, ?_⟩
            refine ⟨_, rfl, rfl, _, rfl, ?_⟩
            have e9 : decide (V.str (wst (vd rows c).wd) = V.str (wst .en)) = false := (wst_en _).trans (decide_eq_false hw)
            rw [e9]
            refine iteF ⟨_, rfl, _, rfl, _, _, rfl, rfl, _, rfl, ?_⟩
            by_cases hdp2 : l1 < (vd rows c).depth
            · have e10 : decide ((l1 : Int) < ((vd rows c).depth : Int)) = true := decide_eq_true (by omega)
              rw [e10]
              exact iteT ⟨_, rfl, l1, lt, u, c, _, E', _, _, _, _, _, _, _, _, rfl, sH5, (hcu.same s4).same s5, pas5, fin (deep_iff.mpr (.inr hdp2))⟩
            · have e10 : decide ((l1 : Int) < ((vd rows c).depth : Int)) = false := decide_eq_false (by omega)
              rw [e10]
              have ex : ((s1 + 1 + (((kids rows p).take i).map (stp rows)).sum : Nat) : Int) + ((vd rows c).steps : Int) = ((s1 + 1 + (((kids rows p).take (i + 1)).map (stp rows)).sum : Nat) : Int) := by
                have et : (kids rows p).take (i + 1) = (kids rows p).take i ++ [c] := by rw [List.take_add_one, hc]; rfl
                have ec : (List.map (stp rows) [c]).sum = (vd rows c).steps := by simp [stp_vd hw]
                rw [et, List.map_append, List.sum_append, ec]
                omega
              refine iteF ⟨_, rfl, _, rfl, _, _, rfl, rfl, some (.ref u), some (.str (wst (vd rows c).wd)), some (.int ((vd rows c).steps : Int)), some (.int ((vd rows c).depth : Int)), some (.int (vd rows c).place), ?_, s4.trans s5, ?_⟩
              · rw [← ex]
                rfl
              · intro q hq
                rw [List.take_add_one, hc] at hq
                rcases List.mem_append.mp hq with z | z
                · exact hnd q z
                · cases List.mem_singleton.mp z
                  rw [deep_iff]
                  exact fun z => z.elim hw hdp2
        · rintro σ H4 ⟨o8, o9, o10, o11, o12, rfl, s4, hnd⟩
          exfalso
          rw [List.length_map, Paired.length pts, List.take_of_length_le (Nat.le_refl _)] at hnd
          obtain ⟨c, hc, hcd⟩ := deep_kid I2.deep
          exact hnd c hc hcd
    · have hm : m = 0 := by
        have : ¬ (0 : Int) < (m : Int) := fun h => em (decide_eq_true h)
        omega
      subst hm
      refine ⟨_, rfl, ?_⟩
      have ht := I.tot
      rw [show sud rows 0 p = 0 from rfl, Nat.add_zero] at ht
      rw [ht]
      exact q _ sH1
end
end Rg
end
section
set_option Elab.async false
set_option linter.all false
set_option maxRecDepth 100000
set_option maxHeartbeats 4000000
/-! The heap of lists: what its defs do. -/
namespace Rg
open PySem PySem.Spec PyProof.Rows L2
theorem walkB {K : PySem.W.Frag} {a : Addr} {xs : List V} {B : V → Hp → (Hp → Prop) → Prop} {Qd : Hp → Prop} {H0 : Hp} (Pv : Nat → Hp → Prop) (h0 : Pv 0 H0) (hl : ∀ i H, i ≤ xs.length → Pv i H → SqL K H a xs)
    (hs : ∀ i x H, xs[i]? = some x → Pv i H → B x H (Pv (i + 1))) (hd : ∀ H, Pv xs.length H → Qd H) :
    ∃ W : Nat → Nat → Hp → Prop, (∃ m, W 0 m H0) ∧ ∀ i m H, W i m H →
      ((Itl K a).stop i H ∧ Qd H) ∨ ((Itl K a).go i H ∧ ∃ Nx : Hp → Prop, (∀ H', Nx H' → ∃ m', m' < m ∧ W (i + 1) m' H') ∧ ∀ x H', (Itl K a).yld i H x H' → B x H' Nx) := by
  refine ⟨fun i m H => m = xs.length - i ∧ i ≤ xs.length ∧ Pv i H, ⟨xs.length, by simp, Nat.zero_le _, h0⟩, ?_⟩
  rintro i m H ⟨rfl, hi, p⟩
  have q := hl i H hi p
  by_cases hlt : i < xs.length
  · refine .inr ⟨⟨xs, xs[i], q, by simp [hlt]⟩, Pv (i + 1), fun H' p' => ⟨xs.length - (i + 1), by omega, rfl, hlt, p'⟩, fun x H' y => ?_⟩
    obtain ⟨rfl, y2⟩ := y
    exact hs i x H' (y2 xs q) p
  · have e : i = xs.length := by omega
    subst e
    exact .inl ⟨⟨xs, q, Nat.le_refl _⟩, hd H p⟩
theorem fns {P : Program} {w : World} {K : PySem.W.Frag} {mg : Str → Option Value} {base : Heap} {x q : Str} {st : Stmt} {f : Addr} {N ps : List Str} {pv : Str} {k : Nat} {sp : Sp} (F : FnQ K x q st [] f) (S : FnScope N (ps ++ [pv]) (defScope st))
    (hb : ∀ (kV doc pm : Value) (an : Option Addr) (cdv ct : Value) (us rest : List Value), us.length = ps.length → bindArgs (PySem.W.fnOf x q (defArgs st) (defBody st) (defScope st) .none kV doc pm an cdv ct) ⟨us ++ rest, []⟩ = (newTuple rest >>= fun t => pure (ps.zip us ++ [(pv, t)])))
    (hbody : ∀ (cdv : Value) (A : Around) (outer : List Env) (s : Shared) (H : Hp) (vs : List V) (Q : VK) (E : XK), Room k (A.deeper (envOfC q (defScope st) s.heap.objs.size f cdv)) → sp vs H Q E →
      ∃ t, PSs (cxOf CX0 P w K mg base N q (defScope st) f cdv A outer s H E).nox (defBody st) t ∧ t { nx := fun _ H' => Q .non H', rt := Q } (start N vs) H) :
    FnR P w K mg base CX0 (k + 1) f (fun vs H Q E => ∃ ws rest, vs = ws ++ rest ∧ ws.length = ps.length ∧ rest.length ≤ sizeLine ∧ ∀ p, H p = Option.none → sp (ws ++ [V.ref p]) (upd H p (.tup rest)) Q E) := by
  obtain ⟨fd, F⟩ := F
  obtain ⟨oc, od, dV, kV, doc, pm, an, cdv, ct, osl, rfl, lk, hcd, hD, hK⟩ := F.ex
  rcases hD with ⟨_, rfl⟩ | ⟨e, _⟩
  · refine StX.fn_star lk hcd S StX.cxUp_none (fun us rest hl => hb kV doc pm an cdv ct us rest hl) (fun A outer s H vs Q E hr h => ?_)
    obtain ⟨t, ht, hq⟩ := hbody cdv A outer s H vs Q E hr h
    exact ⟨t, PSs.nox ht, hq⟩
  · exact absurd rfl e
section
variable {P : Program} {w : World} {K : PySem.W.Frag} {mg : Str → Option Value} {base : Heap}
abbrev CH (K : PySem.W.Frag) : Addr := He.ga K "Heap"
theorem hf_lists (l : Addr) : ([("lists", V.ref l)] : List (Str × V)).lookup ("lists" : Str) = some (V.ref l) := rfl
def sp_H_contains (C : Addr) : Sp := fun vs H Q _ => ∃ (h : Addr) (rows : Rows) (z : Int) (k : Nat), vs = [.ref h, .int z] ∧ z = (k : Int) ∧ (∃ dx l ps, H h = some (.ins C dx [("lists", V.ref l)]) ∧ H l = some (.lst (ps.map V.ref)) ∧ k < (ps : List Addr).length) ∧ Q (.bl true) H
theorem r_H_contains (T : Tx K mg) : FnR P w K mg base CX0 3 (He.ma K (CH K) "__contains__") (sp_H_contains (CH K)) := by
  refine fnr T.FH_contains cH_contains (fun vs H Q E h => ?_) (fun _ _ _ _ _ _ us hl => match us, hl with | [_, _], _ => rfl) (fun cdv A outer s H vs Q E hr h => ?_)
  · obtain ⟨h, rows, z, k, rfl, _⟩ := h; rfl
  · obtain ⟨h, rows, z, k, rfl, rfl, ⟨dx, l, ps, hh, hl, hk⟩, q⟩ := h
    refine ⟨_, pss_one (ps_ret (pe_fn (r_is_within T) hr (by rfl) T.g_is_within (kpq T.F_is_within) (pa_cons (pv 1) (pa_cons pe_int (pa_cons (pe_op op_sub (pe_callB call_len_seq (by rfl) T.z_len boot_len (pa_cons (pe_fld (pv 0) rfl) pa_nil)) pe_int) pa_nil))))), ?_⟩
    refine ⟨_, rfl, _, rfl, h, _, dx, _, _, rfl, hh, T.c_Heap, T.n_Heap_lists, hf_lists _, l, _, rfl, .inl (.of hl), _, _, rfl, rfl, _, _, _, rfl, ?_⟩
    have e : decide ((0 : Int) ≤ (k : Int) ∧ (k : Int) ≤ ((ps.map V.ref).length : Int) - 1) = true := decide_eq_true ⟨by omega, by rw [List.length_map]; omega⟩
    rw [e]
    exact q
/-- a box that is there -/
def BoxAt (C : Addr) (H : Hp) (h : Addr) (k : Nat) : Prop := ∃ dx l ps, H h = some (.ins C dx [("lists", V.ref l)]) ∧ H l = some (.lst (ps.map V.ref)) ∧ k < (ps : List Addr).length
theorem HeapAt.box {C : Addr} {H : Hp} {h : Addr} {rows : Rows} (x : HeapAt C H h rows) {k : Nat} (hk : k < rows.length) : BoxAt C H h k := by
  obtain ⟨dx, l, hh, ps, hl, r⟩ := x
  exact ⟨dx, l, ps, hh, hl, by rw [Paired.length r]; exact hk⟩
def sp_need_box (C : Addr) : Sp := fun vs H Q _ => ∃ (h : Addr) (z : Int) (k : Nat), vs = [.ref h, .int z] ∧ z = (k : Int) ∧ BoxAt C H h k ∧ Q .non H
theorem r_need_box (T : Tx K mg) : FnR P w K mg base CX0 4 (He.ma K (CH K) "need_box") (sp_need_box (CH K)) := by
  refine fnr T.FH_need_box cH_need_box (fun vs H Q E h => ?_) (fun _ _ _ _ _ _ us hl => match us, hl with | [_, _], _ => rfl) (fun cdv A outer s H vs Q E hr h => ?_)
  · obtain ⟨h, z, k, rfl, _⟩ := h; rfl
  · obtain ⟨h, z, k, rfl, rfl, hB, q⟩ := h
    obtain ⟨dx, l, ps, hh, hl, hk⟩ := id hB
    refine ⟨_, pss_one (ps_if (pt_cmpR (op_notInO T.m_Heap_contains (r_H_contains T) hr) (pv 1) (pv 0) (by with_unfolding_all rfl)) pss_never pss_nil), ?_⟩
    exact ⟨_, rfl, _, rfl, h, dx, _, rfl, hh, ⟨h, [], _, k, rfl, rfl, hB, true, rfl, _, rfl, iteF q⟩⟩
def sp_need_place (C : Addr) : Sp := fun vs H Q _ => ∃ (h : Addr) (zk zj zm : Int) (k j m : Nat) (dx l p : Addr) (ps : List Addr) (xs : List V), vs = [.ref h, .int zk, .int zj, .int zm] ∧ zk = (k : Int) ∧ zj = (j : Int) ∧ zm = (m : Int) ∧
  H h = some (.ins C dx [("lists", V.ref l)]) ∧ H l = some (.lst (ps.map V.ref)) ∧ ps[k]? = some p ∧ H p = some (.lst xs) ∧ j + 1 ≤ xs.length + m ∧ Q .non H
theorem r_need_place (T : Tx K mg) : FnR P w K mg base CX0 3 (He.ma K (CH K) "need_place") (sp_need_place (CH K)) := by
  refine fnr T.FH_need_place cH_need_place (fun vs H Q E h => ?_) (fun _ _ _ _ _ _ us hl => match us, hl with | [_, _, _, _], _ => rfl) (fun cdv A outer s H vs Q E hr h => ?_)
  · obtain ⟨h, zk, zj, zm, k, j, m, dx, l, p, ps, xs, rfl, _⟩ := h; rfl
  · obtain ⟨h, zk, zj, zm, k, j, m, dx, l, p, ps, xs, rfl, rfl, rfl, rfl, hh, hl, hp, hx, hj, q⟩ := h
    refine ⟨_, pss_one (ps_if (pt_not (pt_val (pe_fn (r_is_within T) hr (by rfl) T.g_is_within (kpq T.F_is_within) (pa_cons (pv 2) (pa_cons pe_int (pa_cons (pe_op op_add (pe_op op_sub (pe_callB call_len_seq (by rfl) T.z_len boot_len (pa_cons (pe_ix ix_list (pe_fld (pv 0) rfl) (pv 1) (fun _ _ => rfl)) pa_nil)) pe_int) (pv 3)) pa_nil)))))) pss_never pss_nil), ?_⟩
    refine ⟨_, rfl, _, rfl, h, _, dx, _, _, rfl, hh, T.c_Heap, T.n_Heap_lists, hf_lists _, _, rfl, l, _, _, _, rfl, rfl, .of hl, atI_nat (by rw [List.getElem?_map, hp]; rfl), p, _, rfl, .inl (.of hx), _, _, rfl, rfl, _, rfl, _, _, rfl, rfl, _, _, _, rfl, ?_⟩
    have e : decide ((0 : Int) ≤ (j : Int) ∧ (j : Int) ≤ (xs.length : Int) - 1 + (m : Int)) = true := decide_eq_true ⟨by omega, by omega⟩
    rw [e]
    exact ⟨_, rfl, iteF q⟩
def sp_need_item (C : Addr) : Sp := fun vs H Q _ => ∃ (h : Addr) (x : V) (it : Item) (rows : Rows), vs = [.ref h, x, .int 0] ∧ HeapAt C H h rows ∧ ItV H x it ∧ GoodI rows.length it ∧ ∀ H', Same H H' → Q .non H'
theorem r_need_item (T : Tx K mg) : FnR P w K mg base CX0 5 (He.ma K (CH K) "need_item") (sp_need_item (CH K)) := by
  refine fnr T.FH_need_item cH_need_item (fun vs H Q E h => ?_) (fun _ _ _ _ _ _ us hl => match us, hl with | [_, _, _], _ => rfl) (fun cdv A outer s H vs Q E hr h => ?_)
  · obtain ⟨h, x, it, rows, rfl, _⟩ := h; rfl
  · obtain ⟨h, x, it, rows, rfl, ⟨dx, l, hh, ps, hl, r⟩, hx, hg, q⟩ := h
    refine ⟨_, pss_one (ps_if (pt_not (pt_val (pe_fn (r_is_item T) hr (by rfl) T.g_is_item (kpq T.F_is_item) (pa_cons (pv 1) (pa_cons (pe_op op_add (pe_callB call_len_seq (by rfl) T.z_len boot_len (pa_cons (pe_fld (pv 0) rfl) pa_nil)) (pv 2)) pa_nil))))) pss_never pss_nil), ?_⟩
    refine ⟨_, rfl, _, rfl, h, _, dx, _, _, rfl, hh, T.c_Heap, T.n_Heap_lists, hf_lists _, l, _, rfl, .inl (.of hl), _, rfl, _, _, rfl, rfl, x, it, rows.length, _, rfl, ?_, hx, hg, fun H' s => ⟨_, rfl, iteF (q _ s)⟩⟩
    rw [List.length_map, Paired.length r]
    omega
def sp_take (C : Addr) : Sp := fun vs H Q _ => ∃ (h : Addr) (zk zj : Int) (k j : Nat) (dx l p : Addr) (ps : List Addr) (xs : List V) (y : V), vs = [.ref h, .int zk, .int zj] ∧ zk = (k : Int) ∧ zj = (j : Int) ∧
  H h = some (.ins C dx [("lists", V.ref l)]) ∧ H l = some (.lst (ps.map V.ref)) ∧ ps[k]? = some p ∧ H p = some (.lst xs) ∧ xs[j]? = some y ∧ xs.length ≤ 3 ∧ Q y (upd H p (.lst (xs.eraseIdx j)))
theorem r_take (T : Tx K mg) : FnR P w K mg base CX0 5 (He.ma K (CH K) "take") (sp_take (CH K)) := by
  refine fnr T.FH_take cH_take (fun vs H Q E h => ?_) (fun _ _ _ _ _ _ us hl => match us, hl with | [_, _, _], _ => rfl) (fun cdv A outer s H vs Q E hr h => ?_)
  · obtain ⟨h, zk, zj, k, j, dx, l, p, ps, xs, y, rfl, _⟩ := h; rfl
  · obtain ⟨h, zk, zj, k, j, dx, l, p, ps, xs, y, rfl, rfl, rfl, hh, hl, hp, hx, hy, h3, q⟩ := h
    obtain ⟨hj, _⟩ := List.getElem?_eq_some_iff.mp hy
    obtain ⟨hk, _⟩ := List.getElem?_eq_some_iff.mp hp
    refine ⟨_, pss_cons (ps_expr (pe_mt (pv 0) T.c_Heap T.m_Heap_need_box (r_need_box T) hr (pa_cons (pv 1) pa_nil)))
      (pss_cons (ps_expr (pe_mt (pv 0) T.c_Heap T.m_Heap_need_place (r_need_place T) (hr.mono (by decide)) (pa_cons (pv 1) (pa_cons (pv 2) (pa_cons pe_int pa_nil)))))
      (pss_one (ps_ret (pe_bm PySem.F.plainAttrs_list PySem.F.slot_list_pop PySem.F.type_list_pop mt_popAt (pe_ix ix_list (pe_fld (pv 0) rfl) (pv 1) (fun _ _ => rfl)) (pa_cons (pv 2) pa_nil))))), ?_⟩
    refine ⟨_, rfl, h, dx, _, rfl, hh, rfl, _, rfl, h, _, k, rfl, rfl, ⟨dx, l, ps, hh, hl, hk⟩, ?_⟩
    refine ⟨_, rfl, h, dx, _, rfl, hh, rfl, _, rfl, _, rfl, h, _, _, _, k, j, 0, dx, l, p, ps, xs, rfl, rfl, rfl, rfl, hh, hl, hp, hx, by omega, ?_⟩
    refine ⟨_, rfl, h, _, dx, _, _, rfl, hh, T.c_Heap, T.n_Heap_lists, hf_lists _, _, rfl, l, _, _, .ref p, rfl, rfl, .of hl, atI_nat (by rw [List.getElem?_map, hp]; rfl), .inl ⟨rfl, _, .of hx⟩, _, rfl, p, xs, _, j, y, rfl, rfl, hx, by omega, by omega, ?_, hy, q⟩
    refine (ixN_seq ?_).1
    unfold ixN
    rw [if_pos (by omega), if_pos (by omega)]
    rfl
def sp_look (C : Addr) : Sp := fun vs H Q _ => ∃ (h : Addr) (zk : Int) (k : Nat) (dx l p : Addr) (ps : List Addr) (xs : List V), vs = [.ref h, .int zk] ∧ zk = (k : Int) ∧
  H h = some (.ins C dx [("lists", V.ref l)]) ∧ H l = some (.lst (ps.map V.ref)) ∧ ps[k]? = some p ∧ H p = some (.lst xs) ∧ ∀ a, H a = none → Q (.ref a) (upd H a (.lst xs))
theorem r_look (T : Tx K mg) : FnR P w K mg base CX0 5 (He.ma K (CH K) "look") (sp_look (CH K)) := by
  refine fnr T.FH_look cH_look (fun vs H Q E h => ?_) (fun _ _ _ _ _ _ us hl => match us, hl with | [_, _], _ => rfl) (fun cdv A outer s H vs Q E hr h => ?_)
  · obtain ⟨h, zk, k, dx, l, p, ps, xs, rfl, _⟩ := h; rfl
  · obtain ⟨h, zk, k, dx, l, p, ps, xs, rfl, rfl, hh, hl, hp, hx, q⟩ := h
    obtain ⟨hk, _⟩ := List.getElem?_eq_some_iff.mp hp
    refine ⟨_, pss_cons (ps_expr (pe_mt (pv 0) T.c_Heap T.m_Heap_need_box (r_need_box T) hr (pa_cons (pv 1) pa_nil)))
      (pss_one (ps_ret (pe_callTy call_list_of (by rfl) T.z_list boot_list (pa_cons (pe_ix ix_list (pe_fld (pv 0) rfl) (pv 1) (fun _ _ => rfl)) pa_nil)))), ?_⟩
    refine ⟨_, rfl, h, dx, _, rfl, hh, rfl, _, rfl, h, _, k, rfl, rfl, ⟨dx, l, ps, hh, hl, hk⟩, ?_⟩
    exact ⟨_, rfl, h, _, dx, _, _, rfl, hh, T.c_Heap, T.n_Heap_lists, hf_lists _, _, rfl, l, _, _, _, rfl, rfl, .of hl, atI_nat (by rw [List.getElem?_map, hp]; rfl), p, xs, rfl, .inl (.of hx), q⟩
/-- rows made anew -/
def NewRows (H : Hp) (D : Addr) (H' : Hp) (qs : List Addr) (rs : Rows) : Prop := Paired (fun q row => q ≠ D ∧ H q = none ∧ RowAt H' q row) qs rs
theorem RowAt.off {S : List Addr} {H H' : Hp} (o : Off S H H') {p : Addr} (hp : p ∉ S) (hS : ∀ b ∈ S, ∀ xs, H b ≠ some (.tup xs)) {row : List Item} (h : RowAt H p row) : RowAt H' p row := by
  obtain ⟨vs, e, r⟩ := h
  refine ⟨vs, o _ _ hp e, Paired.mapP r fun v it hv => ?_⟩
  cases it with
  | int i => exact hv
  | str x => exact hv
  | box k => obtain ⟨t, ev, ht⟩ := hv; exact ⟨t, ev, o _ _ (fun z => hS _ z _ ht) ht⟩
theorem NewRows.step {H : Hp} {D : Addr} {H' : Hp} {qs : List Addr} {rs : Rows} (h : NewRows H D H' qs rs) (s : Same H H') (hD : H D = none) (e : H' D = some (.lst (qs.map V.ref))) {q : Addr} {vs : List V} {row : List Item} (hq : H' q = none) (r : Paired (ItV H) vs row) :
    NewRows H D (upd (upd H' q (.lst vs)) D (.lst (qs.map V.ref ++ [.ref q]))) (qs ++ [q]) (rs ++ [row]) := by
  have Dq : D ≠ q := ne_of_none e hq
  have s1 : Same H' (upd H' q (.lst vs)) := same_new hq
  have eD : upd H' q (.lst vs) D = some (.lst (qs.map V.ref)) := by rw [upd_ne Dq]; exact e
  have nt := lst_nt eD
  refine Paired.app (Paired.mapP h fun p rw ⟨a, b, c⟩ => ⟨a, b, (c.same s1).off (Off.put (by simp)) (by simpa using a) nt⟩) (.cons ⟨Dq.symm, s.free hq, vs, ?_, ?_⟩ .nil)
  · rw [upd_ne Dq.symm, upd_same]
  · exact Paired.mapP r fun v it hv => hv.same (same_put (s.trans s1) hD)
def rListOf (K : PySem.W.Frag) : List V → Hp → VK → Prop := fun xs H Q => ∃ p ys, xs = [.ref p] ∧ (SqL K H p ys ∨ SqT K H p ys) ∧ ∀ l, H l = none → Q (.ref l) (upd H l (.lst ys))
theorem call_listK {X : Cx} : CallR X (.type "list") (rListOf X.K) := call_list_of
/-- a table of lists, all new -/
def TabNew (H H' : Hp) (a : Addr) (rows : Rows) : Prop := ∃ qs : List Addr, H a = none ∧ H' a = some (.lst (qs.map V.ref)) ∧ Paired (fun q row => H q = none ∧ RowAt H' q row) qs rows
theorem TabNew.tab {H H' : Hp} {a : Addr} {rows : Rows} (h : TabNew H H' a rows) : TabAt H' a rows := by
  obtain ⟨qs, _, e, r⟩ := h
  exact ⟨qs, e, Paired.mapP r fun _ _ z => z.2⟩
def sp_contents (C : Addr) : Sp := fun vs H Q _ => ∃ (h : Addr) (rows : Rows), vs = [.ref h] ∧ HeapAt C H h rows ∧ rows.length ≤ 10 ∧ ∀ H' a, Same H H' → TabNew H H' a rows → Q (.ref a) H'
theorem r_contents (T : Tx K mg) : FnR P w K mg base CX0 1 (He.ma K (CH K) "contents") (sp_contents (CH K)) := by
  refine fnr T.FH_contents cH_contents (fun vs H Q E h => ?_) (fun _ _ _ _ _ _ us hl => match us, hl with | [_], _ => rfl) (fun cdv A outer s H vs Q E hr h => ?_)
  · obtain ⟨h, rows, rfl, _⟩ := h; rfl
  · obtain ⟨h, rows, rfl, ⟨dx, l, hh, ps, hl, r⟩, h10, q⟩ := h
    have nd := cH_contents.nd
    refine ⟨_, pss_one (ps_ret (pe_lc (own := [("one", 1)]) (g := gName 1) (tt := tYes) (te := tCB (rListOf K) (tCons (tVar 1) tNil)) rfl nd (pi_list (pe_fld (pv 0) rfl)) (blkOk_by (N := nH_contents) (sc := defScope sH_contents) (by decide +kernel))
      (fun _ _ _ _ _ => pg_name (i := 1) nd rfl (.inl rfl)) (fun _ _ _ _ _ => pts_nil) (fun _ _ _ _ _ => pe_callTy call_listK (by rfl) T.z_list boot_list (pa_cons (pv 1) pa_nil)))), ?_⟩
    refine ⟨_, rfl, h, _, dx, _, _, rfl, hh, T.c_Heap, T.n_Heap_lists, hf_lists _, l, rfl, ⟨_, .of hl⟩, fun D hD => ?_⟩
    refine lc_list (xs := ps.map V.ref) (fun i H' => ∃ qs : List Addr, H' D = some (.lst (qs.map V.ref)) ∧ Same H H' ∧ NewRows H D H' qs (rows.take i)) ⟨[], upd_same, same_new hD, by rw [List.take_zero]; exact .nil⟩
      (fun i H' _ ⟨_, _, s, _⟩ => .of (s _ _ hl)) ?_ ?_
    · rintro i x H' hx ⟨qs, e, s, nr⟩
      obtain ⟨p, hp, rfl⟩ : ∃ p, ps[i]? = some p ∧ x = V.ref p := by
        rw [List.getElem?_map] at hx
        cases e : ps[i]? with
        | none => rw [e] at hx; cases hx
        | some u => rw [e] at hx; exact ⟨u, rfl, (Option.some.inj hx).symm⟩
      obtain ⟨row, hrow, vs, hvs, rv⟩ := Paired.at1 r hp
      refine ⟨rfl, yesT ⟨_, rfl, p, vs, rfl, .inl (.of (s _ _ hvs)), fun q2 hq2 => ?_⟩⟩
      have Dq : D ≠ q2 := ne_of_none e hq2
      refine ⟨qs.map V.ref, by rw [upd_ne Dq]; exact e, ?_, qs ++ [q2], by rw [upd_same]; simp, same_put (s.trans (same_new hq2)) hD, ?_⟩
      · rw [List.length_map, Paired.length nr]
        exact Nat.lt_of_le_of_lt (Nat.le_trans (List.length_take_le' _ _) h10) (by decide)
      · have et : rows.take (i + 1) = rows.take i ++ [row] := by rw [List.take_add_one, hrow]; rfl
        rw [et]
        exact nr.step s hD e hq2 rv
    · rintro H' ⟨qs, e, s, nr⟩
      rw [List.length_map, Paired.length r, List.take_of_length_le (Nat.le_refl _)] at nr
      exact q H' D s ⟨qs, hD, e, Paired.mapP nr fun _ _ z => z.2⟩
def tot (rows : Rows) : Nat := (rows.map List.length).sum
theorem tot_le {rows : Rows} (h : ∀ row ∈ rows, row.length ≤ 3) : tot rows ≤ rows.length * 3 := by
  unfold tot
  induction rows with
  | nil => simp
  | cons r rs ih =>
    have h1 := h r List.mem_cons_self
    have h2 := ih fun x hx => h x (List.mem_cons_of_mem _ hx)
    simp only [List.map_cons, List.sum_cons, List.length_cons]
    omega
def sp_H_len (C : Addr) : Sp := fun vs H Q _ => ∃ (h : Addr) (rows : Rows), vs = [.ref h] ∧ HeapAt C H h rows ∧ rows.length ≤ 10 ∧ (∀ row ∈ rows, row.length ≤ 3) ∧ ∀ H', Same H H' → Q (.int (tot rows : Nat)) H'
theorem r_H_len (T : Tx K mg) : FnR P w K mg base CX0 1 (He.ma K (CH K) "__len__") (sp_H_len (CH K)) := by
  refine fnr T.FH_len cH_len (fun vs H Q E h => ?_) (fun _ _ _ _ _ _ us hl => match us, hl with | [_], _ => rfl) (fun cdv A outer s H vs Q E hr h => ?_)
  · obtain ⟨h, rows, rfl, _⟩ := h; rfl
  · obtain ⟨h, rows, rfl, ⟨dx, l, hh, ps, hl, r⟩, h10, h3, q⟩ := h
    have nd := cH_len.nd
    refine ⟨_, pss_one (ps_ret (pe_callB call_len_seq (by rfl) T.z_len boot_len (pa_cons (pe_lc2 (own := [("one", 1), ("item", 2)]) (vs1 := [2]) (g := gName 1) (g1 := gName 2) (tt := tYes) (tt1 := tYes) (wi1 := iList K (tVar 1)) (te := tVar 2) rfl nd (pi_list (pe_fld (pv 0) rfl)) (blkOk_by (N := nH_len) (sc := defScope sH_len) (by decide +kernel)) (by decide)
      (fun _ _ _ _ _ => pg_name (i := 1) nd rfl (.inl rfl)) (fun _ _ _ _ _ => pts_nil) (fun _ _ _ _ _ => pi_list (pv 1)) (fun _ _ _ _ _ => pg_name (i := 2) nd rfl (.inl rfl)) (fun _ _ _ _ _ => pts_nil) (fun _ _ _ _ _ => pv 2)) pa_nil))), ?_⟩
    refine ⟨_, rfl, h, _, dx, _, _, rfl, hh, T.c_Heap, T.n_Heap_lists, hf_lists _, l, rfl, ⟨_, .of hl⟩, fun D hD => ?_⟩
    have small : ∀ i, tot (rows.take i) ≤ 30 := fun i => Nat.le_trans (tot_le fun row hr => h3 row (List.mem_of_mem_take hr)) (by
      have := List.length_take_le' i rows
      omega)
    refine walkB (xs := ps.map V.ref) (fun i H' => ∃ acc, H' D = some (.lst acc) ∧ Same H H' ∧ acc.length = tot (rows.take i)) ⟨[], upd_same, same_new hD, by rw [List.take_zero]; rfl⟩
      (fun i H' _ ⟨_, _, s, _⟩ => .of (s _ _ hl)) ?_ ?_
    · rintro i x H' hx ⟨acc, e, s, la⟩
      obtain ⟨p, hp, rfl⟩ : ∃ p, ps[i]? = some p ∧ x = V.ref p := by
        rw [List.getElem?_map] at hx
        cases e : ps[i]? with
        | none => rw [e] at hx; cases hx
        | some u => rw [e] at hx; exact ⟨u, rfl, (Option.some.inj hx).symm⟩
      obtain ⟨row, hrow, vs, hvs, rv⟩ := Paired.at1 r hp
      have et : tot (rows.take (i + 1)) = tot (rows.take i) + vs.length := by
        rw [List.take_add_one, hrow, Paired.length rv]
        unfold tot
        simp
      have hv3 : vs.length ≤ 3 := by rw [Paired.length rv]; exact h3 row (List.mem_of_getElem? hrow)
      have hs := small i
      refine ⟨rfl, yesT ⟨_, rfl, p, rfl, ⟨_, .of (s _ _ hvs)⟩, ?_⟩⟩
      refine walkB (xs := vs) (fun j H'' => ∃ acc, H'' D = some (.lst acc) ∧ Same H H'' ∧ acc.length = tot (rows.take i) + j) ⟨acc, e, s, la⟩ (fun j H'' _ ⟨_, _, s, _⟩ => .of (s _ _ hvs)) ?_ ?_
      · rintro j y H'' hy ⟨acc2, e2, s2, la2⟩
        obtain ⟨hj, _⟩ := List.getElem?_eq_some_iff.mp hy
        refine ⟨rfl, yesT ⟨_, rfl, acc2, e2, ?_, acc2 ++ [y], upd_same, same_put s2 hD, ?_⟩⟩
        · rw [la2]; exact Nat.lt_of_le_of_lt (show _ ≤ 100 by omega) (by decide)
        · rw [List.length_append, List.length_singleton, la2]; omega
      · rintro H'' ⟨acc2, e2, s2, la2⟩
        exact ⟨acc2, e2, s2, by rw [la2, et]⟩
    · rintro H' ⟨acc, e, s, la⟩
      rw [List.length_map, Paired.length r, List.take_of_length_le (Nat.le_refl _)] at la
      refine ⟨D, acc, rfl, .inl (.of e), ?_⟩
      rw [la]
      exact q H' s
def sp_need_room (C : Addr) : Sp := fun vs H Q _ => ∃ (h : Addr) (rows : Rows), vs = [.ref h, .int 0, .int 0] ∧ HeapAt C H h rows ∧ rows.length ≤ 10 ∧ (∀ row ∈ rows, row.length ≤ 3) ∧ ∀ H', Same H H' → Q .non H'
theorem r_need_room (T : Tx K mg) : FnR P w K mg base CX0 3 (He.ma K (CH K) "need_room") (sp_need_room (CH K)) := by
  refine fnr T.FH_need_room cH_need_room (fun vs H Q E h => ?_) (fun _ _ _ _ _ _ us hl => match us, hl with | [_, _, _], _ => rfl) (fun cdv A outer s H vs Q E hr h => ?_)
  · obtain ⟨h, rows, rfl, _⟩ := h; rfl
  · obtain ⟨h, rows, rfl, hA, h10, h3, q⟩ := h
    obtain ⟨dx, l, hh, ps, hl, r⟩ := id hA
    obtain ⟨u1, hc1⟩ := T.cv_boxes
    obtain ⟨u2, hc2⟩ := T.cv_items
    refine ⟨_, pss_cons (ps_if (pt_cmpR op_gt (pe_op op_add (pe_callB call_len_seq (by rfl) T.z_len boot_len (pa_cons (pe_fld (pv 0) rfl) pa_nil)) (pv 1)) (ClX.pe_cval (pe_glob (v := .ref (CH K)) (by rfl) T.g_Heap rfl)) (nomark _)) pss_never pss_nil)
      (pss_one (ps_if (pt_cmpR op_gt (pe_op op_add (pe_callB (call_lenO T.m_Heap_len (r_H_len T) hr) (by rfl) T.z_len boot_len (pa_cons (pv 0) pa_nil)) (pv 2)) (ClX.pe_cval (pe_glob (v := .ref (CH K)) (by rfl) T.g_Heap rfl)) (nomark _)) pss_never pss_nil)), ?_⟩
    refine ⟨_, rfl, h, _, dx, _, _, rfl, hh, T.c_Heap, T.n_Heap_lists, hf_lists _, l, _, rfl, .inl (.of hl), _, rfl, _, _, rfl, rfl, CH K, .type "type", _, u1, rfl, T.rd_Heap, hc1, _, _, rfl, rfl, _, rfl, ?_⟩
    have e1 : decide ((60 : Int) < ((ps.map V.ref).length : Int) + 0) = false := decide_eq_false (by rw [List.length_map, Paired.length r]; omega)
    rw [e1]
    refine iteF ?_
    have ht := tot_le h3
    refine ⟨_, rfl, h, dx, _, rfl, hh, h, rows, rfl, hA, h10, h3, fun H' s => ⟨_, rfl, ⟨by omega, by omega⟩, _, rfl, _, _, rfl, rfl, CH K, .type "type", _, u2, rfl, T.rd_Heap, hc2, _, _, rfl, rfl, _, rfl, ?_⟩⟩
    have e2 : decide ((300 : Int) < ((tot rows : Nat) : Int) + 0) = false := decide_eq_false (by omega)
    rw [e2]
    exact iteF (q H' s)
end
end Rg
end
section
set_option Elab.async false
set_option linter.all false
set_option maxRecDepth 100000
set_option maxHeartbeats 4000000
/-! The heap of lists, made. -/
namespace Rg
open PySem PySem.Spec PyProof.Rows L2
def GoodRows (rows : Rows) : Prop := ∀ row ∈ rows, ∀ a ∈ row, GoodI rows.length a
structure Fit (rows : Rows) : Prop where
  good : GoodRows rows
  ten : rows.length ≤ 10
  three : ∀ row ∈ rows, row.length ≤ 3
theorem Fit.small {rows : Rows} (f : Fit rows) : Small rows := ⟨fun row hr k hk => f.good row hr _ hk, f.ten, f.three⟩
def HeapNew (C : Addr) (H H' : Hp) (h : Addr) (rows : Rows) : Prop := ∃ dx l ps, H' h = some (.ins C dx [("lists", V.ref l)]) ∧ H' l = some (.lst (ps.map V.ref)) ∧ Paired (fun p row => p ≠ l ∧ H p = none ∧ RowAt H' p row) ps rows
theorem HeapNew.at_ {C : Addr} {H H' : Hp} {h : Addr} {rows : Rows} (x : HeapNew C H H' h rows) : HeapAt C H' h rows := by
  obtain ⟨dx, l, ps, a, b, c⟩ := x
  exact ⟨dx, l, a, ps, b, Paired.mapP c fun _ _ z => z.2.2⟩
section
variable {P : Program} {w : World} {K : PySem.W.Frag} {mg : Str → Option Value} {base : Heap}
theorem k_ll : PySem.W.kitOne K (.type "list") (.type "list") = some true := kit_ty (by decide +kernel)
theorem tyLst {H : Hp} {t : Addr} {xs : List V} (h : H t = some (.lst xs)) : TyX K H (.ref t) (.type "list") := .base (.lst h)
def sp_H_init0 (C : Addr) : Sp := fun vs H Q _ => ∃ (x ct dx : Addr) (as : List Addr) (rows : Rows), vs = [.ref x, .ref ct] ∧ H x = some (.ins C dx []) ∧ H ct = some (.tup (as.map V.ref)) ∧ Paired (RowAt H) as rows ∧ Fit rows ∧
  ∀ H', Off [x] H H' → HeapNew C H H' x rows → Q .non H'
abbrev sp_H_init (C : Addr) : Sp := fun vs H Q E => ∃ ws rest, vs = ws ++ rest ∧ ws.length = (["self"] : List Str).length ∧ rest.length ≤ sizeLine ∧ ∀ p, H p = Option.none → sp_H_init0 C (ws ++ [V.ref p]) (upd H p (.tup rest)) Q E
theorem r_H_init (T : Tx K mg) : FnR P w K mg base CX0 5 (He.ma K (CH K) "__init__") (sp_H_init (CH K)) := by
  refine fns (ps := ["self"]) (pv := "contents") T.FH_init cH_init (fun _ _ _ _ _ _ us rest hl => match us, rest, hl with | [_], [], _ => rfl | [_], _ :: _, _ => rfl) (fun cdv A outer s H vs Q E hr h => ?_)
  obtain ⟨x, ct, dx, as, rows, rfl, hx, hct, ra, fit, q⟩ := h
  have nd := cH_init.nd
  refine ⟨_, pss_cons (ps_for PassesOwn.never rfl (pi_tup (pv 1)) (pg_name (i := 2) nd rfl (.inl rfl))
      (pss_cons (ps_if (pt_not (pt_val (pe_callB call_isi (by rfl) T.z_isinstance boot_isinstance (pa_cons (pv 2) (pa_cons (pe_bltn (v := .ty "list") (by rfl) T.z_list boot_list rfl) pa_nil))))) pss_never pss_nil)
      (pss_one (ps_for PassesOwn.never rfl (pi_list (pv 2)) (pg_name (i := 3) nd rfl (.inl rfl))
        (pss_one (ps_if (pt_not (pt_val (pe_fn (r_is_item T) hr (by rfl) T.g_is_item (kpq T.F_is_item) (pa_cons (pv 3) (pa_cons (pe_callB call_len_seq (by rfl) T.z_len boot_len (pa_cons (pv 1) pa_nil)) pa_nil))))) pss_never pss_nil))))))
    (pss_cons (ps_fld (pv 0) (pe_lc (own := [("one", 2)]) (g := gName 2) (tt := tYes) (te := tCB (rListOf K) (tCons (tVar 2) tNil)) rfl nd (pi_tup (pv 1)) (blkOk_by (N := nH_init) (sc := defScope sH_init) (by decide +kernel))
      (fun _ _ _ _ _ => pg_name (i := 2) nd rfl (.inl rfl)) (fun _ _ _ _ _ => pts_nil) (fun _ _ _ _ _ => pe_callTy call_listK (by rfl) T.z_list boot_list (pa_cons (pv 2) pa_nil))) rfl)
    (pss_one (ps_expr (pe_mt (pv 0) T.c_Heap T.m_Heap_need_room (r_need_room T) (hr.mono (by decide)) (pa_cons pe_int (pa_cons pe_int pa_nil)))))), ?_⟩
  have hasl : as.length = rows.length := Paired.length ra
  refine ⟨_, rfl, ct, rfl, ⟨_, .of hct⟩, for_tup (xs := as.map V.ref) (fun i σ H' => ∃ o2 o3, σ = [some (.ref x), some (.ref ct), o2, o3] ∧ Same H H') ⟨_, _, rfl, Same.refl H⟩ (fun i σ H' _ ⟨_, _, _, s⟩ => .of (s _ _ hct)) ?_ ?_⟩
  · rintro i y σ H' hy ⟨o2, o3, rfl, s⟩
    obtain ⟨a, ha, rfl⟩ : ∃ p, as[i]? = some p ∧ y = V.ref p := by
      rw [List.getElem?_map] at hy
      cases e : as[i]? with
      | none => rw [e] at hy; cases hy
      | some u => rw [e] at hy; exact ⟨u, rfl, (Option.some.inj hy).symm⟩
    obtain ⟨row, hrow, vs, hvs, rv⟩ := Paired.at1 ra ha
    refine ⟨_, rfl, _, _, _, _, true, rfl, .ty _, tyLst (s _ _ hvs), k_ll, _, rfl, iteF ?_⟩
    refine ⟨_, rfl, a, rfl, ⟨_, .of (s _ _ hvs)⟩, for_list (xs := vs) (fun j σ H'' => ∃ o3, σ = [some (.ref x), some (.ref ct), some (.ref a), o3] ∧ Same H H'') ⟨_, rfl, s⟩ (fun j σ H'' _ ⟨_, _, s2⟩ => .of (s2 _ _ hvs)) ?_ ?_⟩
    · rintro j z σ H'' hz ⟨o3, rfl, s2⟩
      obtain ⟨it, hit, hzi⟩ := Paired.at1 rv hz
      refine ⟨_, rfl, _, rfl, ct, _, rfl, .inr (.of (s2 _ _ hct)), z, it, rows.length, _, rfl, by rw [List.length_map, hasl], hzi.same s2, fit.good row (List.mem_of_getElem? hrow) it (List.mem_of_getElem? hit), fun H3 s3 => ⟨_, rfl, iteF ⟨_, rfl, s2.trans s3⟩⟩⟩
    · rintro σ H'' ⟨o3, rfl, s2⟩
      exact ⟨_, _, rfl, s2⟩
  · rintro σ H1 ⟨o2, o3, rfl, s1⟩
    refine ⟨_, rfl, ct, rfl, ⟨_, .of (s1 _ _ hct)⟩, fun D hD => ?_⟩
    refine lc_tup (xs := as.map V.ref) (fun i H' => ∃ qs : List Addr, H' D = some (.lst (qs.map V.ref)) ∧ Same H1 H' ∧ NewRows H1 D H' qs (rows.take i)) ⟨[], upd_same, same_new hD, by rw [List.take_zero]; exact .nil⟩
      (fun i H' _ ⟨_, _, s, _⟩ => .of (s _ _ (s1 _ _ hct))) ?_ ?_
    · rintro i y H' hy ⟨qs, e, s, nr⟩
      obtain ⟨a, ha, rfl⟩ : ∃ p, as[i]? = some p ∧ y = V.ref p := by
        rw [List.getElem?_map] at hy
        cases e : as[i]? with
        | none => rw [e] at hy; cases hy
        | some u => rw [e] at hy; exact ⟨u, rfl, (Option.some.inj hy).symm⟩
      obtain ⟨row, hrow, vs, hvs, rv⟩ := Paired.at1 ra ha
      refine ⟨rfl, yesT ⟨_, rfl, a, vs, rfl, .inl (.of (s _ _ (s1 _ _ hvs))), fun q2 hq2 => ?_⟩⟩
      have Dq : D ≠ q2 := ne_of_none e hq2
      refine ⟨qs.map V.ref, by rw [upd_ne Dq]; exact e, ?_, qs ++ [q2], by rw [upd_same]; simp, same_put (s.trans (same_new hq2)) hD, ?_⟩
      · rw [List.length_map, Paired.length nr]
        exact Nat.lt_of_le_of_lt (Nat.le_trans (List.length_take_le' _ _) fit.ten) (by decide)
      · have et : rows.take (i + 1) = rows.take i ++ [row] := by rw [List.take_add_one, hrow]; rfl
        rw [et]
        exact nr.step s hD e hq2 (Paired.mapP rv fun v it hv => hv.same s1)
    · rintro H2 ⟨qs, e, s2, nr⟩
      rw [List.length_map, hasl, List.take_of_length_le (Nat.le_refl _)] at nr
      have s02 : Same H H2 := s1.trans s2
      have hx2 := s02 _ _ hx
      refine ⟨_, rfl, x, _, dx, _, rfl, hx2, T.c_Heap, T.n_Heap_lists, by show 0 < 1000; decide, ?_⟩
      have nt : ∀ b ∈ [x], ∀ xs, H2 b ≠ some (.tup xs) := fun b hb xs => by rw [List.mem_singleton.mp hb, hx2]; exact fun z => nomatch z
      have o23 : Off [x] H2 (upd H2 x (.ins (CH K) dx [("lists", V.ref D)])) := Off.put (by simp)
      have hD3 := o23 _ _ (by simpa using ne_of e hx2 (fun z => nomatch z)) e
      have r3 : Paired (fun p row => p ≠ D ∧ H p = none ∧ RowAt (upd H2 x (.ins (CH K) dx [("lists", V.ref D)])) p row) qs rows := Paired.mapP nr fun p row ⟨a, b, c⟩ => ⟨a, s1.free b, by
        obtain ⟨vs, hvs, _⟩ := id c
        exact c.off o23 (by simpa using ne_of hvs hx2 (fun z => nomatch z)) nt⟩
      have hA : HeapNew (CH K) H (upd H2 x (.ins (CH K) dx [("lists", V.ref D)])) x rows := ⟨dx, D, qs, upd_same, hD3, r3⟩
      refine ⟨_, rfl, x, dx, _, rfl, upd_same, rfl, x, rows, rfl, hA.at_, fit.ten, fit.three, fun H4 s4 => ?_⟩
      exact q H4 (((Off.same s02).trans o23).trans (Off.same s4)) ⟨dx, D, qs, s4 _ _ upd_same, s4 _ _ hD3, Paired.mapP r3 fun p row ⟨a, b, c⟩ => ⟨a, b, c.same s4⟩⟩
def sp_H_of (C : Addr) : Sp := fun vs H Q _ => ∃ (a : Addr) (rows : Rows), vs = [.ref C, .ref a] ∧ TabAt H a rows ∧ Fit rows ∧ ∀ H' h, Same H H' → HeapNew C H H' h rows → Q (.ref h) H'
theorem r_H_of (T : Tx K mg) {g : Addr} (F : FnQ K "of" "Heap.of" sH_of [] g) : FnR P w K mg base CX0 7 g (sp_H_of (CH K)) := by
  refine fnr F cH_of (fun vs H Q E h => ?_) (fun _ _ _ _ _ _ us hl => match us, hl with | [_, _], _ => rfl) (fun cdv A outer s H vs Q E hr h => ?_)
  · obtain ⟨a, rows, rfl, _⟩ := h; rfl
  · obtain ⟨a, rows, rfl, ⟨as, ha, ra⟩, fit, q⟩ := h
    refine ⟨_, pss_one (ps_ret (pe_mkS (i := 0) T.mk_Heap (r_H_init T) hr rfl (.inl rfl) (pv 1))), ?_⟩
    refine ⟨rfl, _, rfl, a, _, rfl, .inr (.of ha), fun x dx hx hdx ne => ⟨[.ref x], as.map V.ref, rfl, rfl, ?_, fun ct hct => ?_⟩⟩
    · rw [List.length_map, Paired.length ra]
      exact Nat.le_trans fit.ten (by decide)
    have s1 : Same H (upd H dx (.own x)) := same_new hdx
    have s2 : Same H (upd (upd H dx (.own x)) x (.ins (CH K) dx [])) := same_put s1 hx
    have s3 := s2.trans (same_new (o := .tup (as.map V.ref)) hct)
    have xct : x ≠ ct := fun z => by rw [← z, upd_same] at hct; cases hct
    refine ⟨x, ct, dx, as, rows, rfl, by rw [upd_ne xct]; exact upd_same, upd_same, Paired.mapP ra fun p row hr => hr.same s3, fit, fun H' o hn => ⟨rfl, ?_⟩⟩
    have s4 : Same H H' := Off.base s3 o fun b hb => by rw [List.mem_singleton.mp hb]; exact hx
    obtain ⟨dx2, l, ps, a1, a2, a3⟩ := hn
    exact q H' x s4 ⟨dx2, l, ps, a1, a2, Paired.mapP a3 fun p row ⟨a, b, c⟩ => ⟨a, s3.free b, c⟩⟩
def sp_H_copy (C : Addr) : Sp := fun vs H Q _ => ∃ (h : Addr) (rows : Rows), vs = [.ref h] ∧ HeapAt C H h rows ∧ Fit rows ∧ ∀ H' h', Same H H' → HeapNew C H H' h' rows → Q (.ref h') H'
theorem r_H_copy (T : Tx K mg) : FnR P w K mg base CX0 8 (He.ma K (CH K) "copy") (sp_H_copy (CH K)) := by
  obtain ⟨p, g, hcm, hF⟩ := T.cm_of
  refine fnr T.FH_copy cH_copy (fun vs H Q E h => ?_) (fun _ _ _ _ _ _ us hl => match us, hl with | [_], _ => rfl) (fun cdv A outer s H vs Q E hr h => ?_)
  · obtain ⟨h, rows, rfl, _⟩ := h; rfl
  · obtain ⟨h, rows, rfl, ⟨dx, l, hh, ht⟩, fit, q⟩ := h
    refine ⟨_, pss_one (ps_ret (ClX.pe_cmeth (pe_glob (v := .ref (CH K)) (by rfl) T.g_Heap rfl) T.rd_Heap hcm (r_H_of T hF) hr pass0 (pa_cons (pe_fld (pv 0) rfl) pa_nil))), ?_⟩
    exact ⟨rfl, _, rfl, h, _, dx, _, _, rfl, hh, T.c_Heap, T.n_Heap_lists, hf_lists _, l, rows, rfl, ht, fit, q⟩
end
end Rg
end
section
set_option Elab.async false
set_option linter.all false
set_option maxRecDepth 100000
set_option maxHeartbeats 4000000
/-! Outcomes: made, measured. -/
namespace Rg
open PySem PySem.Spec PyProof.Rows L2
noncomputable def sms (rows : Rows) (qs : List Pr) : Nat := (qs.map (stp rows)).sum
noncomputable def mxd (rows : Rows) (qs : List Pr) : Nat := (qs.map (dpt rows)).foldr max 0
theorem foldr_max_ge : ∀ {l : List Nat} {x : Nat}, x ∈ l → x ≤ l.foldr max 0
  | [], _, h => absurd h List.not_mem_nil
  | a :: l, x, h => by
    show x ≤ max a (l.foldr max 0)
    rcases List.mem_cons.mp h with z | z
    · rw [z]; exact Nat.le_max_left _ _
    · exact Nat.le_trans (foldr_max_ge z) (Nat.le_max_right _ _)
theorem foldr_max_mem : ∀ {l : List Nat}, l ≠ [] → l.foldr max 0 ∈ l
  | [], h => absurd rfl h
  | [a], _ => by show max a 0 ∈ [a]; rw [Nat.max_zero]; simp
  | a :: b :: l, _ => by
    have ih := foldr_max_mem (l := b :: l) (List.cons_ne_nil _ _)
    show max a ((b :: l).foldr max 0) ∈ a :: b :: l
    by_cases h : a ≤ (b :: l).foldr max 0
    · rw [Nat.max_eq_right h]; exact List.mem_cons_of_mem _ ih
    · rw [Nat.max_eq_left (by omega)]; exact List.mem_cons_self
theorem foldr_max_eq {l : List Nat} {m : Nat} (h : m ∈ l) (hm : ∀ x ∈ l, x ≤ m) : l.foldr max 0 = m := by
  have h1 := foldr_max_ge h
  have h2 := hm _ (foldr_max_mem (fun z => by rw [z] at h; exact absurd h List.not_mem_nil))
  omega
/-- the attributes of an outcome -/
def ofl (w : Str) (num : V) (v cs : Addr) (st dp : V) : List (Str × V) := [("word", .str w), ("number", num), ("verdicts", .ref v), ("course", .ref cs), ("loop", .non), ("steps", st), ("depth", dp)]
section
variable (w : Str) (num : V) (v cs : Addr) (st dp st2 : V)
theorem ofl_word : (ofl w num v cs st dp).lookup ("word" : Str) = some (V.str w) := rfl
theorem ofl_number : (ofl w num v cs st dp).lookup ("number" : Str) = some num := rfl
theorem ofl_verdicts : (ofl w num v cs st dp).lookup ("verdicts" : Str) = some (V.ref v) := rfl
theorem ofl_course : (ofl w num v cs st dp).lookup ("course" : Str) = some (V.ref cs) := rfl
theorem ofl_loop : (ofl w num v cs st dp).lookup ("loop" : Str) = some V.non := rfl
theorem ofl_steps : (ofl w num v cs st dp).lookup ("steps" : Str) = some st := rfl
theorem ofl_depth : (ofl w num v cs st dp).lookup ("depth" : Str) = some dp := rfl
theorem ofl_put_steps : putF "steps" st2 (ofl w num v cs st dp) = ofl w num v cs st2 dp := rfl
theorem ofl_put_depth : putF "depth" st2 (ofl w num v cs st dp) = ofl w num v cs st st2 := rfl
theorem ofl_mk : putF "depth" .non (putF "steps" .non (putF "loop" .non (putF "course" (.ref cs) (putF "verdicts" (.ref v) (putF "number" num (putF "word" (.str w) [])))))) = ofl w num v cs .non .non := rfl
end
/-- the course of pairs -/
def CrsAt (H : Hp) (cs : Addr) (qs : List Pr) : Prop := ∃ (ct pl : Addr) (ts : List Addr), H cs = some (.lst [.ref ct]) ∧ H ct = some (.tup [.int 0, .ref pl]) ∧ H pl = some (.lst (ts.map V.ref)) ∧ Paired (PrV H) ts qs
theorem CrsAt.same {H H' : Hp} (s : Same H H') {cs : Addr} {qs : List Pr} (h : CrsAt H cs qs) : CrsAt H' cs qs := by
  obtain ⟨ct, pl, ts, a, b, c, d⟩ := h
  exact ⟨ct, pl, ts, s _ _ a, s _ _ b, s _ _ c, Paired.mapP d fun _ _ z => z.same s⟩
theorem CrsAt.off {o : Addr} {H H' : Hp} (f : Off [o] H H') {C dx : Addr} {fs : List (Str × V)} (ho : H o = some (.ins C dx fs)) {cs : Addr} {qs : List Pr} (h : CrsAt H cs qs) : CrsAt H' cs qs := by
  obtain ⟨ct, pl, ts, a, b, c, d⟩ := h
  exact ⟨ct, pl, ts, f _ _ (by simpa using ne_of a ho (fun z => nomatch z)) a, f _ _ (by simpa using ne_of b ho (fun z => nomatch z)) b, f _ _ (by simpa using ne_of c ho (fun z => nomatch z)) c, Paired.mapP d fun t q (z : H t = _) => f _ _ (by simpa using ne_of z ho (fun z => nomatch z)) z⟩
/-- verdicts, all of whose pairs are known with what they enter -/
def VerC (C : Addr) (H : Hp) (v : Addr) (rows : Rows) (qs : List Pr) : Prop := ∃ l d n ks, VerAt C H v l d n rows ks ∧ Closed rows ks ∧ ∀ q ∈ qs, q ∈ ks
theorem VerC.same {C : Addr} {H H' : Hp} (s : Same H H') {v : Addr} {rows : Rows} {qs : List Pr} (h : VerC C H v rows qs) : VerC C H' v rows qs := by
  obtain ⟨l, d, n, ks, a, b⟩ := h
  exact ⟨l, d, n, ks, a.same s, b⟩
theorem VerC.off {C : Addr} {o : Addr} {H H' : Hp} (f : Off [o] H H') {C2 dx : Addr} {fs : List (Str × V)} (ho : H o = some (.ins C2 dx fs)) (hf : fs.lookup ("lists" : Str) = none) {v : Addr} {rows : Rows} {qs : List Pr} (h : VerC C H v rows qs) : VerC C H' v rows qs := by
  obtain ⟨l, d, n, ks, ⟨a, t⟩, b⟩ := h
  obtain ⟨dx2, hv⟩ := a.at_
  obtain ⟨kvs, hd, _⟩ := a.dict
  have nt : ∀ b ∈ [o], ∀ xs, H b ≠ some (.tup xs) := fun b hb xs => by rw [List.mem_singleton.mp hb, ho]; exact fun z => nomatch z
  refine ⟨l, d, n, ks, ⟨a.off f (by simpa using ne_of hv ho (fun z => by
    have e := (HO.ins.inj z).2.2
    rw [← e] at hf
    exact absurd hf (by rw [show ([("lists", V.ref l), ("known", V.ref d), ("deepest", V.int (n : Int))] : List (Str × V)).lookup ("lists" : Str) = some (V.ref l) from rfl]; exact fun z => nomatch z))) (by simpa using ne_of hd ho (fun z => nomatch z)) nt, ?_⟩, b⟩
  exact (cut_tab (S := [o]) (fun b hb => by
    rw [List.mem_singleton.mp hb]
    exact ⟨.ins C2 dx fs, ho, ⟨fun _ z => (nomatch z), fun _ z => (nomatch z)⟩⟩) t).same (same_cut f)
noncomputable def stV (w : Str) (rows : Rows) (qs : List Pr) : V := if w = "endless" then .non else .int (sms rows qs : Nat)
noncomputable def dpV (w : Str) (rows : Rows) (qs : List Pr) : V := if w = "endless" then .non else .int (mxd rows qs : Nat)
/-- an outcome -/
structure OutAt (CVa COa : Addr) (H : Hp) (o : Addr) (w : Str) (num : V) (rows : Rows) (qs : List Pr) : Prop where
  ex : ∃ dx v cs, H o = some (.ins COa dx (ofl w num v cs (stV w rows qs) (dpV w rows qs))) ∧ CrsAt H cs qs ∧ VerC CVa H v rows qs
  ends : w ≠ "endless" → ∀ q ∈ qs, (vd rows q).wd ≠ .en
theorem OutAt.same {CVa COa : Addr} {H H' : Hp} (s : Same H H') {o : Addr} {w : Str} {num : V} {rows : Rows} {qs : List Pr} (h : OutAt CVa COa H o w num rows qs) : OutAt CVa COa H' o w num rows qs := by
  obtain ⟨⟨dx, v, cs, a, b, c⟩, d⟩ := h
  exact ⟨⟨dx, v, cs, s _ _ a, b.same s, c.same s⟩, d⟩
section
variable {P : Program} {w : World} {K : PySem.W.Frag} {mg : Str → Option Value} {base : Heap}
theorem sum_cast (f : Pr → Nat) : ∀ qs : List Pr, (qs.map fun q => ((f q : Nat) : Int)).sum = (((qs.map f).sum : Nat) : Int)
  | [] => rfl
  | q :: qs => by
    rw [List.map_cons, List.sum_cons, List.map_cons, List.sum_cons, sum_cast f qs]
    omega
abbrev CO (K : PySem.W.Frag) : Addr := He.ga K "Outcome"
def sp_measure (CVa COa : Addr) : Sp := fun vs H Q _ => ∃ (o dx v cs : Addr) (wd : Str) (num : V) (rows : Rows) (qs : List Pr), vs = [.ref o] ∧ H o = some (.ins COa dx (ofl wd num v cs .non .non)) ∧ CrsAt H cs qs ∧ VerC CVa H v rows qs ∧ Small rows ∧ qs.length ≤ 3 ∧ (∀ q ∈ qs, (vd rows q).wd ≠ .en) ∧
  ∀ H', Off [o] H H' → H' o = some (.ins COa dx (ofl wd num v cs (.int (sms rows qs : Nat)) (.int (mxd rows qs : Nat)))) → Q .non H'
theorem r_measure (T : Tx K mg) : FnR P w K mg base CX0 6 (He.ma K (CO K) "measure") (sp_measure (CV K) (CO K)) := by
  refine fnr T.FO_measure cO_measure (fun vs H Q E h => ?_) (fun _ _ _ _ _ _ us hl => match us, hl with | [_], _ => rfl) (fun cdv A outer s H vs Q E hr h => ?_)
  · obtain ⟨o, dx, v, cs, wd, num, rows, qs, rfl, _⟩ := h; rfl
  · obtain ⟨o, dx, v, cs, wd, num, rows, qs, rfl, ho, hcs, hver, sm, q3, hends, q⟩ := h
    have nd := cO_measure.nd
    refine ⟨_, pss_cons (ps_asg2 pe_int (pg_fld (pv 0)) (pg_fld (pv 0)))
      (pss_cons (ps_set (i := 1) nd rfl (.inl rfl) pe_int)
      (pss_one (ps_for PassesOwn.never rfl (pi_list (pe_fld (pv 0) rfl)) (pg_tup (n := 2) rfl (pgs_cons (pg_name (i := 2) nd rfl (.inl rfl)) (pgs_cons (pg_name (i := 3) nd rfl (.inl rfl)) pgs_nil)))
        (pss_cons (ps_aug (i := 1) nd rfl (.inl rfl) (pv 2) ip_add)
        (pss_cons (ps_setLc (i := 4) (own := [("pair", 5)]) (g := gName 5) (tt := tYes) (te := tMt (CV K) "of_pair" (sp_of_pair (CV K)) (tFld K (tVar 0) "verdicts") (tCons (tVar 5) tNil)) rfl nd rfl rfl (sw_true rfl rfl rfl (by decide +kernel)) (pi_list (pv 3)) (blkOk_by (N := nO_measure) (sc := defScope sO_measure) (by decide +kernel))
          (fun _ _ _ _ _ => pg_name (i := 5) nd rfl (.inl rfl)) (fun _ _ _ _ _ => pts_nil) (fun _ _ _ _ _ => pe_mt (pe_fld (pv 0) rfl) T.c_Verdicts T.m_Verdicts_of_pair (r_of_pair T) hr (pa_cons (pv 5) pa_nil)))
        (pss_cons (ps_fldaug (pv 0) (pe_op op_add (pv 2) (pe_callB (cr_sum rfl) (by rfl) T.z_sum boot_sum (pa_cons (pe_lc (own := [("word", 6), ("steps", 7), ("depth", 8), ("place", 9)]) (g := gTup K 4 (gCons (gName 6) (gCons (gName 7) (gCons (gName 8) (gCons (gName 9) gNil))))) (tt := tYes) (te := tVar 7) rfl nd (pi_list (pv 4)) (blkOk_by (N := nO_measure) (sc := defScope sO_measure) (by decide +kernel))
          (fun _ _ _ _ _ => pg_tup (n := 4) rfl (pgs_cons (pg_name (i := 6) nd rfl (.inl rfl)) (pgs_cons (pg_name (i := 7) nd rfl (.inl rfl)) (pgs_cons (pg_name (i := 8) nd rfl (.inl rfl)) (pgs_cons (pg_name (i := 9) nd rfl (.inl rfl)) pgs_nil))))) (fun _ _ _ _ _ => pts_nil) (fun _ _ _ _ _ => pv 7)) pa_nil))) in_add)
        (pss_one (ps_fld (pv 0) (pe_callB (call_max2 rfl) (by rfl) T.z_max boot_max (pa_cons (pe_fld (pv 0) rfl) (pa_cons (pe_op op_add (pv 1) (pe_callBK (cr_maxD rfl) (by rfl) T.z_max boot_max
          (pa_cons (pe_lc (own := [("word", 6), ("steps", 7), ("depth", 8), ("place", 9)]) (g := gTup K 4 (gCons (gName 6) (gCons (gName 7) (gCons (gName 8) (gCons (gName 9) gNil))))) (tt := tYes) (te := tVar 8) rfl nd (pi_list (pv 4)) (blkOk_by (N := nO_measure) (sc := defScope sO_measure) (by decide +kernel))
          (fun _ _ _ _ _ => pg_tup (n := 4) rfl (pgs_cons (pg_name (i := 6) nd rfl (.inl rfl)) (pgs_cons (pg_name (i := 7) nd rfl (.inl rfl)) (pgs_cons (pg_name (i := 8) nd rfl (.inl rfl)) (pgs_cons (pg_name (i := 9) nd rfl (.inl rfl)) pgs_nil))))) (fun _ _ _ _ _ => pts_nil) (fun _ _ _ _ _ => pv 8)) pa_nil) (pk_cons pe_int pk_nil))) pa_nil))) rfl)))))))), ?_⟩
    have l9 : ∀ k : Nat, k ≤ 3 → k < sizeLine := fun k hk => Nat.lt_of_le_of_lt hk (by decide)
    refine ⟨_, rfl, o, _, dx, _, rfl, ho, T.c_Outcome, T.n_Outcome_steps, by show 7 < 1000; decide, _, rfl, o, _, dx, _, rfl, upd_same, T.c_Outcome, T.n_Outcome_depth, by show 7 < 1000; decide, ?_⟩
    rw [upd_upd]
    generalize hH1 : upd H o (.ins (CO K) dx (putF "depth" (.int 0) (putF "steps" (.int 0) (ofl wd num v cs .non .non)))) = H1
    have ho1 : H1 o = some (.ins (CO K) dx (ofl wd num v cs (.int 0) (.int 0))) := by rw [← hH1]; exact upd_same
    have o1 : Off [o] H H1 := by rw [← hH1]; exact Off.put (by simp)
    have hcs1 := hcs.off o1 ho
    have hver1 := hver.off o1 ho rfl
    obtain ⟨ct, pl, ts, h1, h2, h3, pts⟩ := id hcs1
    obtain ⟨l, d, n, ks, hV, clo, hk⟩ := id hver1
    have lts : ts.length = qs.length := Paired.length pts
    obtain ⟨dxv, hv⟩ := hV.1.at_
    have hv : H1 v = some (.ins (CV K) dxv (vf l d n)) := hv
    refine ⟨_, rfl, o, _, dx, _, _, rfl, ho1, T.c_Outcome, T.n_Outcome_course, ofl_course _ _ _ _ _ _, cs, rfl, ⟨_, .of h1⟩, ?_⟩
    refine for_list (xs := [.ref ct]) (fun i σ H' => (i = 0 ∧ σ = [some (.ref o), some (.int 0), none, none, none, none, none, none, none, none] ∧ H' = H1) ∨ (i = 1 ∧ Off [o] H H' ∧ H' cs = some (.lst [.ref ct]) ∧ H' o = some (.ins (CO K) dx (ofl wd num v cs (.int (sms rows qs : Nat)) (.int (mxd rows qs : Nat))))))
      (.inl ⟨rfl, rfl, rfl⟩) (fun i σ H' _ z => by
        rcases z with ⟨_, _, e⟩ | ⟨_, _, e, _⟩
        · rw [e]; exact .of h1
        · exact .of e) ?_ (fun σ H' z => by
        rcases z with ⟨e, _⟩ | ⟨_, a, _, b⟩
        · cases e
        · exact q H' a b)
    rintro i x σ H' hx (⟨rfl, rfl, rfl⟩ | ⟨rfl, _⟩)
    · cases (Option.some.inj hx)
      refine ⟨ct, _, rfl, .of h2, rfl, _, _, rfl, _, _, rfl, rfl, ?_⟩
      refine ⟨_, rfl, _, rfl, _, _, rfl, rfl, ?_⟩
      refine ⟨_, rfl, pl, rfl, ⟨_, .of h3⟩, fun D hD => ?_⟩
      refine lc_list (xs := ts.map V.ref) (fun i H2 => ∃ us : List Addr, H2 D = some (.lst (us.map V.ref)) ∧ Same H' H2 ∧ Paired (fun u q => H2 u = some (.tup (vtup (vd rows q)))) us (qs.take i)) ⟨[], upd_same, same_new hD, by rw [List.take_zero]; exact .nil⟩
        (fun i H2 _ ⟨_, _, s2, _⟩ => .of (s2 _ _ h3)) ?_ ?_
      · rintro i x H2 hx ⟨us, e, s2, pu⟩
        obtain ⟨t, ht, rfl⟩ : ∃ p, ts[i]? = some p ∧ x = V.ref p := by
          rw [List.getElem?_map] at hx
          cases e : ts[i]? with
          | none => rw [e] at hx; cases hx
          | some u => rw [e] at hx; exact ⟨u, rfl, (Option.some.inj hx).symm⟩
        obtain ⟨qq, hqq, hpq⟩ := Paired.at1 pts ht
        have hqm := List.mem_of_getElem? hqq
        refine ⟨rfl, yesT ⟨_, rfl, o, _, dx, _, _, rfl, s2 _ _ ho1, T.c_Outcome, T.n_Outcome_verdicts, ofl_verdicts _ _ _ _ _ _, v, dxv, _, rfl, s2 _ _ hv, rfl, _, rfl, v, l, d, t, n, rows, ks, qq, rfl, hpq.same s2, hV.same s2, clo, hV.1.inr qq (hk qq hqm), sm, fun _ H4 t4 s4 ht4 => ?_, fun z => absurd (hk qq hqm) z⟩⟩
        have e4 := s4 _ _ e
        refine ⟨us.map V.ref, e4, l9 _ ?_, us ++ [t4], by rw [upd_same]; simp, same_put (s2.trans s4) hD, ?_⟩
        · rw [List.length_map, Paired.length pu]
          exact Nat.le_trans (List.length_take_le' _ _) q3
        · have et : qs.take (i + 1) = qs.take i ++ [qq] := by rw [List.take_add_one, hqq]; rfl
          rw [et]
          have nt := lst_nt e4
          exact Paired.app (Paired.mapP pu fun u q z => Off.put (S := [D]) (by simp) _ _ (fun m => nt _ m _ (s4 _ _ z)) (s4 _ _ z)) (.cons (Off.put (S := [D]) (by simp) _ _ (fun m => nt _ m _ ht4) ht4) .nil)
      · rintro H3 ⟨us, eD, s3, pu⟩
        rw [List.length_map, lts, List.take_of_length_le (Nat.le_refl _)] at pu
        have lus : us.length = qs.length := Paired.length pu
        refine ⟨_, rfl, o, _, dx, _, _, rfl, s3 _ _ ho1, T.c_Outcome, T.n_Outcome_steps, ofl_steps _ _ _ _ _ _, _, rfl, _, rfl, D, rfl, ⟨_, .of eD⟩, fun D2 hD2 => ?_⟩
        refine lc_list (xs := us.map V.ref) (fun i H4 => H4 D2 = some (.lst (((qs.take i).map fun q => ((stp rows q : Nat) : Int)).map V.int)) ∧ Same H3 H4) ⟨upd_same, same_new hD2⟩ (fun i H4 _ ⟨_, s4⟩ => .of (s4 _ _ eD)) ?_ ?_
        · rintro i x H4 hx ⟨e4, s4⟩
          obtain ⟨u, hu, rfl⟩ : ∃ p, us[i]? = some p ∧ x = V.ref p := by
            rw [List.getElem?_map] at hx
            cases e : us[i]? with
            | none => rw [e] at hx; cases hx
            | some u => rw [e] at hx; exact ⟨u, rfl, (Option.some.inj hx).symm⟩
          obtain ⟨qq, hqq, hpq⟩ := Paired.at1 pu hu
          have hne := hends qq (List.mem_of_getElem? hqq)
          rw [vtup_ne hne] at hpq
          refine ⟨u, _, rfl, .of (s4 _ _ hpq), rfl, _, _, rfl, _, _, rfl, _, _, rfl, _, _, rfl, rfl, rfl, yesT ⟨_, rfl, _, e4, l9 _ ?_, ?_, same_put s4 hD2⟩⟩
          · rw [List.length_map, List.length_map]
            exact Nat.le_trans (List.length_take_le' _ _) q3
          · have et : qs.take (i + 1) = qs.take i ++ [qq] := by rw [List.take_add_one, hqq]; rfl
            rw [upd_same, et, ← stp_vd hne]
            simp
        · rintro H4 ⟨e4, s4⟩
          rw [List.length_map, lus, List.take_of_length_le (Nat.le_refl _)] at e4
          refine ⟨D2, _, rfl, .of e4, ?_⟩
          rw [sum_cast]
          refine ⟨_, _, rfl, rfl, _, _, rfl, rfl, dx, _, s4 _ _ (s3 _ _ ho1), by show 7 < 1000; decide, ?_⟩
          have ho4 := s4 _ _ (s3 _ _ ho1)
          have hcs4 : H4 cs = some (.lst [.ref ct]) := s4 _ _ (s3 _ _ h1)
          have o4 : Off [o] H H4 := o1.trans (Off.same (s3.trans s4))
          have eD4 := s4 _ _ eD
          have fin1 : ∀ z : Int, z = ((sms rows qs : Nat) : Int) → upd H4 o (.ins (CO K) dx (putF "steps" (.int z) (ofl wd num v cs (.int 0) (.int 0)))) o = some (.ins (CO K) dx (ofl wd num v cs (.int (sms rows qs : Nat)) (.int 0))) := by
            rintro z rfl
            exact upd_same
          have fin2 : ∀ (H6 : Hp) (z : Int), z = ((mxd rows qs : Nat) : Int) → upd H6 o (.ins (CO K) dx (putF "depth" (.int z) (ofl wd num v cs (.int (sms rows qs : Nat)) (.int 0)))) o = some (.ins (CO K) dx (ofl wd num v cs (.int (sms rows qs : Nat)) (.int (mxd rows qs : Nat)))) := by
            rintro H6 z rfl
            exact upd_same
          have oD : D ≠ o := ne_of eD4 ho4 (fun z => nomatch z)
          have ocs : cs ≠ o := ne_of hcs4 ho4 (fun z => nomatch z)
          refine ⟨_, rfl, o, _, dx, _, _, rfl, fin1 _ ?_, T.c_Outcome, T.n_Outcome_depth, ofl_depth _ _ _ _ _ _, _, rfl, _, rfl, D, rfl, ⟨_, .of (by rw [upd_ne oD]; exact eD4)⟩, fun D3 hD3 => ?_⟩
          · show (0 : Int) + ((0 : Int) + (((qs.map (stp rows)).sum : Nat) : Int)) = _
            unfold sms
            omega
          have oD3 : o ≠ D3 := fun z => by rw [← z, upd_same] at hD3; cases hD3
          have hD34 : H4 D3 = none := by rw [upd_ne oD3.symm] at hD3; exact hD3
          refine lc_list (xs := us.map V.ref) (fun i H6 => H6 D3 = some (.lst (((qs.take i).map fun q => ((dpt rows q : Nat) : Int)).map V.int)) ∧ Off [o] H4 H6 ∧ H6 o = some (.ins (CO K) dx (ofl wd num v cs (.int (sms rows qs : Nat)) (.int 0))))
            ⟨upd_same, (Off.put (by simp)).trans (Off.new hD3), by rw [upd_ne oD3]; exact fin1 _ (by show (0 : Int) + ((0 : Int) + (((qs.map (stp rows)).sum : Nat) : Int)) = _; unfold sms; omega)⟩ (fun i H6 _ ⟨_, o6, _⟩ => .of (o6 _ _ (by simpa using oD) eD4)) ?_ ?_
          · rintro i x H6 hx ⟨e6, o6, ho6⟩
            obtain ⟨u, hu, rfl⟩ : ∃ p, us[i]? = some p ∧ x = V.ref p := by
              rw [List.getElem?_map] at hx
              cases e : us[i]? with
              | none => rw [e] at hx; cases hx
              | some u => rw [e] at hx; exact ⟨u, rfl, (Option.some.inj hx).symm⟩
            obtain ⟨qq, hqq, hpq⟩ := Paired.at1 pu hu
            have hne := hends qq (List.mem_of_getElem? hqq)
            rw [vtup_ne hne] at hpq
            have hpq6 := o6 _ _ (by simpa using ne_of (s4 _ _ hpq) ho4 (fun z => nomatch z)) (s4 _ _ hpq)
            refine ⟨u, _, rfl, .of hpq6, rfl, _, _, rfl, _, _, rfl, _, _, rfl, _, _, rfl, rfl, rfl, yesT ⟨_, rfl, _, e6, l9 _ ?_, ?_, off_new o6 hD34, ?_⟩⟩
            · rw [List.length_map, List.length_map]
              exact Nat.le_trans (List.length_take_le' _ _) q3
            · have et : qs.take (i + 1) = qs.take i ++ [qq] := by rw [List.take_add_one, hqq]; rfl
              rw [upd_same, et, ← dpt_vd hne]
              simp
            · rw [upd_ne oD3]; exact ho6
          · rintro H6 ⟨e6, o6, ho6⟩
            rw [List.length_map, lus, List.take_of_length_le (Nat.le_refl _)] at e6
            have o46 : Off [o] H H6 := o4.trans o6
            have hcs6 : H6 cs = some (.lst [.ref ct]) := o6 _ _ (by simpa using ocs) hcs4
            refine ⟨D3, _, 0, rfl, rfl, .of e6, fun hnil => ?_, fun m hm hall => ?_⟩
            · have hq0 : qs = [] := by
                cases qs with
                | nil => rfl
                | cons a b => cases hnil
              have eM : (0 : Int) = ((mxd rows qs : Nat) : Int) := by rw [hq0]; rfl
              refine ⟨_, _, rfl, rfl, _, _, rfl, _, rfl, o, _, dx, _, rfl, ho6, T.c_Outcome, T.n_Outcome_depth, by show 7 < 1000; decide, .inr ⟨rfl, o46.trans (Off.put (by simp)), by rw [upd_ne ocs]; exact hcs6, fin2 _ _ ?_⟩⟩
              show (if ((0 : Int) + 0 + 0) > (0 : Int) then ((0 : Int) + 0 + 0) else (0 : Int)) = _
              rw [← eM]
              rfl
            · have eM : m = ((mxd rows qs : Nat) : Int) := by
                obtain ⟨qq, hqm, rfl⟩ := List.mem_map.mp hm
                unfold mxd
                rw [foldr_max_eq (m := dpt rows qq) (List.mem_map_of_mem hqm) fun x hx => by
                  obtain ⟨q2, hq2, rfl⟩ := List.mem_map.mp hx
                  have := hall _ (List.mem_map_of_mem (f := fun q => ((dpt rows q : Nat) : Int)) hq2)
                  omega]
              refine ⟨_, _, rfl, rfl, _, _, rfl, _, rfl, o, _, dx, _, rfl, ho6, T.c_Outcome, T.n_Outcome_depth, by show 7 < 1000; decide, .inr ⟨rfl, o46.trans (Off.put (by simp)), by rw [upd_ne ocs]; exact hcs6, fin2 _ _ ?_⟩⟩
              show (if ((0 : Int) + 0 + m) > (0 : Int) then ((0 : Int) + 0 + m) else (0 : Int)) = _
              split <;> omega
    · rename_i z
      exact absurd hx (by simp)
end
end Rg
end
section
set_option Elab.async false
set_option linter.all false
set_option maxRecDepth 100000
set_option maxHeartbeats 4000000
/-! Outcomes: made, asked. -/
namespace Rg
open PySem PySem.Spec PyProof.Rows L2
section
variable {P : Program} {w : World} {K : PySem.W.Frag} {mg : Str → Option Value} {base : Heap}
theorem endless_str (w : Str) : decide (V.str w = V.str "endless") = decide (w = "endless") := by
  rw [Bool.eq_iff_iff, decide_eq_true_eq, decide_eq_true_eq]
  exact ⟨fun h => V.str.inj h, fun h => by rw [h]⟩
def sp_O_init (CVa COa : Addr) : Sp := fun vs H Q _ => ∃ (o dx v cs : Addr) (wd : Str) (num : V) (rows : Rows) (qs : List Pr), vs = [.ref o, .str wd, .ref v, .ref cs, num, .non] ∧ H o = some (.ins COa dx []) ∧ CrsAt H cs qs ∧ VerC CVa H v rows qs ∧ Small rows ∧ qs.length ≤ 3 ∧
  (wd ≠ "endless" → ∀ q ∈ qs, (vd rows q).wd ≠ .en) ∧ ∀ H', Off [o] H H' → H' o = some (.ins COa dx (ofl wd num v cs (stV wd rows qs) (dpV wd rows qs))) → Q .non H'
theorem r_O_init (T : Tx K mg) {fd : FuncData} (G : FunD K "__init__" "Outcome.__init__" (defArgs sO_init) (defBody sO_init) (defScope sO_init) [] [("number", V.non), ("loop", V.non)] (He.ma K (CO K) "__init__") fd) :
    FnOk P w K mg base CX0 7 (He.ma K (CO K) "__init__") fd pO_init (sp_O_init (CV K) (CO K)) := by
  refine fnk G cO_init (fun vs H Q E h => ?_) (fun cdv A outer s H vs Q E hr h => ?_)
  · obtain ⟨o, dx, v, cs, wd, num, rows, qs, rfl, _⟩ := h; rfl
  · obtain ⟨o, dx, v, cs, wd, num, rows, qs, rfl, ho, hcs, hver, sm, q3, hends, q⟩ := h
    have nd := cO_init.nd
    obtain ⟨te, he⟩ := T.t_ENDLESS
    refine ⟨_, pss_cons (ps_fld (pv 0) (pv 1) rfl) (pss_cons (ps_fld (pv 0) (pv 4) rfl) (pss_cons (ps_fld (pv 0) (pv 2) rfl) (pss_cons (ps_fld (pv 0) (pv 3) rfl) (pss_cons (ps_fld (pv 0) (pv 5) rfl)
      (pss_cons (ps_asg2 pe_non (pg_fld (pv 0)) (pg_fld (pv 0)))
      (pss_one (ps_if (pt_cmpR op_ne (pv 1) (pe_glob (v := .str "endless") (by rfl) he ⟨_, rfl⟩) (nomark _)) (pss_one (ps_expr (pe_mt0 (pv 0) T.c_Outcome T.m_Outcome_measure (r_measure T) hr))) pss_nil))))))), ?_⟩
    refine ⟨_, rfl, _, rfl, o, _, dx, _, rfl, ho, T.c_Outcome, T.n_Outcome_word, by show 0 < 1000; decide, ?_⟩
    refine ⟨_, rfl, _, rfl, o, _, dx, _, rfl, upd_same, T.c_Outcome, T.n_Outcome_number, by show 1 < 1000; decide, ?_⟩
    refine ⟨_, rfl, _, rfl, o, _, dx, _, rfl, upd_same, T.c_Outcome, T.n_Outcome_verdicts, by show 2 < 1000; decide, ?_⟩
    refine ⟨_, rfl, _, rfl, o, _, dx, _, rfl, upd_same, T.c_Outcome, T.n_Outcome_course, by show 3 < 1000; decide, ?_⟩
    refine ⟨_, rfl, _, rfl, o, _, dx, _, rfl, upd_same, T.c_Outcome, T.n_Outcome_loop, by show 4 < 1000; decide, ?_⟩
    refine ⟨_, rfl, o, _, dx, _, rfl, upd_same, T.c_Outcome, T.n_Outcome_steps, by show 5 < 1000; decide, _, rfl, o, _, dx, _, rfl, upd_same, T.c_Outcome, T.n_Outcome_depth, by show 6 < 1000; decide, ?_⟩
    simp only [upd_upd]
    generalize hH1 : upd H o (.ins (CO K) dx (putF "depth" .non (putF "steps" .non (putF "loop" .non (putF "course" (.ref cs) (putF "verdicts" (.ref v) (putF "number" num (putF "word" (.str wd) [])))))))) = H1
    have ho1 : H1 o = some (.ins (CO K) dx (ofl wd num v cs .non .non)) := by rw [← hH1]; exact upd_same
    have o1 : Off [o] H H1 := by rw [← hH1]; exact Off.put (by simp)
    have hcs1 := hcs.off o1 ho
    have hver1 := hver.off o1 ho rfl
    refine ⟨_, rfl, rfl, _, rfl, ?_⟩
    rw [endless_str]
    by_cases hw : wd = "endless"
    · rw [decide_eq_true hw]
      refine iteF (q H1 o1 ?_)
      unfold stV dpV
      rw [if_pos hw, if_pos hw]
      exact ho1
    · rw [decide_eq_false hw]
      refine iteT ⟨_, rfl, o, dx, _, rfl, ho1, rfl, o, dx, v, cs, wd, num, rows, qs, rfl, ho1, hcs1, hver1, sm, q3, hends hw, fun H2 o2 ho2 => q H2 (o1.trans o2) ?_⟩
      unfold stV dpV
      rw [if_neg hw, if_neg hw]
      exact ho2
def sp_ends (COa : Addr) : Sp := fun vs H Q _ => ∃ (o dx v cs : Addr) (wd : Str) (num st dp : V), vs = [.ref o] ∧ H o = some (.ins COa dx (ofl wd num v cs st dp)) ∧ Q (.bl (!decide (wd = "endless"))) H
theorem r_ends (T : Tx K mg) {g : Addr} (F : FnQ K "ends" "Outcome.ends" sO_ends [] g) : FnR P w K mg base CX0 1 g (sp_ends (CO K)) := by
  refine fnr F cO_ends (fun vs H Q E h => ?_) (fun _ _ _ _ _ _ us hl => match us, hl with | [_], _ => rfl) (fun cdv A outer s H vs Q E hr h => ?_)
  · obtain ⟨o, dx, v, cs, wd, num, st, dp, rfl, _⟩ := h; rfl
  · obtain ⟨o, dx, v, cs, wd, num, st, dp, rfl, ho, q⟩ := h
    obtain ⟨te, he⟩ := T.t_ENDLESS
    refine ⟨_, pss_one (ps_ret (pe_cmpR op_ne (pe_fld (pv 0) rfl) (pe_glob (v := .str "endless") (by rfl) he ⟨_, rfl⟩) (nomark _))), ?_⟩
    refine ⟨_, rfl, o, _, dx, _, _, rfl, ho, T.c_Outcome, T.n_Outcome_word, ofl_word _ _ _ _ _ _, rfl, ?_⟩
    rw [endless_str]
    exact q
def sp_word_at (COa : Addr) : Sp := fun vs H Q _ => ∃ (o dx v cs : Addr) (wd : Str) (num st dp : V), vs = [.ref o, .non] ∧ H o = some (.ins COa dx (ofl wd num v cs st dp)) ∧ wd ≠ "endless" ∧ Q (.str wd) H
theorem r_word_at (T : Tx K mg) : FnR P w K mg base CX0 3 (He.ga K "word_at") (sp_word_at (CO K)) := by
  obtain ⟨qa, ga, hpr, hF⟩ := T.pr_ends
  refine fnr T.F_word_at c_word_at (fun vs H Q E h => ?_) (fun _ _ _ _ _ _ us hl => match us, hl with | [_, _], _ => rfl) (fun cdv A outer s H vs Q E hr h => ?_)
  · obtain ⟨o, dx, v, cs, wd, num, st, dp, rfl, _⟩ := h; rfl
  · obtain ⟨o, dx, v, cs, wd, num, st, dp, rfl, ho, hw, q⟩ := h
    refine ⟨_, pss_cons (ps_if (pt_cmpR op_isN (pv 1) pe_non (nomark _)) (pss_cons (ps_if (pt_not (pt_val (pe_pr (pv 0) T.c_Outcome hpr (r_ends T hF) hr))) pss_never pss_nil) (pss_one (ps_ret (pe_fld (pv 0) rfl)))) pss_nil) pss_never, ?_⟩
    refine ⟨_, rfl, rfl, _, rfl, iteT ?_⟩
    refine ⟨_, rfl, o, dx, _, rfl, ho, o, dx, v, cs, wd, num, st, dp, rfl, ho, ?_⟩
    rw [decide_eq_false hw]
    exact ⟨_, rfl, iteF ⟨_, rfl, o, _, dx, _, _, rfl, ho, T.c_Outcome, T.n_Outcome_word, ofl_word _ _ _ _ _ _, q⟩⟩
open Classical in
/-- what an outcome says where L pairs may be open -/
noncomputable def atF (rows : Rows) (wd : Str) (qs : List Pr) (L : Nat) : Str × Nat := if ∃ q ∈ qs, Deep rows q L then ("too deep", walkK rows (sud rows L) L qs) else (wd, sms rows qs)
def sp_O_at (CVa COa : Addr) : Sp := fun vs H Q _ => ∃ (o : Addr) (z : Int) (L : Nat) (wd : Str) (num : V) (rows : Rows) (qs : List Pr), vs = [.ref o, .int z] ∧ z = (L : Int) ∧ 1 ≤ L ∧ L ≤ 10 ^ 30 ∧ OutAt CVa COa H o wd num rows qs ∧ Small rows ∧
  ∀ H' t, Same H H' → H' t = some (.tup [.str (atF rows wd qs L).1, .int ((atF rows wd qs L).2 : Int)]) → Q (.ref t) H'
theorem r_O_at (T : Tx K mg) : FnR P w K mg base CX0 8 (He.ma K (CO K) "at") (sp_O_at (CV K) (CO K)) := by
  refine fnr T.FO_at cO_at (fun vs H Q E h => ?_) (fun _ _ _ _ _ _ us hl => match us, hl with | [_, _], _ => rfl) (fun cdv A outer s H vs Q E hr h => ?_)
  · obtain ⟨o, z, L, wd, num, rows, qs, rfl, _⟩ := h; rfl
  · obtain ⟨o, z, L, wd, num, rows, qs, rfl, rfl, hL1, hL, hO, sm, q⟩ := h
    have nd := cO_at.nd
    obtain ⟨te, he⟩ := T.t_ENDLESS
    obtain ⟨td, hd⟩ := T.t_TOO_DEEP
    obtain ⟨tl, hl⟩ := T.t_MOST_LIMIT
    refine ⟨_, pss_cons (ps_if (pt_not (pt_val (pe_fn (r_is_within T) (hr.mono (by decide)) (by rfl) T.g_is_within (kpq T.F_is_within) (pa_cons (pv 1) (pa_cons pe_int (pa_cons (pe_glob (v := .int (10 ^ 30)) (by rfl) hl ⟨_, rfl⟩) pa_nil)))))) pss_never pss_nil)
      (pss_mid (ps_if (PW.pt (pw_and (pt_cmpR op_ne (pe_fld (pv 0) rfl) (pe_glob (v := .str "endless") (by rfl) he ⟨_, rfl⟩) (nomark _)) (pw_and1 (pt_cmpR op_le (pe_fld (pv 0) rfl) (pv 1) (nomark _))))) (pss_one (ps_ret (pe_tup (pa_cons (pe_fld (pv 0) rfl) (pa_cons (pe_fld (pv 0) rfl) pa_nil))))) pss_nil)
      (pss_cons (ps_par3 (i := 2) (j := 3) (l := 4) rfl nd rfl rfl rfl (by decide) (by decide) (by decide) rfl rfl rfl (pa_cons (pv 1) (pa_cons pe_int (pa_cons pe_int pa_nil))) (by rfl))
      (pss_cons (ps_while PassesOwn.never (pt_cmpR op_lt (pv 4) (pe_callB call_len_seq (by rfl) T.z_len boot_len (pa_cons (pe_fld (pv 0) rfl) pa_nil)) (nomark _))
        (pss_cons (ps_if (pt_cmpR op_eq (pv 4) (pe_fld (pv 0) rfl) (nomark _)) pss_never pss_nil)
        (pss_cons (ps_asg (pe_ix ix_list (pe_fld (pv 0) rfl) (pv 4) (fun _ _ => rfl)) (pg_tup (n := 2) rfl (pgs_cons (pg_name (i := 5) nd rfl (.inl rfl)) (pgs_cons (pg_name (i := 6) nd rfl (.inl rfl)) pgs_nil))))
        (pss_cons (ps_if (pt_cmpR op_gt (pv 5) (pv 2) (nomark _)) pss_never pss_nil)
        (pss_cons (ps_par (i := 3) (j := 2) rfl nd rfl rfl (by decide) rfl rfl (pa_cons (pe_op op_add (pv 3) (pv 5)) (pa_cons (pe_op op_sub (pv 2) (pv 5)) pa_nil)) (by rfl))
        (pss_cons (ps_for PassesOwn.never rfl (pi_list (pv 6)) (pg_name (i := 7) nd rfl (.inl rfl))
          (pss_cons (ps_asg (pe_mt (pe_fld (pv 0) rfl) T.c_Verdicts T.m_Verdicts_of_pair (r_of_pair T) (hr.mono (by decide)) (pa_cons (pv 7) pa_nil)) (pg_tup (n := 4) rfl (pgs_cons (pg_name (i := 8) nd rfl (.inl rfl)) (pgs_cons (pg_name (i := 9) nd rfl (.inl rfl)) (pgs_cons (pg_name (i := 10) nd rfl (.inl rfl)) (pgs_cons (pg_name (i := 11) nd rfl (.inl rfl)) pgs_nil))))))
          (pss_cons (ps_if (PW.pt (pw_or (pt_cmpR op_eq (pv 8) (pe_glob (v := .str (wst .en)) (by rfl) he ⟨_, rfl⟩) (nomark _)) (pw_or1 (pt_cmpR op_gt (pv 10) (pv 2) (nomark _)))))
            (pss_one (ps_ret (pe_tup (pa_cons (pe_glob (v := .str "too deep") (by rfl) hd ⟨_, rfl⟩) (pa_cons (pe_op op_add (pv 3) (pe_fn (r_sud T) hr (by rfl) T.g_steps_until_deep (kpq T.F_steps_until_deep) (pa_cons (pe_fld (pv 0) rfl) (pa_cons (pv 7) (pa_cons (pv 2) pa_nil))))) pa_nil))))) pss_nil)
          (pss_one (ps_aug (i := 3) nd rfl (.inl rfl) (pv 9) ip_add)))))
        (pss_cons (ps_aug (i := 4) nd rfl (.inl rfl) pe_int ip_add)
        (pss_one (ps_if (PW.pt (pw_and (pt_cmpR op_eq (pv 4) (pe_callB call_len_seq (by rfl) T.z_len boot_len (pa_cons (pe_fld (pv 0) rfl) pa_nil)) (nomark _)) (pw_and1 (pt_cmpR op_notN (pe_fld (pv 0) rfl) pe_non (nomark _))))) pss_never pss_nil)))))))))
      (pss_one (ps_ret (pe_tup (pa_cons (pe_fld (pv 0) rfl) (pa_cons (pv 3) pa_nil)))))))), ?_⟩
    obtain ⟨⟨dx, v, cs, ho, hcs, hver⟩, hends⟩ := hO
    obtain ⟨ct, pl, ts, h1, h2, h3, pts⟩ := hcs
    obtain ⟨l, d, n, ks, hV, clo, hk⟩ := hver
    obtain ⟨dxv, hv⟩ := hV.1.at_
    have hv : H v = some (.ins (CV K) dxv (vf l d n)) := hv
    have lts : ts.length = qs.length := Paired.length pts
    have two : (2 : Nat) ≤ sizeLine := by decide
    have atN : (∀ q ∈ qs, ¬ Deep rows q L) → atF rows wd qs L = (wd, sms rows qs) := fun h => if_neg fun ⟨q, hq, hd⟩ => h q hq hd
    refine ⟨_, rfl, _, _, _, rfl, ?_⟩
    have e0 : decide ((1 : Int) ≤ (L : Int) ∧ (L : Int) ≤ 10 ^ 30) = true := decide_eq_true ⟨by omega, by omega⟩
    rw [e0]
    refine ⟨_, rfl, iteF ?_⟩
    refine ⟨fun σ1 H1 => σ1 = [some (.ref o), some (.int (L : Int)), none, none, none, none, none, none, none, none, none, none] ∧ H1 = H, ?_, ?_⟩
    · refine ⟨_, rfl, o, _, dx, _, _, rfl, ho, T.c_Outcome, T.n_Outcome_word, ofl_word _ _ _ _ _ _, rfl, _, rfl, ?_⟩
      rw [endless_str]
      by_cases hw : wd = "endless"
      · rw [decide_eq_true hw]
        exact iteF (iteF ⟨rfl, rfl⟩)
      · rw [decide_eq_false hw]
        refine iteT ⟨_, rfl, o, _, dx, _, _, rfl, ho, T.c_Outcome, T.n_Outcome_depth, ofl_depth _ _ _ _ _ _, _, rfl, _, _, if_neg hw, rfl, _, rfl, ?_⟩
        by_cases hm : mxd rows qs ≤ L
        · have e1 : decide (((mxd rows qs : Nat) : Int) ≤ (L : Int)) = true := decide_eq_true (by omega)
          rw [e1]
          refine iteT ⟨_, rfl, o, _, dx, _, _, rfl, ho, T.c_Outcome, T.n_Outcome_word, ofl_word _ _ _ _ _ _, _, rfl, o, _, dx, _, _, rfl, ho, T.c_Outcome, T.n_Outcome_steps, ofl_steps _ _ _ _ _ _, two, fun t ht => q _ t (same_new ht) ?_⟩
          rw [upd_same, atN fun qq hq hdp => ?_]
          · rw [show stV wd rows qs = V.int (sms rows qs : Nat) from if_neg hw]
          · rcases deep_iff.mp hdp with z | z
            · exact hends hw qq hq z
            · rw [← dpt_vd (hends hw qq hq)] at z
              have : dpt rows qq ≤ mxd rows qs := foldr_max_ge (List.mem_map_of_mem hq)
              omega
        · have e1 : decide (((mxd rows qs : Nat) : Int) ≤ (L : Int)) = false := decide_eq_false (by omega)
          rw [e1]
          exact iteF ⟨rfl, rfl⟩
    · rintro σ1 H1 ⟨rfl, rfl⟩
      refine ⟨_, rfl, _, _, _, rfl, ?_⟩
      refine while_m (fun m σ H' => Same H1 H' ∧ ((m = 1 ∧ ∃ (o5 o6 o7 o8 o9 o10 o11 : Option V), σ = [some (.ref o), some (.int (L : Int)), some (.int (L : Int)), some (.int 0), some (.int 0), o5, o6, o7, o8, o9, o10, o11]) ∨
        (m = 0 ∧ ∃ (o2 o5 o6 o7 o8 o9 o10 o11 : Option V) (k s1 : Int), σ = [some (.ref o), some (.int (L : Int)), o2, some (.int s1), some (.int k), o5, o6, o7, o8, o9, o10, o11] ∧ k = 1 ∧ s1 = (sms rows qs : Nat) ∧ ∀ q ∈ qs, ¬ Deep rows q L)))
        ⟨1, Same.refl _, .inl ⟨rfl, _, _, _, _, _, _, _, rfl⟩⟩ ?_ ?_
      · rintro m σ H' ⟨sH, ⟨rfl, o5, o6, o7, o8, o9, o10, o11, rfl⟩ | ⟨rfl, o2, o5, o6, o7, o8, o9, o10, o11, k, s1, rfl, rfl, rfl, hnd⟩⟩
        · refine ⟨_, rfl, _, rfl, o, _, dx, _, _, rfl, sH _ _ ho, T.c_Outcome, T.n_Outcome_course, ofl_course _ _ _ _ _ _, cs, _, rfl, .inl (.of (sH _ _ h1)), _, _, rfl, rfl, _, rfl, ?_⟩
          refine ite2 (fun _ => ?_) (fun z => absurd (show decide ((0 : Int) < (([V.ref ct] : List V).length : Int)) = true from rfl) z)
          refine ⟨_, rfl, _, rfl, o, _, dx, _, _, rfl, sH _ _ ho, T.c_Outcome, T.n_Outcome_loop, ofl_loop _ _ _ _ _ _, rfl, _, rfl, iteF ?_⟩
          refine ⟨_, rfl, o, _, dx, _, _, rfl, sH _ _ ho, T.c_Outcome, T.n_Outcome_course, ofl_course _ _ _ _ _ _, _, rfl, cs, _, 0, .ref ct, rfl, rfl, .of (sH _ _ h1), rfl, ct, _, rfl, .of (sH _ _ h2), rfl, _, _, rfl, _, _, rfl, rfl, ?_⟩
          refine ⟨_, rfl, _, rfl, _, _, rfl, rfl, _, rfl, ?_⟩
          refine ite2 (fun z => ?_) (fun _ => ?_)
          · have := of_decide_eq_true z
            omega
          refine ⟨_, rfl, _, rfl, _, _, rfl, rfl, _, rfl, _, rfl, _, _, rfl, rfl, .int 0, .int (L : Int), ?_, ?_⟩
          · show [V.int ((0 : Int) + 0), V.int ((L : Int) - 0)] = _
            rw [Int.sub_zero]
            rfl
          refine ⟨_, rfl, pl, rfl, ⟨_, .of (sH _ _ h3)⟩, ?_⟩
          refine for_list (xs := ts.map V.ref) (fun i σ H2 => ∃ (o7 o8 o9 o10 o11 : Option V), σ = [some (.ref o), some (.int (L : Int)), some (.int (L : Int)), some (.int (sms rows (qs.take i) : Nat)), some (.int 0), some (.int 0), some (.ref pl), o7, o8, o9, o10, o11] ∧ Same H1 H2 ∧ ∀ q ∈ qs.take i, ¬ Deep rows q L)
            ⟨_, _, _, _, _, rfl, sH, fun q hq => by simp at hq⟩ (fun i σ H2 _ ⟨_, _, _, _, _, _, s2, _⟩ => .of (s2 _ _ h3)) ?_ ?_
          · rintro i x σ H2 hx ⟨o7, o8, o9, o10, o11, rfl, s2, hnd⟩
            obtain ⟨u, hu, rfl⟩ : ∃ p, ts[i]? = some p ∧ x = V.ref p := by
              rw [List.getElem?_map] at hx
              cases e : ts[i]? with
              | none => rw [e] at hx; cases hx
              | some u => rw [e] at hx; exact ⟨u, rfl, (Option.some.inj hx).symm⟩
            obtain ⟨c, hc, hcu⟩ := Paired.at1 pts hu
            have hcm := List.mem_of_getElem? hc
            have hck := hk c hcm
            refine ⟨_, rfl, o, _, dx, _, _, rfl, s2 _ _ ho, T.c_Outcome, T.n_Outcome_verdicts, ofl_verdicts _ _ _ _ _ _, v, dxv, _, rfl, s2 _ _ hv, rfl, _, rfl, v, l, d, u, n, rows, ks, c, rfl, hcu.same s2, hV.same s2, clo, hV.1.inr c hck, sm, fun _ H4 t4 s4 ht4 => ?_, fun z => absurd hck z⟩
            have s14 : Same H1 H4 := s2.trans s4
            have deepq : Deep rows c L → ∀ H5 t, Same H1 H5 → H5 t = some (.tup [.str "too deep", .int ((sms rows (qs.take i) : Nat) + (sud rows L c : Nat) : Int)]) → Q (.ref t) H5 := fun hdc H5 t s5 ht5 => by
              refine q H5 t s5 (ht5.trans ?_)
              have ea : atF rows wd qs L = (("too deep" : Str), walkK rows (sud rows L) L qs) := if_pos ⟨c, hcm, hdc⟩
              obtain ⟨hi, ec⟩ := List.getElem?_eq_some_iff.mp hc
              have esplit : qs = qs.take i ++ c :: qs.drop (i + 1) := by
                rw [← ec, ← List.drop_eq_getElem_cons hi, List.take_append_drop]
              have ew : walkK rows (sud rows L) L qs = sms rows (qs.take i) + sud rows L c := by
                conv => lhs; rw [esplit]
                rw [walkK_app _ _ hnd, walkK_pos hdc]
                rfl
              rw [ea, ew]
              rfl
            have retn : Deep rows c L → ∀ (wv cv dv pv' : V), tRet (tTup (tCons (tC (.str "too deep")) (tCons (tOp (rI0 fun i j => .int (i + j)) (tVar 3) (tFn (sp_sud (CV K)) (tCons (tFld K (tVar 0) "verdicts") (tCons (tVar 7) (tCons (tVar 2) tNil))))) tNil)))
                { nx := fun _ _ => False, rt := Q } [some (.ref o), some (.int (L : Int)), some (.int (L : Int)), some (.int (sms rows (qs.take i) : Nat)), some (.int 0), some (.int 0), some (.ref pl), some (.ref u), some wv, some cv, some dv, some pv'] H4 := fun hdc wv cv dv pv' => by
              refine ⟨_, rfl, _, rfl, o, _, dx, _, _, rfl, s14 _ _ ho, T.c_Outcome, T.n_Outcome_verdicts, ofl_verdicts _ _ _ _ _ _, _, rfl, _, rfl, v, l, d, u, n, rows, ks, c, L, _, rfl, rfl, hcu.same s14, hV.same s14, clo, hck, sm, hL, hdc, fun H5 s5 => ⟨_, _, rfl, rfl, two, fun t ht => ?_⟩⟩
              exact deepq hdc _ t ((s14.trans s5).trans (same_new ht)) upd_same
            by_cases hw : (vd rows c).wd = .en
            · rw [vtup_en hw] at ht4
              refine ⟨t4, _, rfl, .of ht4, rfl, _, _, rfl, _, _, rfl, _, _, rfl, _, _, rfl, rfl, ?_⟩
              refine ⟨_, rfl, rfl, _, rfl, ?_⟩
              have e9 : decide (V.str "endless" = V.str (wst .en)) = true := decide_eq_true rfl
              rw [e9]
              exact iteT (iteT (retn (deep_iff.mpr (.inl hw)) _ _ _ _))
            · rw [vtup_ne hw] at ht4
              refine ⟨t4, _, rfl, .of ht4, rfl, _, _, rfl, _, _, rfl, _, _, rfl, _, _, rfl, rfl, ?_⟩
              refine ⟨_, rfl, rfl, _, rfl, ?_⟩
              have e9 : decide (V.str (wst (vd rows c).wd) = V.str (wst .en)) = false := (wst_en _).trans (decide_eq_false hw)
              rw [e9]
              refine iteF ⟨_, rfl, _, rfl, _, _, rfl, rfl, _, rfl, ?_⟩
              by_cases hdp2 : L < (vd rows c).depth
              · have e10 : decide ((L : Int) < ((vd rows c).depth : Int)) = true := decide_eq_true (by omega)
                rw [e10]
                exact iteT (retn (deep_iff.mpr (.inr hdp2)) _ _ _ _)
              · have e10 : decide ((L : Int) < ((vd rows c).depth : Int)) = false := decide_eq_false (by omega)
                rw [e10]
                have et : qs.take (i + 1) = qs.take i ++ [c] := by rw [List.take_add_one, hc]; rfl
                have ex : ((sms rows (qs.take i) : Nat) : Int) + ((vd rows c).steps : Int) = ((sms rows (qs.take (i + 1)) : Nat) : Int) := by
                  have ec : (List.map (stp rows) [c]).sum = (vd rows c).steps := by simp [stp_vd hw]
                  unfold sms
                  rw [et, List.map_append, List.sum_append, ec]
                  omega
                refine iteF ⟨_, rfl, _, rfl, _, _, rfl, rfl, some (.ref u), some (.str (wst (vd rows c).wd)), some (.int ((vd rows c).steps : Int)), some (.int ((vd rows c).depth : Int)), some (.int (vd rows c).place), ?_, s14, ?_⟩
                · rw [← ex]
                  rfl
                · intro q hq
                  rw [et] at hq
                  rcases List.mem_append.mp hq with z | z
                  · exact hnd q z
                  · cases List.mem_singleton.mp z
                    rw [deep_iff]
                    exact fun z => z.elim hw hdp2
          · rintro σ H2 ⟨o7, o8, o9, o10, o11, rfl, s2, hnd⟩
            rw [List.length_map, lts, List.take_of_length_le (Nat.le_refl _)] at hnd
            refine ⟨_, rfl, _, _, rfl, rfl, ?_⟩
            refine ⟨_, rfl, _, rfl, o, _, dx, _, _, rfl, s2 _ _ ho, T.c_Outcome, T.n_Outcome_course, ofl_course _ _ _ _ _ _, cs, _, rfl, .inl (.of (s2 _ _ h1)), rfl, _, rfl, ?_⟩
            refine ite2 (fun _ => ?_) (fun z => ?_)
            · refine ⟨_, rfl, o, _, dx, _, _, rfl, s2 _ _ ho, T.c_Outcome, T.n_Outcome_loop, ofl_loop _ _ _ _ _ _, rfl, _, rfl, iteF ?_⟩
              refine ⟨0, by omega, s2, .inr ⟨rfl, _, _, _, _, _, _, _, _, _, _, rfl, rfl, ?_, hnd⟩⟩
              rw [List.length_map, lts, List.take_of_length_le (Nat.le_refl _)]
            · exact absurd (decide_eq_true (show V.int ((0 : Int) + 1) = V.int (([V.ref ct] : List V).length : Int) from rfl)) z
        · refine ⟨_, rfl, _, rfl, o, _, dx, _, _, rfl, sH _ _ ho, T.c_Outcome, T.n_Outcome_course, ofl_course _ _ _ _ _ _, cs, _, rfl, .inl (.of (sH _ _ h1)), _, _, rfl, rfl, _, rfl, ?_⟩
          refine ite2 (fun z => ?_) (fun _ => ?_)
          · have : (1 : Int) < (([V.ref ct] : List V).length : Int) := of_decide_eq_true z
            simp at this
          refine ⟨_, rfl, o, _, dx, _, _, rfl, sH _ _ ho, T.c_Outcome, T.n_Outcome_word, ofl_word _ _ _ _ _ _, _, rfl, two, fun t ht => q _ t (sH.trans (same_new ht)) ?_⟩
          rw [upd_same, atN hnd]
      · intro σ H Q Q' hq h
        obtain ⟨x, e, x2, e2, a, C, dx, fs, w, h1, h2, h3, h4, h5, p, ys, h6, h7, i, j, h8, h9, b, h10, h11⟩ := h
        exact ⟨x, e, x2, e2, a, C, dx, fs, w, h1, h2, h3, h4, h5, p, ys, h6, h7, i, j, h8, h9, b, h10, hq _ _ h11⟩
end
end Rg
end
section
set_option Elab.async false
set_option linter.all false
set_option maxRecDepth 100000
set_option maxHeartbeats 4000000
/-! How keyword-only parameters are bound. -/
namespace Rg
open PySem PySem.Spec PyProof.Rows L2
section
variable {K : PySem.W.Frag} {f : Addr} {fd : FuncData}
abbrev KwF (x q : Str) (st : Stmt) (kws : List (Str × V)) (K : PySem.W.Frag) (f : Addr) (fd : FuncData) : Prop := FunD K x q (defArgs st) (defBody st) (defScope st) [] kws f fd
theorem b_find0 (F : KwF "find" "find" s_find [("since", V.int 0)] K f fd) : ∃ ds, Vals [V.int 0] ds ∧ Binds K fd p_find ds :=
  FunD.binds0 (ps := p_find) F 3 (by simp) rfl fun D _ _ _ _ _ us ks h1 h2 => match us, ks, h1, h2 with
    | [_, _, _], [_], _, _ => ⟨_, _, _, _, _, _, rfl, rfl, rfl⟩
theorem b_find1 (F : KwF "find" "find" s_find [("since", V.int 0)] K f fd) : KBn K fd p_find 3 ["since"] (fun us ws => us ++ ws) (fun vs zs => vs ++ zs) := by
  obtain ⟨mv, h⟩ := FunD.kbinds0 (ps := p_find) F 3 ["since"] [] (fun us mv ws => us ++ ws) (by simp) (fun q h => absurd h List.not_mem_nil) (fun r1 _ r3 => r1.append r3) fun D _ _ _ _ _ us mv ws h1 h2 h3 => match us, mv, ws, h1, h2, h3 with
    | [_, _, _], [], [_], _, _, _ => rfl
  exact h
theorem b_contains0 (F : KwF "contains" "contains" s_contains [("limit", V.non)] K f fd) : ∃ ds, Vals [V.non] ds ∧ Binds K fd p_contains ds :=
  FunD.binds0 (ps := p_contains) F 3 (by simp) rfl fun D _ _ _ _ _ us ks h1 h2 => match us, ks, h1, h2 with
    | [_, _, _], [_], _, _ => ⟨_, _, _, _, _, _, rfl, rfl, rfl⟩
theorem b_remove0 (F : KwF "remove" "remove" s_remove [("limit", V.non)] K f fd) : ∃ ds, Vals [V.non] ds ∧ Binds K fd p_remove ds :=
  FunD.binds0 (ps := p_remove) F 3 (by simp) rfl fun D _ _ _ _ _ us ks h1 h2 => match us, ks, h1, h2 with
    | [_, _, _], [_], _, _ => ⟨_, _, _, _, _, _, rfl, rfl, rfl⟩
theorem b_out0 (F : KwF "__init__" "Outcome.__init__" sO_init [("number", V.non), ("loop", V.non)] K f fd) : ∃ ds, Vals [V.non, V.non] ds ∧ Binds K fd pO_init ds :=
  FunD.binds0 (ps := pO_init) F 4 (by simp) rfl fun D _ _ _ _ _ us ks h1 h2 => match us, ks, h1, h2 with
    | [_, _, _, _], [_, _], _, _ => ⟨_, _, _, _, _, _, rfl, rfl, ⟨_, _, _, _, _, _, rfl, rfl, rfl⟩⟩
theorem b_out1 (F : KwF "__init__" "Outcome.__init__" sO_init [("number", V.non), ("loop", V.non)] K f fd) : ∃ mv : List Value, KBn K fd pO_init 4 ["number"] (fun us ws => us ++ (ws ++ mv)) (fun vs zs => vs ++ (zs ++ [V.non])) :=
  FunD.kbinds0 (ps := pO_init) F 4 ["number"] [("loop", V.non)] (fun us mv ws => us ++ (ws ++ mv)) (by simp) (fun q h => by rw [List.mem_singleton.mp h]; simp) (fun r1 r2 r3 => r1.append (r3.append r2)) fun D _ _ _ _ _ us mv ws h1 h2 h3 => match us, mv, ws, h1, h2, h3 with
    | [_, _, _, _], [_], [_], _, _, _ => ⟨_, _, _, _, _, _, rfl, rfl, rfl⟩
end
end Rg
end
section
set_option Elab.async false
set_option linter.all false
/-! Searches: what find and count come to. -/
namespace Rg
inductive Fr where
  | found (i : Nat) | absent | endless
  deriving DecidableEq
/-- find among the items from place i on -/
noncomputable def fnd (rows : Rows) (part : Item) : List Item → Nat → List Pr → List Pr × Fr
  | [], _, acc => (acc, .absent)
  | a :: as, i, acc => match pairOf a part with
    | none => if a = part then (acc, .found i) else fnd rows part as (i + 1) acc
    | some c => match (vd rows c).wd with
      | .en => (acc ++ [c], .endless)
      | .eq => (acc ++ [c], .found i)
      | .un => fnd rows part as (i + 1) (acc ++ [c])
noncomputable def cntg (rows : Rows) (part : Item) : List Item → List Pr → Nat → List Pr × Option Nat
  | [], acc, n => (acc, some n)
  | a :: as, acc, n => match pairOf a part with
    | none => cntg rows part as acc (n + if a = part then 1 else 0)
    | some c => match (vd rows c).wd with
      | .en => (acc ++ [c], none)
      | .eq => cntg rows part as (acc ++ [c]) (n + 1)
      | .un => cntg rows part as (acc ++ [c]) n
section
variable {rows : Rows} {part : Item}
/-- the word of one comparison of items -/
noncomputable def wordI (rows : Rows) (a part : Item) : PySem.Str := match pairOf a part with
  | none => if a = part then "equal" else "absent"
  | some c => wst (vd rows c).wd
theorem fnd_none_eq {a : Item} {as : List Item} {i : Nat} {acc : List Pr} (h : pairOf a part = none) (e : a = part) : fnd rows part (a :: as) i acc = (acc, .found i) := by
  conv => lhs; unfold fnd
  rw [h]
  exact if_pos e
theorem fnd_none_ne {a : Item} {as : List Item} {i : Nat} {acc : List Pr} (h : pairOf a part = none) (e : a ≠ part) : fnd rows part (a :: as) i acc = fnd rows part as (i + 1) acc := by
  conv => lhs; unfold fnd
  rw [h]
  exact if_neg e
theorem fnd_en {a : Item} {as : List Item} {i : Nat} {acc : List Pr} {c : Pr} (h : pairOf a part = some c) (e : (vd rows c).wd = .en) : fnd rows part (a :: as) i acc = (acc ++ [c], .endless) := by
  conv => lhs; unfold fnd
  rw [h]
  dsimp only
  rw [e]
theorem fnd_eq {a : Item} {as : List Item} {i : Nat} {acc : List Pr} {c : Pr} (h : pairOf a part = some c) (e : (vd rows c).wd = .eq) : fnd rows part (a :: as) i acc = (acc ++ [c], .found i) := by
  conv => lhs; unfold fnd
  rw [h]
  dsimp only
  rw [e]
theorem fnd_un {a : Item} {as : List Item} {i : Nat} {acc : List Pr} {c : Pr} (h : pairOf a part = some c) (e : (vd rows c).wd = .un) : fnd rows part (a :: as) i acc = fnd rows part as (i + 1) (acc ++ [c]) := by
  conv => lhs; unfold fnd
  rw [h]
  dsimp only
  rw [e]
theorem cnt_none {a : Item} {as : List Item} {acc : List Pr} {n : Nat} (h : pairOf a part = none) : cntg rows part (a :: as) acc n = cntg rows part as acc (n + if a = part then 1 else 0) := by
  conv => lhs; unfold cntg
  rw [h]
theorem cnt_en {a : Item} {as : List Item} {acc : List Pr} {n : Nat} {c : Pr} (h : pairOf a part = some c) (e : (vd rows c).wd = .en) : cntg rows part (a :: as) acc n = (acc ++ [c], none) := by
  conv => lhs; unfold cntg
  rw [h]
  dsimp only
  rw [e]
theorem cnt_eq {a : Item} {as : List Item} {acc : List Pr} {n : Nat} {c : Pr} (h : pairOf a part = some c) (e : (vd rows c).wd = .eq) : cntg rows part (a :: as) acc n = cntg rows part as (acc ++ [c]) (n + 1) := by
  conv => lhs; unfold cntg
  rw [h]
  dsimp only
  rw [e]
theorem cnt_un {a : Item} {as : List Item} {acc : List Pr} {n : Nat} {c : Pr} (h : pairOf a part = some c) (e : (vd rows c).wd = .un) : cntg rows part (a :: as) acc n = cntg rows part as (acc ++ [c]) n := by
  conv => lhs; unfold cntg
  rw [h]
  dsimp only
  rw [e]
/-- every pair ends but one that is last and makes the search endless -/
theorem fnd_ends : ∀ (as : List Item) (i : Nat) (acc : List Pr), (∀ q ∈ acc, (vd rows q).wd ≠ .en) → (fnd rows part as i acc).2 ≠ .endless → ∀ q ∈ (fnd rows part as i acc).1, (vd rows q).wd ≠ .en
  | [], i, acc, h, _ => h
  | a :: as, i, acc, h, hn => by
    cases hp : pairOf a part with
    | none =>
      by_cases e : a = part
      · rw [fnd_none_eq hp e]; exact h
      · rw [fnd_none_ne hp e] at hn ⊢; exact fnd_ends as _ _ h hn
    | some c =>
      cases hw : (vd rows c).wd with
      | en => rw [fnd_en hp hw] at hn; exact absurd rfl hn
      | eq =>
        rw [fnd_eq hp hw]
        intro q hq
        rcases List.mem_append.mp hq with z | z
        · exact h q z
        · rw [List.mem_singleton.mp z, hw]; exact fun z => nomatch z
      | un =>
        rw [fnd_un hp hw] at hn ⊢
        refine fnd_ends as _ _ (fun q hq => ?_) hn
        rcases List.mem_append.mp hq with z | z
        · exact h q z
        · rw [List.mem_singleton.mp z, hw]; exact fun z => nomatch z
theorem cnt_ends : ∀ (as : List Item) (acc : List Pr) (n : Nat), (∀ q ∈ acc, (vd rows q).wd ≠ .en) → (cntg rows part as acc n).2 ≠ none → ∀ q ∈ (cntg rows part as acc n).1, (vd rows q).wd ≠ .en
  | [], acc, n, h, _ => h
  | a :: as, acc, n, h, hn => by
    cases hp : pairOf a part with
    | none => rw [cnt_none hp] at hn ⊢; exact cnt_ends as _ _ h hn
    | some c =>
      have h2 : (vd rows c).wd ≠ .en → ∀ q ∈ acc ++ [c], (vd rows q).wd ≠ .en := fun hw q hq => by
        rcases List.mem_append.mp hq with z | z
        · exact h q z
        · rw [List.mem_singleton.mp z]; exact hw
      cases hw : (vd rows c).wd with
      | en => rw [cnt_en hp hw] at hn; exact absurd rfl hn
      | eq =>
        rw [cnt_eq hp hw] at hn ⊢
        exact cnt_ends as _ _ (h2 (by rw [hw]; exact fun z => nomatch z)) hn
      | un =>
        rw [cnt_un hp hw] at hn ⊢
        exact cnt_ends as _ _ (h2 (by rw [hw]; exact fun z => nomatch z)) hn
theorem fnd_len : ∀ (as : List Item) (i : Nat) (acc : List Pr), (fnd rows part as i acc).1.length ≤ acc.length + as.length
  | [], i, acc => Nat.le_refl _
  | a :: as, i, acc => by
    rw [List.length_cons]
    cases hp : pairOf a part with
    | none =>
      by_cases e : a = part
      · rw [fnd_none_eq hp e]; show acc.length ≤ _; omega
      · rw [fnd_none_ne hp e]; have := fnd_len as (i + 1) acc; omega
    | some c =>
      cases hw : (vd rows c).wd with
      | en => rw [fnd_en hp hw]; show (acc ++ [c]).length ≤ _; rw [List.length_append, List.length_singleton]; omega
      | eq => rw [fnd_eq hp hw]; show (acc ++ [c]).length ≤ _; rw [List.length_append, List.length_singleton]; omega
      | un => rw [fnd_un hp hw]; have := fnd_len as (i + 1) (acc ++ [c]); rw [List.length_append, List.length_singleton] at this; omega
end
def frW : Fr → PySem.Str
  | .found _ => "found"
  | .absent => "absent"
  | .endless => "endless"
def frN : Fr → L2.V
  | .found i => .int (i : Int)
  | _ => .non
end Rg
end
section
set_option Elab.async false
set_option linter.all false
set_option maxRecDepth 100000
set_option maxHeartbeats 4000000
/-! equality, items compared. -/
namespace Rg
open PySem PySem.Spec PyProof.Rows L2
section
variable {P : Program} {w : World} {K : PySem.W.Frag} {mg : Str → Option Value} {base : Heap}
theorem same_made {H : Hp} {x dx : Addr} {o u : HO} (hx : H x = none) (hdx : H dx = none) : Same H (upd (upd H dx u) x o) := same_put (same_new hdx) hx
/-- Verdicts(heap.contents()), the heap in slot 0 -/
theorem mkVN {σ : L2.St} {H : Hp} {Q : VK} {h : Addr} {rows : Rows} (h0 : σ[0]? = some (some (.ref h))) (hA : HeapAt (CH K) H h rows) (h10 : rows.length ≤ 10)
    (k : ∀ (B H2 : Hp) (v l d : Addr), Same H B → TabNew H B l rows → Same B H2 → B v = none → B d = none → VerM (CV K) H2 v l d 0 rows [] → Q (.ref v) H2) :
    StX.tMakeR (CV K) (sp_V_init (CV K)) E0 (tCons (tMt (CH K) "contents" (sp_contents (CH K)) (tVar 0) tNil) tNil) σ H Q := by
  obtain ⟨dx, l0, hh, _⟩ := id hA
  refine ⟨_, h0, h, dx, _, rfl, hh, rfl, h, rows, rfl, hA, h10, fun B l sB ht => ?_⟩
  intro x dxx hx hdx ne
  have s2 : Same B (upd (upd B dxx (.own x)) x (.ins (CV K) dxx [])) := same_made hx hdx
  refine ⟨x, l, dxx, rows, rfl, upd_same, ht.tab.same fun b o e => ?_, fun H' d o hd hV => ⟨rfl, k B H' x l d sB ht (Off.base s2 o fun b hb => by rw [List.mem_singleton.mp hb]; exact hx) hx (s2.free hd) hV.1⟩⟩
  exact cut_of (by simpa using ne_of_none e hx) (s2 _ _ e)
theorem mkV {σ : L2.St} {H : Hp} {Q : VK} {h : Addr} {rows : Rows} (h0 : σ[0]? = some (some (.ref h))) (hA : HeapAt (CH K) H h rows) (h10 : rows.length ≤ 10)
    (k : ∀ (B H2 : Hp) (v l d : Addr), Same H B → TabAt B l rows → Same B H2 → B v = none → B d = none → VerM (CV K) H2 v l d 0 rows [] → Q (.ref v) H2) :
    StX.tMakeR (CV K) (sp_V_init (CV K)) E0 (tCons (tMt (CH K) "contents" (sp_contents (CH K)) (tVar 0) tNil) tNil) σ H Q :=
  mkVN h0 hA h10 fun B H2 v l d sB ht => k B H2 v l d sB ht.tab
/-- lists that stand -/
def Lsts (S : List Addr) (H : Hp) : Prop := ∀ c ∈ S, ∃ xs, H c = some (.lst xs)
theorem Lsts.same {S : List Addr} {H H' : Hp} (s : Same H H') (h : Lsts S H) : Lsts S H' := fun c hc => by
  obtain ⟨xs, e⟩ := h c hc
  exact ⟨xs, s _ _ e⟩
theorem Lsts.out {S : List Addr} {H : Hp} (h : Lsts S H) {a : Addr} (e : H a = none) : a ∉ S := fun z => by
  obtain ⟨xs, e'⟩ := h a z
  rw [e] at e'
  cases e'
theorem Lsts.kind {S : List Addr} {H : Hp} (h : Lsts S H) {a : Addr} {o : HO} (e : H a = some o) (n : ∀ xs, o ≠ .lst xs) : a ∉ S := fun z => by
  obtain ⟨xs, e'⟩ := h a z
  rw [e] at e'
  exact n xs (Option.some.inj e')
theorem cut_nil (H : Hp) : cut [] H = H := by funext b; unfold cut; rw [if_neg List.not_mem_nil]
theorem same_cuts {S : List Addr} {H H' : Hp} (s : Same H H') : Same (cut S H) (cut S H') := fun b o e => by
  unfold cut at e
  split at e
  · cases e
  · rename_i hb
    exact cut_of hb (s b o e)
/-- verdicts on the way: the base holds all but v, d -/
structure VerB (C : Addr) (B H : Hp) (v l d : Addr) (rows : Rows) (ks : List Pr) : Prop where
  same : Same B H
  nv : B v = none
  nd : B d = none
  tab : TabAt B l rows
  ver : ∃ n, VerM C H v l d n rows ks
  clo : Closed rows ks
theorem VerB.later {C : Addr} {B H H' : Hp} {v l d : Addr} {rows : Rows} {ks : List Pr} (s : Same H H') (h : VerB C B H v l d rows ks) : VerB C B H' v l d rows ks := by
  obtain ⟨n, hV⟩ := h.ver
  exact ⟨h.same.trans s, h.nv, h.nd, h.tab, ⟨n, hV.same s⟩, h.clo⟩
theorem VerB.verC {C : Addr} {B H : Hp} {v l d : Addr} {rows : Rows} {ks qs : List Pr} (h : VerB C B H v l d rows ks) (hq : ∀ q ∈ qs, q ∈ ks) : VerC C H v rows qs := by
  obtain ⟨n, hV⟩ := h.ver
  exact ⟨l, d, n, ks, ⟨hV, h.tab.same h.same⟩, h.clo, hq⟩
/-- of a pair, whether it is known or not -/
theorem ofp {H : Hp} {Q : VK} {E : XK} {B : Hp} {v l d t : Addr} {rows : Rows} {ks : List Pr} {p : Pr} (hB : VerB (CV K) B H v l d rows ks) (ht : PrV H t p) (ip : InR rows p) (sm : Small rows)
    (k : ∀ (H' : Hp) (t' : Addr) (ks' : List Pr), Off [v, d] H H' → VerB (CV K) B H' v l d rows ks' → (∀ q ∈ ks, q ∈ ks') → p ∈ ks' → H' t' = some (.tup (vtup (vd rows p))) → Q (.ref t') H') : sp_of_pair (CV K) [.ref v, .ref t] H Q E := by
  obtain ⟨n, hV⟩ := hB.ver
  refine ⟨v, l, d, t, n, rows, ks, p, rfl, ht, ⟨hV, hB.tab.same hB.same⟩, hB.clo, ip, sm, fun hp H' t' s ht' => k H' t' ks (Off.same s) (hB.later s) (fun _ z => z) hp ht', fun hp H' t' n' ks' o hV' clo' hp' hs ht' => k H' t' ks' o ⟨Off.base hB.same o fun b hb => ?_, hB.nv, hB.nd, hB.tab, ⟨n', hV'⟩, clo'⟩ hs hp' ht'⟩
  rcases List.mem_cons.mp hb with z | z
  · rw [z]; exact hB.nv
  · rw [List.mem_singleton.mp z]; exact hB.nd
theorem tab_cutN {S : List Addr} {H : Hp} {a : Addr} {ps : List Addr} {rows : Rows} (e : H a = some (.lst (ps.map V.ref))) (ha : a ∉ S) (hS : Lsts S H) (r : Paired (fun p row => p ∉ S ∧ RowAt H p row) ps rows) : TabAt (cut S H) a rows :=
  ⟨ps, cut_of ha e, Paired.mapP r fun p row ⟨hp, vs, ep, rp⟩ => ⟨vs, cut_of hp ep, Paired.mapP rp fun v it hv => by
    cases it with
    | int i => exact hv
    | str x => exact hv
    | box k => obtain ⟨t, ev, ht⟩ := hv; exact ⟨t, ev, cut_of (hS.kind ht (fun _ z => nomatch z)) ht⟩⟩⟩
theorem VerB.verCut {C : Addr} {S : List Addr} {B H : Hp} {v l d : Addr} {rows : Rows} {ks qs : List Pr} (h : VerB C (cut S B) H v l d rows ks) (hS : Lsts S H) (hq : ∀ q ∈ qs, q ∈ ks) : VerC C (cut S H) v rows qs := by
  obtain ⟨n, ⟨dx, e1⟩, ⟨kvs, e2, r⟩, a, b, c⟩ := h.ver
  refine ⟨l, d, n, ks, ⟨⟨⟨dx, cut_of (hS.kind e1 (fun _ z => nomatch z)) e1⟩, ⟨kvs, cut_of (hS.kind e2 (fun _ z => nomatch z)) e2, Paired.mapP r fun kv p ⟨x, t, y, ht⟩ => ⟨x, t, y, cut_of (hS.kind ht (fun _ z => nomatch z)) ht⟩⟩, a, b, c⟩, h.tab.same fun b o e => ?_⟩, h.clo, hq⟩
  unfold cut at e
  split at e
  · cases e
  · rename_i hb
    exact cut_of hb (h.same b o (cut_of hb e))
/-- an outcome is made -/
theorem mkOS {S : List Addr} {H1 : Hp} {Q : VK} {cs v : Addr} {wd : Str} {num : V} {rows : Rows} {qs : List Pr} (hS : Lsts S H1) (hc : CrsAt (cut S H1) cs qs) (hv : VerC (CV K) (cut S H1) v rows qs) (sm : Small rows) (h3 : qs.length ≤ 3) (he : wd ≠ "endless" → ∀ q ∈ qs, (vd rows q).wd ≠ .en)
    (k : ∀ H' o, Same H1 H' → OutAt (CV K) (CO K) (cut S H') o wd num rows qs → Q (.ref o) H') :
    ∀ x dx, H1 x = Option.none → H1 dx = Option.none → dx ≠ x → sp_O_init (CV K) (CO K) [.ref x, .str wd, .ref v, .ref cs, num, .non] (upd (upd H1 dx (.own x)) x (.ins (CO K) dx [])) (fun u H2 => u = .non ∧ Q (.ref x) H2) E0 := by
  intro x dx hx hdx ne
  have s := same_made (o := .ins (CO K) dx []) (u := .own x) hx hdx
  refine ⟨x, dx, v, cs, wd, num, rows, qs, rfl, upd_same, (hc.same cut_same).same s, (hv.same cut_same).same s, sm, h3, he, fun H' o hO => ⟨rfl, ?_⟩⟩
  have s1 : Same H1 H' := Off.base s o fun b hb => by rw [List.mem_singleton.mp hb]; exact hx
  exact k H' x s1 ⟨⟨dx, v, cs, cut_of (hS.out hx) hO, hc.same (same_cuts s1), hv.same (same_cuts s1)⟩, he⟩
theorem mkO {H1 : Hp} {Q : VK} {cs v : Addr} {wd : Str} {num : V} {rows : Rows} {qs : List Pr} (hc : CrsAt H1 cs qs) (hv : VerC (CV K) H1 v rows qs) (sm : Small rows) (h3 : qs.length ≤ 3) (he : wd ≠ "endless" → ∀ q ∈ qs, (vd rows q).wd ≠ .en)
    (k : ∀ H' o, Same H1 H' → OutAt (CV K) (CO K) H' o wd num rows qs → Q (.ref o) H') :
    ∀ x dx, H1 x = Option.none → H1 dx = Option.none → dx ≠ x → sp_O_init (CV K) (CO K) [.ref x, .str wd, .ref v, .ref cs, num, .non] (upd (upd H1 dx (.own x)) x (.ins (CO K) dx [])) (fun u H2 => u = .non ∧ Q (.ref x) H2) E0 :=
  mkOS (S := []) (fun _ z => absurd z List.not_mem_nil) (by rw [cut_nil]; exact hc) (by rw [cut_nil]; exact hv) sm h3 he fun H' o s hO => k H' o s (by rw [cut_nil] at hO; exact hO)
theorem crs_mk {H : Hp} {pl tt cs : Addr} {ts : List Addr} {qs : List Pr} (hp : H pl = some (.lst (ts.map V.ref))) (r : Paired (PrV H) ts qs) (ht : H tt = none) (hc : upd H tt (.tup [.int 0, .ref pl]) cs = none) :
    CrsAt (upd (upd H tt (.tup [.int 0, .ref pl])) cs (.lst [.ref tt])) cs qs ∧ Same H (upd (upd H tt (.tup [.int 0, .ref pl])) cs (.lst [.ref tt])) := by
  have s1 := same_new (o := .tup [.int 0, .ref pl]) ht
  have s2 := s1.trans (same_new (o := .lst [.ref tt]) hc)
  have tc : tt ≠ cs := fun z => by rw [← z, upd_same] at hc; cases hc
  exact ⟨⟨tt, pl, ts, upd_same, by rw [upd_ne tc]; exact upd_same, s2 _ _ hp, Paired.mapP r fun _ _ z => z.same s2⟩, s2⟩
theorem crs_mkS {S : List Addr} {H : Hp} {pl tt cs : Addr} {ts : List Addr} {qs : List Pr} (hS : Lsts S H) (hpS : pl ∉ S) (hp : H pl = some (.lst (ts.map V.ref))) (r : Paired (PrV H) ts qs) (ht : H tt = none) (hc : upd H tt (.tup [.int 0, .ref pl]) cs = none) :
    CrsAt (cut S (upd (upd H tt (.tup [.int 0, .ref pl])) cs (.lst [.ref tt]))) cs qs := by
  have s1 := same_new (o := .tup [.int 0, .ref pl]) ht
  have s2 := s1.trans (same_new (o := .lst [.ref tt]) hc)
  have tc : tt ≠ cs := fun z => by rw [← z, upd_same] at hc; cases hc
  have hS2 := hS.same s2
  refine ⟨tt, pl, ts, cut_of ((hS.same s1).out hc) upd_same, cut_of (hS.out ht) (by rw [upd_ne tc]; exact upd_same), cut_of hpS (s2 _ _ hp), Paired.mapP r fun t q z => ?_⟩
  exact cut_of (hS.kind z (fun _ z => nomatch z)) (s2 _ _ z)
theorem r_O_make0 (T : Tx K mg) : FnR P w K mg base CX0 7 (He.ma K (CO K) "__init__") (fun vs H Q E => sp_O_init (CV K) (CO K) (vs ++ [.non, .non]) H Q E) := by
  obtain ⟨fd, G⟩ := T.FO_init
  obtain ⟨ds, hd, hb⟩ := b_out0 G
  exact (r_O_init T G).raw hb hd
def sp_equality (CVa COa CHa : Addr) : Sp := fun vs H Q _ => ∃ (S : List Addr) (h : Addr) (zi zj : Int) (i j : Nat) (rows : Rows), vs = [.ref h, .int zi, .int zj] ∧ Lsts S H ∧ zi = (i : Int) ∧ zj = (j : Int) ∧ HeapAt CHa H h rows ∧ Fit rows ∧ i < rows.length ∧ j < rows.length ∧
  ∀ H' o, Same H H' → OutAt CVa COa (cut S H') o (wst (vd rows (i, j)).wd) .non rows [(i, j)] → Q (.ref o) H'
theorem r_equality (T : Tx K mg) : FnR P w K mg base CX0 9 (He.ga K "equality") (sp_equality (CV K) (CO K) (CH K)) := by
  refine fnr T.F_equality c_equality (fun vs H Q E h => ?_) (fun _ _ _ _ _ _ us hl => match us, hl with | [_, _, _], _ => rfl) (fun cdv A outer s H vs Q E hr h => ?_)
  · obtain ⟨S, h, zi, zj, i, j, rows, rfl, _⟩ := h; rfl
  · obtain ⟨S, h, zi, zj, i, j, rows, rfl, hS, rfl, rfl, hA, fit, hi, hj, q⟩ := h
    obtain ⟨dx, l0, hh, _⟩ := id hA
    have nd := c_equality.nd
    refine ⟨_, pss_cons (ps_expr (pe_mt (pv 0) T.c_Heap T.m_Heap_need_box (r_need_box T) (hr.mono (by decide)) (pa_cons (pv 1) pa_nil)))
      (pss_cons (ps_expr (pe_mt (pv 0) T.c_Heap T.m_Heap_need_box (r_need_box T) (hr.mono (by decide)) (pa_cons (pv 2) pa_nil)))
      (pss_cons (ps_set (i := 3) nd rfl (.inl rfl) (StX.pe_makeR T.mk_Verdicts (r_V_init T) (hr.mono (by decide)) (by rfl) T.g_Verdicts pass0 (pa_cons (pe_mt0 (pv 0) T.c_Heap T.m_Heap_contents (r_contents T) (hr.mono (by decide))) pa_nil)))
      (pss_one (ps_ret (StX.pe_makeR T.mk_Outcome (r_O_make0 T) hr (by rfl) T.g_Outcome pass0 (pa_cons (pe_ix ix_tup (pe_mt (pv 3) T.c_Verdicts T.m_Verdicts_of_pair (r_of_pair T) (hr.mono (by decide)) (pa_cons (pe_tup (pa_cons (pv 1) (pa_cons (pv 2) pa_nil))) pa_nil)) pe_int (fun _ _ => rfl))
        (pa_cons (pv 3) (pa_cons (pe_lst (pa_cons (pe_tup (pa_cons pe_int (pa_cons (pe_lst (pa_cons (pe_tup (pa_cons (pv 1) (pa_cons (pv 2) pa_nil))) pa_nil)) pa_nil))) pa_nil)) pa_nil)))))))), ?_⟩
    refine ⟨_, rfl, h, dx, _, rfl, hh, rfl, _, rfl, h, _, i, rfl, rfl, hA.box hi, ?_⟩
    refine ⟨_, rfl, h, dx, _, rfl, hh, rfl, _, rfl, h, _, j, rfl, rfl, hA.box hj, ?_⟩
    dsimp only [tSeq, tAsg]
    refine mkVN rfl hA fit.ten fun B H2 v l d sB ht s2 hv hd hV => ?_
    obtain ⟨dxv, hv2⟩ := id hV.at_
    obtain ⟨qs, hlH, hlB, rB⟩ := ht
    have hSB := hS.same sB
    have htc : TabAt (cut S B) l rows := tab_cutN hlB (hS.out hlH) hSB (Paired.mapP rB fun q row z => ⟨hS.out z.1, z.2⟩)
    have hB : VerB (CV K) (cut S B) H2 v l d rows [] := ⟨cut_same.trans s2, cut_free hv, cut_free hd, htc, ⟨0, hV⟩, fun p hp => absurd hp List.not_mem_nil⟩
    have one : (2 : Nat) ≤ sizeLine := by decide
    have sm := fit.small
    refine ⟨_, rfl, v, dxv, _, rfl, hv2, rfl, _, rfl, _, rfl, one, fun t1 ht1 => ?_⟩
    dsimp only [tNil]
    refine ofp (hB.later (same_new ht1)) (p := (i, j)) upd_same ⟨hi, hj⟩ sm fun H3 t3 ks' o3 hB3 _ hp3 ht3 => ?_
    refine ⟨t3, _, ((0 : Nat) : Int), _, rfl, rfl, .of ht3, atI_nat (vtup_0 _), ?_⟩
    refine ⟨_, rfl, ?_⟩
    refine ⟨_, rfl, _, rfl, one, fun t4 ht4 => ⟨by show 1 ≤ sizeLine; decide, fun pl hpl => ⟨one, fun tt htt => ⟨by show 1 ≤ sizeLine; decide, fun cs hcs => ?_⟩⟩⟩⟩
    have s4 : Same H3 (upd H3 t4 (.tup [.int (i : Int), .int (j : Int)])) := same_new ht4
    have s5 := s4.trans (same_new (o := .lst [.ref t4]) hpl)
    have hpr : Paired (PrV (upd (upd H3 t4 (.tup [.int (i : Int), .int (j : Int)])) pl (.lst [.ref t4]))) [t4] [(i, j)] := .cons (by
      show _ = some _
      rw [upd_ne (ne_of_none (upd_same (H := H3) (a := t4) (o := .tup [.int (i : Int), .int (j : Int)])) hpl)]
      exact upd_same) .nil
    obtain ⟨hcrs, s6⟩ := crs_mk (ts := [t4]) upd_same hpr htt hcs
    have s36 := s5.trans s6
    have sB3 : Same B H3 := Off.base (s2.trans (same_new ht1)) o3 fun c hc => by
      rcases List.mem_cons.mp hc with z | z
      · rw [z]; exact hv
      · rw [List.mem_singleton.mp z]; exact hd
    have sH3 : Same H H3 := sB.trans sB3
    have hS3 := hS.same sH3
    have hSF := hS3.same s36
    refine mkOS (S := S) (num := .non) hSF (crs_mkS (hS3.same s5) ((hS3.same s4).out hpl) upd_same hpr htt hcs) (VerB.verCut (hB3.later s36) hSF fun q hq => by rw [List.mem_singleton.mp hq]; exact hp3) sm (by show 1 ≤ 3; decide) (fun hw qq hq => ?_) fun H' o s7 hO => q H' o (sH3.trans (s36.trans s7)) hO
    rw [List.mem_singleton.mp hq]
    exact fun z => hw (by rw [z]; rfl)
end
end Rg
end
section
set_option Elab.async false
set_option linter.all false
set_option maxRecDepth 100000
set_option maxHeartbeats 4000000
/-! word_of_items, find, count. -/
namespace Rg
open PySem PySem.Spec PyProof.Rows L2
section
variable {P : Program} {w : World} {K : PySem.W.Frag} {mg : Str → Option Value} {base : Heap}
def sp_woi (C : Addr) : Sp := fun vs H Q _ => ∃ (B : Hp) (v l d pl : Addr) (x y : V) (a b : Item) (ts : List Addr) (qs : List Pr) (rows : Rows) (ks : List Pr), vs = [.ref v, x, y, .ref pl] ∧ VerB C B H v l d rows ks ∧ B pl = none ∧ H pl = some (.lst (ts.map V.ref)) ∧ Paired (PrV H) ts qs ∧ (∀ q ∈ qs, q ∈ ks) ∧ qs.length ≤ 2 ∧
  ItV B x a ∧ ItV B y b ∧ (∀ c, pairOf a b = some c → InR rows c) ∧ Small rows ∧
  (pairOf a b = none → ∀ H', Same H H' → Q (.str (if a = b then "equal" else "absent")) H') ∧
  (∀ c, pairOf a b = some c → ∀ H' t ks', VerB C B H' v l d rows ks' → H' pl = some (.lst ((ts ++ [t]).map V.ref)) → Paired (PrV H') (ts ++ [t]) (qs ++ [c]) → (∀ q ∈ qs ++ [c], q ∈ ks') → Q (.str (wst (vd rows c).wd)) H')
theorem r_woi (T : Tx K mg) : FnR P w K mg base CX0 6 (He.ga K "word_of_items") (sp_woi (CV K)) := by
  refine fnr T.F_word_of_items c_word_of_items (fun vs H Q E h => ?_) (fun _ _ _ _ _ _ us hl => match us, hl with | [_, _, _, _], _ => rfl) (fun cdv A outer s H vs Q E hr h => ?_)
  · obtain ⟨B, v, l, d, pl, x, y, a, b, ts, qs, rows, ks, rfl, _⟩ := h; rfl
  · obtain ⟨B, v, l, d, pl, x, y, a, b, ts, qs, rows, ks, rfl, hB, bpl, hpl, pts, hsub, q2, hx, hy, hin, sm, k1, k2⟩ := h
    have nd := c_word_of_items.nd
    obtain ⟨te, he⟩ := T.t_EQUAL
    obtain ⟨ta, ha⟩ := T.t_ABSENT
    refine ⟨_, pss_cons (ps_set (i := 4) nd rfl (.inl rfl) (pe_fn (r_pair_of T) (hr.mono (by decide)) (by rfl) T.g_pair_of (kpq T.F_pair_of) (pa_cons (pv 1) (pa_cons (pv 2) pa_nil))))
      (pss_cons (ps_if (pt_cmpR op_isN (pv 4) pe_non (nomark _)) (pss_one (ps_ret (pe_ifExp (pt_cmpR (op_eqD (u64 hr)) (pv 1) (pv 2) (nomark _)) (pe_glob (v := .str "equal") (by rfl) he ⟨_, rfl⟩) (pe_glob (v := .str "absent") (by rfl) ha ⟨_, rfl⟩)))) pss_nil)
      (pss_cons (ps_expr (pe_bm PySem.F.plainAttrs_list PySem.F.slot_list_append PySem.F.type_list_append mt_append (pv 3) (pa_cons (pv 4) pa_nil)))
      (pss_one (ps_ret (pe_ix ix_tup (pe_mt (pv 0) T.c_Verdicts T.m_Verdicts_of_pair (r_of_pair T) hr (pa_cons (pv 4) pa_nil)) pe_int (fun _ _ => rfl)))))), ?_⟩
    have hx1 := hx.same hB.same
    have hy1 := hy.same hB.same
    refine ⟨_, rfl, _, rfl, x, y, a, b, rfl, hx1, hy1, fun u H1 s1 hu => ?_⟩
    refine ⟨_, rfl, rfl, _, rfl, ?_⟩
    cases hp : pairOf a b with
    | none =>
      rw [hp] at hu
      cases (show u = _ from hu)
      refine iteT ⟨_, rfl, _, rfl, _, _, (hx1.same s1).dp, (hy1.same s1).dp, toD_shaped (hx1.same s1), toD_shaped (hy1.same s1), _, rfl, ?_⟩
      rw [toD_eqv]
      have k := k1 hp H1 s1
      by_cases e : a = b
      · rw [decide_eq_true e]
        rw [if_pos e] at k
        exact iteT k
      · rw [decide_eq_false e]
        rw [if_neg e] at k
        exact iteF k
    | some c =>
      rw [hp] at hu
      obtain ⟨t, rfl, ht⟩ := hu
      refine iteF ?_
      have hpl1 := s1 _ _ hpl
      have hB1 := hB.later s1
      obtain ⟨n, hV1⟩ := hB1.ver
      obtain ⟨dxv, hv1⟩ := id hV1.at_
      obtain ⟨kvs, hd1, _⟩ := id hV1.dict
      have vpl : v ≠ pl := ne_of hv1 hpl1 (fun z => nomatch z)
      have dpl : d ≠ pl := ne_of hd1 hpl1 (fun z => nomatch z)
      have nt := lst_nt hpl1
      have lts : ts.length ≤ 2 := by rw [Paired.length pts]; exact q2
      refine ⟨_, rfl, .inl ⟨rfl, _, .of hpl1⟩, _, rfl, pl, _, _, rfl, rfl, hpl1, by rw [List.length_map]; exact Nat.lt_of_le_of_lt lts (by decide), ?_⟩
      have o2 : Off [pl] H1 (upd H1 pl (.lst (ts.map V.ref ++ [V.ref t]))) := Off.put (by simp)
      have hB2 : VerB (CV K) B (upd H1 pl (.lst (ts.map V.ref ++ [V.ref t]))) v l d rows ks := ⟨same_put hB1.same bpl, hB1.nv, hB1.nd, hB1.tab, ⟨n, hV1.off o2 (by simpa using vpl) (by simpa using dpl) nt⟩, hB1.clo⟩
      have pts2 : Paired (PrV (upd H1 pl (.lst (ts.map V.ref ++ [V.ref t])))) (ts ++ [t]) (qs ++ [c]) := Paired.app (Paired.mapP pts fun _ _ z => (z.same s1).off o2 nt) (.cons (ht.off o2 nt) .nil)
      refine ⟨_, rfl, v, dxv, _, rfl, o2 _ _ (by simpa using vpl) hv1, rfl, _, rfl, ?_⟩
      dsimp only [tNil]
      refine ofp hB2 (p := c) (ht.off o2 nt) (hin c hp) sm fun H3 t3 ks' o3 hB3 hsub3 hp3 ht3 => ?_
      refine ⟨t3, _, ((0 : Nat) : Int), _, rfl, rfl, .of ht3, atI_nat (vtup_0 _), ?_⟩
      refine k2 c hp H3 t ks' hB3 ?_ (Paired.mapP pts2 fun t' q' z => ?_) fun q hq => ?_
      · refine o3 _ _ (by simp [vpl.symm, dpl.symm]) ?_
        rw [upd_same]
        simp
      · refine o3 _ _ ?_ z
        simp only [List.mem_cons, List.not_mem_nil, or_false, not_or]
        obtain ⟨dxv2, hv2⟩ := (hB2.ver).choose_spec.at_
        obtain ⟨kvs2, hd2, _⟩ := (hB2.ver).choose_spec.dict
        exact ⟨ne_of z hv2 (fun z => nomatch z), ne_of z hd2 (fun z => nomatch z)⟩
      · rcases List.mem_append.mp hq with z | z
        · exact hsub3 q (hsub q z)
        · rw [List.mem_singleton.mp z]; exact hp3
/-- the course [(0, pairs)] and the outcome, in one -/
theorem outs {B H3 : Hp} {Q : VK} {v l d pl : Addr} {wd : Str} {num : V} {rows : Rows} {ts : List Addr} {acc ks : List Pr} (hB : VerB (CV K) B H3 v l d rows ks) (hpl : H3 pl = some (.lst (ts.map V.ref))) (pts : Paired (PrV H3) ts acc) (hsub : ∀ q ∈ acc, q ∈ ks)
    (sm : Small rows) (h3 : acc.length ≤ 3) (he : wd ≠ "endless" → ∀ q ∈ acc, (vd rows q).wd ≠ .en) (k : ∀ H' o, Same B H' → OutAt (CV K) (CO K) H' o wd num rows acc → Q (.ref o) H') :
    ∀ tt, H3 tt = none → ∀ cs, upd H3 tt (.tup [.int 0, .ref pl]) cs = none → ∀ x dx, (upd (upd H3 tt (.tup [.int 0, .ref pl])) cs (.lst [.ref tt])) x = none → (upd (upd H3 tt (.tup [.int 0, .ref pl])) cs (.lst [.ref tt])) dx = none → dx ≠ x →
      sp_O_init (CV K) (CO K) [.ref x, .str wd, .ref v, .ref cs, num, .non] (upd (upd (upd (upd H3 tt (.tup [.int 0, .ref pl])) cs (.lst [.ref tt])) dx (.own x)) x (.ins (CO K) dx [])) (fun u H2 => u = .non ∧ Q (.ref x) H2) E0 := by
  intro tt htt cs hcs
  obtain ⟨hcrs, s6⟩ := crs_mk hpl pts htt hcs
  exact mkO (num := num) hcrs ((hB.later s6).verC hsub) sm h3 he fun H' o s7 hO => k H' o ((hB.same.trans s6).trans s7) hO
theorem fr_endless {f : Fr} : frW f = "endless" ↔ f = .endless := by
  cases f with
  | found i => exact ⟨fun h => absurd (show ("found" : Str) = "endless" from h) (by decide +kernel), fun h => nomatch h⟩
  | absent => exact ⟨fun h => absurd (show ("absent" : Str) = "endless" from h) (by decide +kernel), fun h => nomatch h⟩
  | endless => exact ⟨fun _ => rfl, fun _ => rfl⟩
theorem pair_in {rows : Rows} {a b : Item} (ha : GoodI rows.length a) (hb : GoodI rows.length b) : ∀ c, pairOf a b = some c → InR rows c := fun c h => by
  obtain ⟨e1, e2, _⟩ := pairOf_some h
  rw [e1] at ha
  rw [e2] at hb
  exact ⟨ha, hb⟩
def sp_find (CVa COa CHa : Addr) : Sp := fun vs H Q _ => ∃ (h : Addr) (zk zs : Int) (k sn : Nat) (x : V) (it : Item) (rows : Rows), vs = [.ref h, .int zk, x, .int zs] ∧ zk = (k : Int) ∧ zs = (sn : Int) ∧ HeapAt CHa H h rows ∧ Fit rows ∧ k < rows.length ∧ ItV H x it ∧ GoodI rows.length it ∧ sn ≤ (rowOf rows k).length ∧
  ∀ H' o, Same H H' → OutAt CVa COa H' o (frW (fnd rows it ((rowOf rows k).drop sn) sn []).2) (frN (fnd rows it ((rowOf rows k).drop sn) sn []).2) rows (fnd rows it ((rowOf rows k).drop sn) sn []).1 → Q (.ref o) H'
theorem r_find (T : Tx K mg) {fd : FuncData} (G : KwF "find" "find" s_find [("since", V.int 0)] K (He.ga K "find") fd) : FnOk P w K mg base CX0 9 (He.ga K "find") fd p_find (sp_find (CV K) (CO K) (CH K)) := by
  refine fnk G c_find (fun vs H Q E h => ?_) (fun cdv A outer s H vs Q E hr h => ?_)
  · obtain ⟨h, zk, zs, k, sn, x, it, rows, rfl, _⟩ := h; rfl
  · obtain ⟨h, zk, zs, k, sn, x, it, rows, rfl, rfl, rfl, hA, fit, hk, hx, hg, hsn, q⟩ := h
    have nd := c_find.nd
    obtain ⟨te, he⟩ := T.t_ENDLESS
    obtain ⟨tq, heq⟩ := T.t_EQUAL
    obtain ⟨tf, hf⟩ := T.t_FOUND
    obtain ⟨ta, ha⟩ := T.t_ABSENT
    obtain ⟨fdO, GO⟩ := T.FO_init
    obtain ⟨mvO, bO⟩ := b_out1 GO
    obtain ⟨dx, l0, hh, ps, hl0, rps⟩ := id hA
    obtain ⟨pr, hpr, vs0, hvs0, rv0⟩ := row_at rps hk
    have hps : ps[k]? = some pr := by
      rw [List.getElem?_map] at hpr
      cases e : ps[k]? with
      | none => rw [e] at hpr; cases hpr
      | some u => rw [e] at hpr; cases hpr; rfl
    refine ⟨_, pss_cons (ps_expr (pe_mt (pv 0) T.c_Heap T.m_Heap_need_box (r_need_box T) (hr.mono (by decide)) (pa_cons (pv 1) pa_nil)))
      (pss_cons (ps_expr (pe_mt (pv 0) T.c_Heap T.m_Heap_need_item (r_need_item T) (hr.mono (by decide)) (pa_cons (pv 2) (pa_cons pe_int pa_nil))))
      (pss_cons (ps_expr (pe_mt (pv 0) T.c_Heap T.m_Heap_need_place (r_need_place T) (hr.mono (by decide)) (pa_cons (pv 1) (pa_cons (pv 3) (pa_cons pe_int pa_nil)))))
      (pss_cons (ps_par (i := 4) (j := 5) rfl nd rfl rfl (by decide) rfl rfl (pa_cons (StX.pe_makeR T.mk_Verdicts (r_V_init T) (hr.mono (by decide)) (by rfl) T.g_Verdicts pass0 (pa_cons (pe_mt0 (pv 0) T.c_Heap T.m_Heap_contents (r_contents T) (hr.mono (by decide))) pa_nil)) (pa_cons (pe_lst pa_nil) pa_nil)) (by rfl))
      (pss_cons (ps_for PassesOwn.never rfl (pi_enum (by rfl) T.z_enumerate (pa_cons (pe_ix ix_list (pe_fld (pv 4) rfl) (pv 1) (fun _ _ => rfl)) pa_nil)) (pg_tup (n := 2) rfl (pgs_cons (pg_name (i := 6) nd rfl (.inl rfl)) (pgs_cons (pg_name (i := 7) nd rfl (.inl rfl)) pgs_nil)))
        (pss_one (ps_if (pt_cmpR op_ge (pv 6) (pv 3) (nomark _))
          (pss_cons (ps_set (i := 8) nd rfl (.inl rfl) (pe_fn (r_woi T) (hr.mono (by decide)) (by rfl) T.g_word_of_items (kpq T.F_word_of_items) (pa_cons (pv 4) (pa_cons (pv 7) (pa_cons (pv 2) (pa_cons (pv 5) pa_nil))))))
          (pss_cons (ps_if (pt_cmpR op_eq (pv 8) (pe_glob (v := .str "endless") (by rfl) he ⟨_, rfl⟩) (nomark _))
            (pss_one (ps_ret (StX.pe_makeR T.mk_Outcome (r_O_make0 T) hr (by rfl) T.g_Outcome pass0 (pa_cons (pe_glob (v := .str "endless") (by rfl) he ⟨_, rfl⟩) (pa_cons (pv 4) (pa_cons (pe_lst (pa_cons (pe_tup (pa_cons pe_int (pa_cons (pv 5) pa_nil))) pa_nil)) pa_nil)))))) pss_nil)
          (pss_one (ps_if (pt_cmpR op_eq (pv 8) (pe_glob (v := .str "equal") (by rfl) heq ⟨_, rfl⟩) (nomark _))
            (pss_one (ps_ret (pe_makeK (n := 3) T.mk_Outcome (r_O_init T GO) hr (by rfl) T.g_Outcome bO pass0 (pa_cons (pe_glob (v := .str "found") (by rfl) hf ⟨_, rfl⟩) (pa_cons (pv 4) (pa_cons (pe_lst (pa_cons (pe_tup (pa_cons pe_int (pa_cons (pv 5) pa_nil))) pa_nil)) pa_nil))) (pk_cons (pv 6) pk_nil)))) pss_nil)))) pss_nil)))
      (pss_one (ps_ret (StX.pe_makeR T.mk_Outcome (r_O_make0 T) hr (by rfl) T.g_Outcome pass0 (pa_cons (pe_glob (v := .str "absent") (by rfl) ha ⟨_, rfl⟩) (pa_cons (pv 4) (pa_cons (pe_lst (pa_cons (pe_tup (pa_cons pe_int (pa_cons (pv 5) pa_nil))) pa_nil)) pa_nil)))))))))), ?_⟩
    have sm := fit.small
    have l3 : (rowOf rows k).length ≤ 3 := sm.three _ (List.mem_of_getElem? (rowOf_at hk))
    have lv0 : vs0.length = (rowOf rows k).length := Paired.length rv0
    generalize hFd : fnd rows it ((rowOf rows k).drop sn) sn [] = F at q
    refine ⟨_, rfl, h, dx, _, rfl, hh, rfl, _, rfl, h, _, k, rfl, rfl, hA.box hk, ?_⟩
    refine ⟨_, rfl, h, dx, _, rfl, hh, rfl, _, rfl, h, x, it, rows, rfl, hA, hx, hg, fun H1 s1 => ?_⟩
    refine ⟨_, rfl, h, dx, _, rfl, s1 _ _ hh, rfl, _, rfl, _, rfl, h, _, _, _, k, sn, 1, dx, l0, pr, ps, vs0, rfl, rfl, rfl, rfl, s1 _ _ hh, s1 _ _ hl0, hps, s1 _ _ hvs0, by omega, ?_⟩
    dsimp only [tSeq, tPar, tCons]
    refine mkV rfl (hA.same s1) fit.ten fun B H2 v l d sB ht s2 hv hd hV => ?_
    have sHB : Same H B := s1.trans sB
    obtain ⟨dxv, hv2⟩ := id hV.at_
    have hB2 : VerB (CV K) B H2 v l d rows [] := ⟨s2, hv, hd, ht, ⟨0, hV⟩, fun p hp => absurd hp List.not_mem_nil⟩
    obtain ⟨qs, hl, hqs⟩ := id ht
    obtain ⟨pm, em, vsM, hm, rm⟩ := row_at hqs hk
    have lvm : vsM.length = (rowOf rows k).length := Paired.length rm
    have two : (2 : Nat) ≤ sizeLine := by decide
    have one : (1 : Nat) ≤ sizeLine := by decide
    have fin : ∀ (pl : Addr) (H4 : Hp) (f : Fr) (ts : List Addr) (acc ks : List Pr), F = (acc, f) → VerB (CV K) B H4 v l d rows ks → H4 pl = some (.lst (ts.map V.ref)) → Paired (PrV H4) ts acc → (∀ q ∈ acc, q ∈ ks) → acc.length ≤ 3 → (f ≠ .endless → ∀ q ∈ acc, (vd rows q).wd ≠ .en) →
        ∀ tt, H4 tt = none → ∀ cs, upd H4 tt (.tup [.int 0, .ref pl]) cs = none → ∀ x dx, (upd (upd H4 tt (.tup [.int 0, .ref pl])) cs (.lst [.ref tt])) x = none → (upd (upd H4 tt (.tup [.int 0, .ref pl])) cs (.lst [.ref tt])) dx = none → dx ≠ x →
        sp_O_init (CV K) (CO K) [.ref x, .str (frW f), .ref v, .ref cs, frN f, .non] (upd (upd (upd (upd H4 tt (.tup [.int 0, .ref pl])) cs (.lst [.ref tt])) dx (.own x)) x (.ins (CO K) dx [])) (fun u H2 => u = .non ∧ Q (.ref x) H2) E0 :=
      fun pl H4 f ts acc ks hF hB hpl pts hsub h3 hen => outs (Q := Q) hB hpl pts hsub sm h3 (fun z => hen fun e => z (fr_endless.mpr e)) fun H' o s hO => q H' o (sHB.trans s) (by rw [hF]; exact hO)
    refine ⟨Nat.zero_le _, fun pl hpl => ⟨_, _, rfl, ?_⟩⟩
    have bpl : B pl = none := s2.free hpl
    have s3 : Same H2 (upd H2 pl (.lst [])) := same_new hpl
    refine ⟨_, rfl, v, _, dxv, _, _, rfl, s3 _ _ hv2, T.c_Verdicts, T.n_Verdicts_lists, vf_lists _ _ _, _, rfl, l, _, _, _, rfl, rfl, .of (s3 _ _ (s2 _ _ hl)), atI_nat em, pm, vsM, rfl, .of (s3 _ _ (s2 _ _ hm)), ?_⟩
    refine for_it (walk_enum (K := K) (a := pm) (xs := vsM)) (fun i σ H' => ∃ (o6 o7 o8 : Option V) (ks : List Pr) (ts : List Addr) (acc : List Pr), σ = [some (.ref h), some (.int (k : Int)), some x, some (.int (sn : Int)), some (.ref v), some (.ref pl), o6, o7, o8] ∧
        VerB (CV K) B H' v l d rows ks ∧ H' pl = some (.lst (ts.map V.ref)) ∧ Paired (PrV H') ts acc ∧ (∀ q ∈ acc, q ∈ ks) ∧ acc.length ≤ i ∧ (∀ q ∈ acc, (vd rows q).wd ≠ .en) ∧ (i ≤ sn → acc = []) ∧ (sn ≤ i → F = fnd rows it ((rowOf rows k).drop i) i acc))
      ⟨_, _, _, [], [], [], rfl, hB2.later s3, upd_same, .nil, fun _ z => z, Nat.le_refl _, fun _ z => absurd z List.not_mem_nil, fun _ => rfl, fun z => by
        have : sn = 0 := by omega
        subst this
        exact hFd.symm⟩ (fun i σ H' _ ⟨_, _, _, _, _, _, _, hB, _⟩ => .of (hB.same _ _ hm)) ?_ ?_
    · rintro i y σ H' H'' hi ⟨o6, o7, o8, ks, ts, acc, rfl, hB, hpl', pts, hsub, hlen, hen, hlow, hF⟩ ⟨T1, x1, y1, rfl, hT1, rfl, e1, e2⟩
      cases e1
      have sT : Same H' (upd H' T1 (.tup [.int (i : Nat), y1])) := same_new hT1
      refine ⟨T1, _, rfl, .of upd_same, rfl, _, _, rfl, _, _, rfl, rfl, ?_⟩
      refine ⟨_, rfl, _, rfl, _, _, rfl, rfl, _, rfl, ?_⟩
      have hBT := hB.later sT
      have ptsT : Paired (PrV (upd H' T1 (.tup [.int (i : Nat), y1]))) ts acc := Paired.mapP pts fun _ _ z => z.same sT
      refine ite2 (fun ege => ?_) (fun enge => ?_)
      · have hge : sn ≤ i := by have := of_decide_eq_true ege; omega
        have hFi := hF hge
        obtain ⟨a, ea, hya⟩ := Paired.at1 rm e2
        have edrop : (rowOf rows k).drop i = a :: (rowOf rows k).drop (i + 1) := by
          obtain ⟨l1, e1⟩ := List.getElem?_eq_some_iff.mp ea
          rw [List.drop_eq_getElem_cons l1, e1]
        rw [edrop] at hFi
        have hga : GoodI rows.length a := fit.good _ (List.mem_of_getElem? (rowOf_at hk)) a (List.mem_of_getElem? ea)
        have hi3 : i < 3 := by omega
        refine ⟨_, rfl, _, rfl, _, rfl, _, rfl, B, v, l, d, pl, y1, x, a, it, ts, acc, rows, ks, rfl, hBT, bpl, sT _ _ hpl', ptsT, hsub, by omega, hya, hx.same sHB, pair_in hga hg, sm, fun hp H4 s4 => ?_, fun c hp H4 t ks' hB4 hpl4 pts4 hsub4 => ?_⟩
        · refine ⟨_, rfl, rfl, _, rfl, ?_⟩
          by_cases e : a = it
          · rw [if_pos e]
            have z1 : decide (V.str "equal" = V.str "endless") = false := by decide +kernel
            have z2 : decide (V.str "equal" = V.str "equal") = true := decide_eq_true rfl
            rw [z1]
            refine iteF ⟨_, rfl, rfl, _, rfl, ?_⟩
            rw [z2]
            refine iteT ⟨_, rfl, _, rfl, two, fun tt htt => ⟨one, fun cs hcs => ⟨_, rfl, rfl, rfl, ?_⟩⟩⟩
            exact fin pl H4 (.found i) ts acc ks (by rw [hFi, fnd_none_eq hp e]) (hBT.later s4) (s4 _ _ (sT _ _ hpl')) (Paired.mapP ptsT fun _ _ z => z.same s4) hsub (by omega) (fun _ => hen) tt htt cs hcs
          · rw [if_neg e]
            have z1 : decide (V.str "absent" = V.str "endless") = false := by decide +kernel
            have z2 : decide (V.str "absent" = V.str "equal") = false := by decide +kernel
            rw [z1]
            refine iteF ⟨_, rfl, rfl, _, rfl, ?_⟩
            rw [z2]
            exact iteF ⟨_, _, _, ks, ts, acc, rfl, hBT.later s4, s4 _ _ (sT _ _ hpl'), Paired.mapP ptsT fun _ _ z => z.same s4, hsub, by omega, hen, fun z => hlow (by omega), fun _ => by rw [hFi, fnd_none_ne hp e]⟩
        · have hl4 : (acc ++ [c]).length ≤ i + 1 := by rw [List.length_append, List.length_singleton]; omega
          have hen4 : (vd rows c).wd ≠ .en → ∀ q ∈ acc ++ [c], (vd rows q).wd ≠ .en := fun hw q hq => by
            rcases List.mem_append.mp hq with z | z
            · exact hen q z
            · rw [List.mem_singleton.mp z]; exact hw
          refine ⟨_, rfl, rfl, _, rfl, ?_⟩
          rw [show decide (V.str (wst (vd rows c).wd) = V.str "endless") = decide ((vd rows c).wd = .en) from wst_en _]
          cases hw : (vd rows c).wd with
          | en =>
            refine iteT ⟨_, rfl, _, rfl, two, fun tt htt => ⟨one, fun cs hcs => ?_⟩⟩
            exact fin pl H4 .endless (ts ++ [t]) (acc ++ [c]) ks' (by rw [hFi, fnd_en hp hw]) hB4 hpl4 pts4 hsub4 (by omega) (fun z => absurd rfl z) tt htt cs hcs
          | eq =>
            refine iteF ⟨_, rfl, rfl, _, rfl, ?_⟩
            have z2 : decide (V.str (wst .eq) = V.str "equal") = true := decide_eq_true rfl
            rw [z2]
            refine iteT ⟨_, rfl, _, rfl, two, fun tt htt => ⟨one, fun cs hcs => ⟨_, rfl, rfl, rfl, ?_⟩⟩⟩
            exact fin pl H4 (.found i) (ts ++ [t]) (acc ++ [c]) ks' (by rw [hFi, fnd_eq hp hw]) hB4 hpl4 pts4 hsub4 (by omega) (fun _ => hen4 (by rw [hw]; exact fun z => nomatch z)) tt htt cs hcs
          | un =>
            refine iteF ⟨_, rfl, rfl, _, rfl, ?_⟩
            have z2 : decide (V.str (wst .un) = V.str "equal") = false := (wst_eq .un).trans rfl
            rw [z2]
            exact iteF ⟨_, _, _, ks', ts ++ [t], acc ++ [c], rfl, hB4, hpl4, pts4, hsub4, hl4, hen4 (by rw [hw]; exact fun z => nomatch z), fun z => by omega, fun _ => by rw [hFi, fnd_un hp hw]⟩
      · have hlt : i < sn := by
          have : ¬ (sn : Int) ≤ (i : Int) := fun z => enge (decide_eq_true z)
          omega
        have e0 := hlow (by omega)
        subst e0
        refine ⟨_, _, _, ks, ts, [], rfl, hBT, sT _ _ hpl', ptsT, hsub, Nat.zero_le _, hen, fun _ => rfl, fun z => ?_⟩
        have : sn = i + 1 := by omega
        subst this
        exact hFd.symm
    · rintro σ H' ⟨o6, o7, o8, ks, ts, acc, rfl, hB, hpl', pts, hsub, hlen, hen, hlow, hF⟩
      have hFe := hF (by omega)
      rw [List.drop_eq_nil_of_le (by omega)] at hFe
      refine ⟨_, rfl, _, rfl, two, fun tt htt => ⟨one, fun cs hcs => ?_⟩⟩
      exact fin pl H' .absent ts acc ks hFe hB hpl' pts hsub (by omega) (fun _ => hen) tt htt cs hcs
end
end Rg
end
section
set_option Elab.async false
set_option linter.all false
set_option maxRecDepth 100000
set_option maxHeartbeats 4000000
/-! count, contains, remove. -/
namespace Rg
open PySem PySem.Spec PyProof.Rows L2
theorem fnd_lt {rows : Rows} {part : Item} {j : Nat} : ∀ (as : List Item) (i : Nat) (acc : List Pr), (fnd rows part as i acc).2 = .found j → i ≤ j ∧ j < i + as.length
  | [], i, acc, h => by cases h
  | a :: as, i, acc, h => by
    rw [List.length_cons]
    cases hp : pairOf a part with
    | none =>
      by_cases e : a = part
      · rw [fnd_none_eq hp e] at h; cases h; omega
      · rw [fnd_none_ne hp e] at h; have := fnd_lt as _ _ h; omega
    | some c =>
      cases hw : (vd rows c).wd with
      | en => rw [fnd_en hp hw] at h; cases h
      | eq => rw [fnd_eq hp hw] at h; cases h; omega
      | un => rw [fnd_un hp hw] at h; have := fnd_lt as _ _ h; omega
def cw : Option Nat → Str
  | none => "endless"
  | some _ => "counted"
def cn : Option Nat → V
  | none => .non
  | some n => .int (n : Int)
section
variable {P : Program} {w : World} {K : PySem.W.Frag} {mg : Str → Option Value} {base : Heap}
theorem r_find0 (T : Tx K mg) : FnR P w K mg base CX0 9 (He.ga K "find") (fun vs H Q E => sp_find (CV K) (CO K) (CH K) (vs ++ [.int 0]) H Q E) := by
  obtain ⟨fd, G⟩ := T.F_find
  obtain ⟨ds, hd, hb⟩ := b_find0 G
  exact (r_find T G).raw hb hd
def sp_count (CVa COa CHa : Addr) : Sp := fun vs H Q _ => ∃ (h : Addr) (zk : Int) (k : Nat) (x : V) (it : Item) (rows : Rows), vs = [.ref h, .int zk, x] ∧ zk = (k : Int) ∧ HeapAt CHa H h rows ∧ Fit rows ∧ k < rows.length ∧ ItV H x it ∧ GoodI rows.length it ∧
  ∀ H' o, Same H H' → OutAt CVa COa H' o (cw (cntg rows it (rowOf rows k) [] 0).2) (cn (cntg rows it (rowOf rows k) [] 0).2) rows (cntg rows it (rowOf rows k) [] 0).1 → Q (.ref o) H'
theorem r_count (T : Tx K mg) : FnR P w K mg base CX0 9 (He.ga K "count") (sp_count (CV K) (CO K) (CH K)) := by
  refine fnr T.F_count c_count (fun vs H Q E h => ?_) (fun _ _ _ _ _ _ us hl => match us, hl with | [_, _, _], _ => rfl) (fun cdv A outer s H vs Q E hr h => ?_)
  · obtain ⟨h, zk, k, x, it, rows, rfl, _⟩ := h; rfl
  · obtain ⟨h, zk, k, x, it, rows, rfl, rfl, hA, fit, hk, hx, hg, q⟩ := h
    have nd := c_count.nd
    obtain ⟨te, he⟩ := T.t_ENDLESS
    obtain ⟨tq, heq⟩ := T.t_EQUAL
    obtain ⟨tc, hco⟩ := T.t_COUNTED
    obtain ⟨fdO, GO⟩ := T.FO_init
    obtain ⟨mvO, bO⟩ := b_out1 GO
    obtain ⟨dx, l0, hh, ps, hl0, rps⟩ := id hA
    refine ⟨_, pss_cons (ps_expr (pe_mt (pv 0) T.c_Heap T.m_Heap_need_box (r_need_box T) (hr.mono (by decide)) (pa_cons (pv 1) pa_nil)))
      (pss_cons (ps_expr (pe_mt (pv 0) T.c_Heap T.m_Heap_need_item (r_need_item T) (hr.mono (by decide)) (pa_cons (pv 2) (pa_cons pe_int pa_nil))))
      (pss_cons (ps_par (i := 3) (j := 4) rfl nd rfl rfl (by decide) rfl rfl (pa_cons (StX.pe_makeR T.mk_Verdicts (r_V_init T) (hr.mono (by decide)) (by rfl) T.g_Verdicts pass0 (pa_cons (pe_mt0 (pv 0) T.c_Heap T.m_Heap_contents (r_contents T) (hr.mono (by decide))) pa_nil)) (pa_cons (pe_lst pa_nil) pa_nil)) (by rfl))
      (pss_cons (ps_set (i := 5) nd rfl (.inl rfl) pe_int)
      (pss_cons (ps_for PassesOwn.never rfl (pi_list (pe_ix ix_list (pe_fld (pv 3) rfl) (pv 1) (fun _ _ => rfl))) (pg_name (i := 6) nd rfl (.inl rfl))
          (pss_cons (ps_set (i := 7) nd rfl (.inl rfl) (pe_fn (r_woi T) (hr.mono (by decide)) (by rfl) T.g_word_of_items (kpq T.F_word_of_items) (pa_cons (pv 3) (pa_cons (pv 6) (pa_cons (pv 2) (pa_cons (pv 4) pa_nil))))))
          (pss_cons (ps_if (pt_cmpR op_eq (pv 7) (pe_glob (v := .str "endless") (by rfl) he ⟨_, rfl⟩) (nomark _))
            (pss_one (ps_ret (StX.pe_makeR T.mk_Outcome (r_O_make0 T) hr (by rfl) T.g_Outcome pass0 (pa_cons (pe_glob (v := .str "endless") (by rfl) he ⟨_, rfl⟩) (pa_cons (pv 3) (pa_cons (pe_lst (pa_cons (pe_tup (pa_cons pe_int (pa_cons (pv 4) pa_nil))) pa_nil)) pa_nil)))))) pss_nil)
          (pss_one (ps_aug (i := 5) nd rfl (.inl rfl) (pe_callTy call_int1 (by rfl) T.z_int boot_int (pa_cons (pe_cmpR op_eq (pv 7) (pe_glob (v := .str "equal") (by rfl) heq ⟨_, rfl⟩) (nomark _)) pa_nil)) ip_add)))))
      (pss_one (ps_ret (pe_makeK (n := 3) T.mk_Outcome (r_O_init T GO) hr (by rfl) T.g_Outcome bO pass0 (pa_cons (pe_glob (v := .str "counted") (by rfl) hco ⟨_, rfl⟩) (pa_cons (pv 3) (pa_cons (pe_lst (pa_cons (pe_tup (pa_cons pe_int (pa_cons (pv 4) pa_nil))) pa_nil)) pa_nil))) (pk_cons (pv 5) pk_nil)))))))), ?_⟩
    have sm := fit.small
    have l3 : (rowOf rows k).length ≤ 3 := sm.three _ (List.mem_of_getElem? (rowOf_at hk))
    generalize hFd : cntg rows it (rowOf rows k) [] 0 = F at q
    refine ⟨_, rfl, h, dx, _, rfl, hh, rfl, _, rfl, h, _, k, rfl, rfl, hA.box hk, ?_⟩
    refine ⟨_, rfl, h, dx, _, rfl, hh, rfl, _, rfl, h, x, it, rows, rfl, hA, hx, hg, fun H1 s1 => ?_⟩
    dsimp only [tSeq, tPar, tCons]
    refine mkV rfl (hA.same s1) fit.ten fun B H2 v l d sB ht s2 hv hd hV => ?_
    have sHB : Same H B := s1.trans sB
    obtain ⟨dxv, hv2⟩ := id hV.at_
    have hB2 : VerB (CV K) B H2 v l d rows [] := ⟨s2, hv, hd, ht, ⟨0, hV⟩, fun p hp => absurd hp List.not_mem_nil⟩
    obtain ⟨qs, hl, hqs⟩ := id ht
    obtain ⟨pm, em, vsM, hm, rm⟩ := row_at hqs hk
    have lvm : vsM.length = (rowOf rows k).length := Paired.length rm
    have two : (2 : Nat) ≤ sizeLine := by decide
    have one : (1 : Nat) ≤ sizeLine := by decide
    have fin : ∀ (pl : Addr) (H4 : Hp) (f : Option Nat) (ts : List Addr) (acc ks : List Pr), F = (acc, f) → VerB (CV K) B H4 v l d rows ks → H4 pl = some (.lst (ts.map V.ref)) → Paired (PrV H4) ts acc → (∀ q ∈ acc, q ∈ ks) → acc.length ≤ 3 → (f ≠ none → ∀ q ∈ acc, (vd rows q).wd ≠ .en) →
        ∀ tt, H4 tt = none → ∀ cs, upd H4 tt (.tup [.int 0, .ref pl]) cs = none → ∀ x dx, (upd (upd H4 tt (.tup [.int 0, .ref pl])) cs (.lst [.ref tt])) x = none → (upd (upd H4 tt (.tup [.int 0, .ref pl])) cs (.lst [.ref tt])) dx = none → dx ≠ x →
        sp_O_init (CV K) (CO K) [.ref x, .str (cw f), .ref v, .ref cs, cn f, .non] (upd (upd (upd (upd H4 tt (.tup [.int 0, .ref pl])) cs (.lst [.ref tt])) dx (.own x)) x (.ins (CO K) dx [])) (fun u H2 => u = .non ∧ Q (.ref x) H2) E0 :=
      fun pl H4 f ts acc ks hF hB hpl pts hsub h3 hen => outs (Q := Q) hB hpl pts hsub sm h3 (fun z => hen fun e => z (by rw [e]; rfl)) fun H' o s hO => q H' o (sHB.trans s) (by rw [hF]; exact hO)
    refine ⟨Nat.zero_le _, fun pl hpl => ⟨_, _, rfl, ?_⟩⟩
    have bpl : B pl = none := s2.free hpl
    have s3 : Same H2 (upd H2 pl (.lst [])) := same_new hpl
    refine ⟨_, rfl, v, _, dxv, _, _, rfl, s3 _ _ hv2, T.c_Verdicts, T.n_Verdicts_lists, vf_lists _ _ _, _, rfl, l, _, _, .ref pm, rfl, rfl, .of (s3 _ _ (s2 _ _ hl)), atI_nat em, pm, rfl, ⟨vsM, .of (s3 _ _ (s2 _ _ hm))⟩, ?_⟩
    refine for_list (xs := vsM) (fun i σ H' => ∃ (o6 o7 : Option V) (ks : List Pr) (ts : List Addr) (acc : List Pr) (n : Nat), σ = [some (.ref h), some (.int (k : Int)), some x, some (.ref v), some (.ref pl), some (.int (n : Int)), o6, o7] ∧
        VerB (CV K) B H' v l d rows ks ∧ H' pl = some (.lst (ts.map V.ref)) ∧ Paired (PrV H') ts acc ∧ (∀ q ∈ acc, q ∈ ks) ∧ acc.length ≤ i ∧ (∀ q ∈ acc, (vd rows q).wd ≠ .en) ∧ F = cntg rows it ((rowOf rows k).drop i) acc n)
      ⟨_, _, [], [], [], 0, rfl, hB2.later s3, upd_same, .nil, fun _ z => z, Nat.le_refl _, fun _ z => absurd z List.not_mem_nil, hFd.symm⟩ (fun i σ H' _ ⟨_, _, _, _, _, _, _, hB, _⟩ => .of (hB.same _ _ hm)) ?_ ?_
    · rintro i y σ H' e2 ⟨o6, o7, ks, ts, acc, n, rfl, hB, hpl', pts, hsub, hlen, hen, hFi⟩
      obtain ⟨a, ea, hya⟩ := Paired.at1 rm e2
      obtain ⟨hi, _⟩ := List.getElem?_eq_some_iff.mp e2
      have edrop : (rowOf rows k).drop i = a :: (rowOf rows k).drop (i + 1) := by
        obtain ⟨l1, e1⟩ := List.getElem?_eq_some_iff.mp ea
        rw [List.drop_eq_getElem_cons l1, e1]
      rw [edrop] at hFi
      have hga : GoodI rows.length a := fit.good _ (List.mem_of_getElem? (rowOf_at hk)) a (List.mem_of_getElem? ea)
      refine ⟨_, rfl, _, rfl, _, rfl, _, rfl, B, v, l, d, pl, y, x, a, it, ts, acc, rows, ks, rfl, hB, bpl, hpl', pts, hsub, by omega, hya, hx.same sHB, pair_in hga hg, sm, fun hp H4 s4 => ?_, fun c hp H4 t ks' hB4 hpl4 pts4 hsub4 => ?_⟩
      · refine ⟨_, rfl, rfl, _, rfl, ?_⟩
        have nx : ∀ (w7 : Option V) (z : Int), z = ((if a = it then 1 else 0 : Nat) : Int) → ∃ (o6 o7 : Option V) (ks : List Pr) (ts : List Addr) (acc : List Pr) (m : Nat), [some (.ref h), some (.int (k : Int)), some x, some (.ref v), some (.ref pl), some (.int ((n : Int) + z)), some y, w7] = [some (.ref h), some (.int (k : Int)), some x, some (.ref v), some (.ref pl), some (.int (m : Int)), o6, o7] ∧
            VerB (CV K) B H4 v l d rows ks ∧ H4 pl = some (.lst (ts.map V.ref)) ∧ Paired (PrV H4) ts acc ∧ (∀ q ∈ acc, q ∈ ks) ∧ acc.length ≤ i + 1 ∧ (∀ q ∈ acc, (vd rows q).wd ≠ .en) ∧ F = cntg rows it ((rowOf rows k).drop (i + 1)) acc m := by
          rintro w7 z rfl
          exact ⟨_, _, ks, ts, acc, n + (if a = it then 1 else 0), rfl, hB.later s4, s4 _ _ hpl', Paired.mapP pts fun _ _ z => z.same s4, hsub, by omega, hen, by rw [hFi, cnt_none hp]⟩
        by_cases e : a = it
        · rw [if_pos e] at nx ⊢
          have z1 : decide (V.str "equal" = V.str "endless") = false := by decide +kernel
          rw [z1]
          refine iteF ⟨_, rfl, _, rfl, rfl, .inr ⟨_, rfl, _, _, rfl, rfl, ?_⟩⟩
          exact nx _ _ (by
            show (if decide (V.str "equal" = V.str "equal") = true then (1 : Int) else 0) = _
            rw [show decide (V.str "equal" = V.str "equal") = true from decide_eq_true rfl]
            rfl)
        · rw [if_neg e] at nx ⊢
          have z1 : decide (V.str "absent" = V.str "endless") = false := by decide +kernel
          rw [z1]
          refine iteF ⟨_, rfl, _, rfl, rfl, .inr ⟨_, rfl, _, _, rfl, rfl, ?_⟩⟩
          exact nx _ _ (by
            show (if decide (V.str "absent" = V.str "equal") = true then (1 : Int) else 0) = _
            rw [show decide (V.str "absent" = V.str "equal") = false by decide +kernel]
            rfl)
      · have hl4 : (acc ++ [c]).length ≤ i + 1 := by rw [List.length_append, List.length_singleton]; omega
        have hen4 : (vd rows c).wd ≠ .en → ∀ q ∈ acc ++ [c], (vd rows q).wd ≠ .en := fun hw q hq => by
          rcases List.mem_append.mp hq with z | z
          · exact hen q z
          · rw [List.mem_singleton.mp z]; exact hw
        refine ⟨_, rfl, rfl, _, rfl, ?_⟩
        rw [show decide (V.str (wst (vd rows c).wd) = V.str "endless") = decide ((vd rows c).wd = .en) from wst_en _]
        cases hw : (vd rows c).wd with
        | en =>
          refine iteT ⟨_, rfl, _, rfl, two, fun tt htt => ⟨one, fun cs hcs => ?_⟩⟩
          exact fin pl H4 none (ts ++ [t]) (acc ++ [c]) ks' (by rw [hFi, cnt_en hp hw]) hB4 hpl4 pts4 hsub4 (by omega) (fun z => absurd rfl z) tt htt cs hcs
        | eq =>
          refine iteF ⟨_, rfl, _, rfl, rfl, .inr ⟨_, rfl, _, _, rfl, rfl, ?_⟩⟩
          exact ⟨_, _, ks', ts ++ [t], acc ++ [c], n + 1, rfl, hB4, hpl4, pts4, hsub4, hl4, hen4 (by rw [hw]; exact fun z => nomatch z), by rw [hFi, cnt_eq hp hw]⟩
        | un =>
          refine iteF ⟨_, rfl, _, rfl, rfl, .inr ⟨_, rfl, _, _, rfl, rfl, ?_⟩⟩
          refine ⟨some y, some (.str (wst .un)), ks', ts ++ [t], acc ++ [c], n, ?_, hB4, hpl4, pts4, hsub4, hl4, hen4 (by rw [hw]; exact fun z => nomatch z), by rw [hFi, cnt_un hp hw]⟩
          have z0 : (n : Int) + (if decide (V.str (wst .un) = V.str "equal") = true then (1 : Int) else 0) = (n : Int) := by
            rw [show decide (V.str (wst .un) = V.str "equal") = false from (wst_eq .un).trans rfl]
            exact Int.add_zero _
          show [some (V.ref h), some (.int (k : Int)), some x, some (.ref v), some (.ref pl), some (.int ((n : Int) + (if decide (V.str (wst .un) = V.str "equal") = true then (1 : Int) else 0))), some y, some (.str (wst .un))] = _
          rw [z0]
    · rintro σ H' ⟨o6, o7, ks, ts, acc, n, rfl, hB, hpl', pts, hsub, hlen, hen, hFe⟩
      rw [List.drop_eq_nil_of_le (by omega)] at hFe
      refine ⟨_, rfl, _, rfl, two, fun tt htt => ⟨one, fun cs hcs => ⟨_, rfl, rfl, rfl, ?_⟩⟩⟩
      exact fin pl H' (some n) ts acc ks hFe hB hpl' pts hsub (by omega) (fun _ => hen) tt htt cs hcs
def sp_contains (CHa : Addr) : Sp := fun vs H Q _ => ∃ (h : Addr) (zk : Int) (k : Nat) (x : V) (it : Item) (rows : Rows), vs = [.ref h, .int zk, x, .non] ∧ zk = (k : Int) ∧ HeapAt CHa H h rows ∧ Fit rows ∧ k < rows.length ∧ ItV H x it ∧ GoodI rows.length it ∧
  (fnd rows it (rowOf rows k) 0 []).2 ≠ .endless ∧ ∀ H', Same H H' → Q (.bl (decide (V.str (frW (fnd rows it (rowOf rows k) 0 []).2) = V.str "found"))) H'
theorem r_contains (T : Tx K mg) : FnR P w K mg base CX0 10 (He.ga K "contains") (fun vs H Q E => sp_contains (CH K) (vs ++ [.non]) H Q E) := by
  obtain ⟨fd, G⟩ := T.F_contains
  obtain ⟨ds, hdv, hb⟩ := b_contains0 G
  refine (fnk (k := 9) (ps := p_contains) (sp := sp_contains (CH K)) G c_contains (fun vs H Q E h => ?_) (fun cdv A outer s H vs Q E hr h => ?_)).raw hb hdv
  · obtain ⟨h, zk, k, x, it, rows, rfl, _⟩ := h; rfl
  · obtain ⟨h, zk, k, x, it, rows, rfl, rfl, hA, fit, hk, hx, hg, hne, q⟩ := h
    have nd := c_contains.nd
    obtain ⟨tf, hf⟩ := T.t_FOUND
    obtain ⟨dx, l0, hh, _⟩ := id hA
    refine ⟨_, pss_cons (ps_expr (pe_mt (pv 0) T.c_Heap T.m_Heap_need_box (r_need_box T) (hr.mono (by decide)) (pa_cons (pv 1) pa_nil)))
      (pss_cons (ps_expr (pe_mt (pv 0) T.c_Heap T.m_Heap_need_item (r_need_item T) (hr.mono (by decide)) (pa_cons (pv 2) (pa_cons pe_int pa_nil))))
      (pss_cons (ps_expr (pe_fn (r_check_limit T) (hr.mono (by decide)) (by rfl) T.g_check_limit (kpq T.F_check_limit) (pa_cons (pv 3) pa_nil)))
      (pss_one (ps_ret (pe_cmpR op_eq (pe_fn (r_word_at T) (hr.mono (by decide)) (by rfl) T.g_word_at (kpq T.F_word_at) (pa_cons (pe_fn (r_find0 T) hr (by rfl) T.g_find (kpq T.F_find) (pa_cons (pv 0) (pa_cons (pv 1) (pa_cons (pv 2) pa_nil)))) (pa_cons (pv 3) pa_nil)))
        (pe_glob (v := .str "found") (by rfl) hf ⟨_, rfl⟩) (nomark _)))))), ?_⟩
    refine ⟨_, rfl, h, dx, _, rfl, hh, rfl, _, rfl, h, _, k, rfl, rfl, hA.box hk, ?_⟩
    refine ⟨_, rfl, h, dx, _, rfl, hh, rfl, _, rfl, h, x, it, rows, rfl, hA, hx, hg, fun H1 s1 => ?_⟩
    refine ⟨_, rfl, rfl, ?_⟩
    refine ⟨_, rfl, _, rfl, _, rfl, h, _, _, k, 0, x, it, rows, rfl, rfl, rfl, hA.same s1, fit, hk, hx.same s1, hg, Nat.zero_le _, fun H2 o s2 hO => ?_⟩
    rw [List.drop_zero] at hO
    obtain ⟨⟨dxo, vo, cs, ho, _, _⟩, _⟩ := hO
    refine ⟨_, rfl, o, dxo, vo, cs, _, _, _, _, rfl, ho, fun z => hne (fr_endless.mp z), rfl, q H2 (s1.trans s2)⟩
def sp_remove (CHa : Addr) : Sp := fun vs H Q _ => ∃ (h : Addr) (zk : Int) (k j : Nat) (x : V) (it : Item) (rows : Rows) (dx l p : Addr) (ps : List Addr) (xs : List V), vs = [.ref h, .int zk, x, .non] ∧ zk = (k : Int) ∧ HeapAt CHa H h rows ∧ Fit rows ∧ k < rows.length ∧ ItV H x it ∧ GoodI rows.length it ∧
  H h = some (.ins CHa dx [("lists", V.ref l)]) ∧ H l = some (.lst (ps.map V.ref)) ∧ ps[k]? = some p ∧ H p = some (.lst xs) ∧ xs.length = (rowOf rows k).length ∧
  (fnd rows it (rowOf rows k) 0 []).2 = .found j ∧ ∀ H', Off [p] H H' → H' p = some (.lst (xs.eraseIdx j)) → Q (.int (j : Int)) H'
theorem r_remove (T : Tx K mg) : FnR P w K mg base CX0 10 (He.ga K "remove") (fun vs H Q E => sp_remove (CH K) (vs ++ [.non]) H Q E) := by
  obtain ⟨fd, G⟩ := T.F_remove
  obtain ⟨ds, hdv, hb⟩ := b_remove0 G
  refine (fnk (k := 9) (ps := p_remove) (sp := sp_remove (CH K)) G c_remove (fun vs H Q E h => ?_) (fun cdv A outer s H vs Q E hr h => ?_)).raw hb hdv
  · obtain ⟨h, zk, k, j, x, it, rows, dx, l, p, ps, xs, rfl, _⟩ := h; rfl
  · obtain ⟨h, zk, k, j, x, it, rows, dx, l, p, ps, xs, rfl, rfl, hA, fit, hk, hx, hg, hh, hl, hps, hxs, lxs, hF, q⟩ := h
    have nd := c_remove.nd
    obtain ⟨tf, hf⟩ := T.t_FOUND
    refine ⟨_, pss_cons (ps_expr (pe_mt (pv 0) T.c_Heap T.m_Heap_need_box (r_need_box T) (hr.mono (by decide)) (pa_cons (pv 1) pa_nil)))
      (pss_cons (ps_expr (pe_mt (pv 0) T.c_Heap T.m_Heap_need_item (r_need_item T) (hr.mono (by decide)) (pa_cons (pv 2) (pa_cons pe_int pa_nil))))
      (pss_cons (ps_expr (pe_fn (r_check_limit T) (hr.mono (by decide)) (by rfl) T.g_check_limit (kpq T.F_check_limit) (pa_cons (pv 3) pa_nil)))
      (pss_cons (ps_set (i := 4) nd rfl (.inl rfl) (pe_fn (r_find0 T) hr (by rfl) T.g_find (kpq T.F_find) (pa_cons (pv 0) (pa_cons (pv 1) (pa_cons (pv 2) pa_nil)))))
      (pss_cons (ps_if (pt_cmpR op_ne (pe_fn (r_word_at T) (hr.mono (by decide)) (by rfl) T.g_word_at (kpq T.F_word_at) (pa_cons (pv 4) (pa_cons (pv 3) pa_nil))) (pe_glob (v := .str "found") (by rfl) hf ⟨_, rfl⟩) (nomark _)) pss_never pss_nil)
      (pss_cons (ps_expr (pe_mt (pv 0) T.c_Heap T.m_Heap_take (r_take T) (hr.mono (by decide)) (pa_cons (pv 1) (pa_cons (pe_fld (pv 4) rfl) pa_nil))))
      (pss_one (ps_ret (pe_fld (pv 4) rfl)))))))), ?_⟩
    refine ⟨_, rfl, h, dx, _, rfl, hh, rfl, _, rfl, h, _, k, rfl, rfl, hA.box hk, ?_⟩
    refine ⟨_, rfl, h, dx, _, rfl, hh, rfl, _, rfl, h, x, it, rows, rfl, hA, hx, hg, fun H1 s1 => ?_⟩
    refine ⟨_, rfl, rfl, ?_⟩
    refine ⟨_, rfl, _, rfl, _, rfl, h, _, _, k, 0, x, it, rows, rfl, rfl, rfl, hA.same s1, fit, hk, hx.same s1, hg, Nat.zero_le _, fun H2 o s2 hO => ?_⟩
    rw [List.drop_zero, hF] at hO
    obtain ⟨⟨dxo, vo, cs, ho, _, _⟩, _⟩ := hO
    have s12 := s1.trans s2
    refine ⟨_, rfl, _, rfl, o, dxo, vo, cs, _, _, _, _, rfl, ho, (by decide +kernel : ("found" : Str) ≠ "endless"), rfl, _, rfl, ?_⟩
    have z1 : (!decide (V.str "found" = V.str "found")) = false := by rw [decide_eq_true rfl]; rfl
    refine ite2 (fun z => absurd z (by rw [show (!decide (V.str (frW (.found j)) = V.str "found")) = false from z1]; exact Bool.false_ne_true)) (fun _ => ?_)
    have hj := (fnd_lt _ _ _ hF).2
    rw [Nat.zero_add] at hj
    have h3 : xs.length ≤ 3 := by rw [lxs]; exact fit.three _ (List.mem_of_getElem? (rowOf_at hk))
    have hp2 := s12 _ _ hxs
    refine ⟨_, rfl, h, dx, _, rfl, s12 _ _ hh, rfl, _, rfl, _, rfl, o, _, dxo, _, _, rfl, ho, T.c_Outcome, T.n_Outcome_number, ofl_number _ _ _ _ _ _, h, _, _, k, j, dx, l, p, ps, xs, xs[j]'(by rw [lxs]; exact hj), rfl, rfl, rfl, s12 _ _ hh, s12 _ _ hl, hps, hp2, List.getElem?_eq_getElem _, h3, ?_⟩
    refine ⟨_, rfl, o, _, dxo, _, _, rfl, by rw [upd_ne (ne_of ho hp2 (fun z => nomatch z))]; exact ho, T.c_Outcome, T.n_Outcome_number, ofl_number _ _ _ _ _ _, ?_⟩
    exact q _ ((Off.same s12).trans (Off.put (by simp))) upd_same
end
end Rg
end
section
set_option Elab.async false
set_option linter.all false
set_option maxRecDepth 100000
set_option maxHeartbeats 4000000
/-! The law's draws. -/
namespace Rg
open PySem PySem.Spec PyProof.Rows L2
/-- a bag: a number to take digits from, and a seed -/
def BagAt (H : Hp) (b : Addr) : Prop := ∃ A B : Int, H b = some (.lst [.int A, .int B]) ∧ 0 ≤ B ∧ B < 2 ^ 32
section
variable {P : Program} {w : World} {K : PySem.W.Frag} {mg : Str → Option Value} {base : Heap}
def prV : List V := [.int 2147483647, .int 2147483629, .int 2147483587, .int 2147483579, .int 2147483563, .int 2147483549, .int 2147483543]
theorem prime_at {k : Nat} (h : k ≤ 7) : ∃ j : Int, atI prV ((k : Int) % 7) = some (.int j) ∧ 0 < j ∧ j ≤ 2147483647 := by
  match k, h with
  | 0, _ => exact ⟨_, rfl, by decide, by decide⟩
  | 1, _ => exact ⟨_, rfl, by decide, by decide⟩
  | 2, _ => exact ⟨_, rfl, by decide, by decide⟩
  | 3, _ => exact ⟨_, rfl, by decide, by decide⟩
  | 4, _ => exact ⟨_, rfl, by decide, by decide⟩
  | 5, _ => exact ⟨_, rfl, by decide, by decide⟩
  | 6, _ => exact ⟨_, rfl, by decide, by decide⟩
  | 7, _ => exact ⟨_, rfl, by decide, by decide⟩
def sp_Lbag (K : PySem.W.Frag) : Sp := fun vs H Q _ => ∃ (a : Addr) (ns : List Int) (z : Int) (k : Nat), vs = [.ref a, .int z] ∧ z = (k : Int) ∧ k ≤ 4 ∧ SqL K H a (ns.map V.int) ∧ ∀ H' p, Same H H' → H p = none → BagAt H' p → Q (.ref p) H'
theorem r_Lbag (T : Tx K mg) : FnR P w K mg base CX0 1 (He.ga K "_law_bag") (sp_Lbag K) := by
  refine fnr T.F_Lbag c_Lbag (fun vs H Q E h => ?_) (fun _ _ _ _ _ _ us hl => match us, hl with | [_, _], _ => rfl) (fun cdv A outer s H vs Q E hr h => ?_)
  · obtain ⟨a, ns, z, k, rfl, _⟩ := h; rfl
  · obtain ⟨a, ns, z, k, rfl, rfl, hk, hS, q⟩ := h
    have nd := c_Lbag.nd
    refine ⟨_, pss_cons (ps_set (i := 2) nd rfl (.inl rfl) (pe_tup (pa_cons pe_int (pa_cons pe_int (pa_cons pe_int (pa_cons pe_int (pa_cons pe_int (pa_cons pe_int (pa_cons pe_int pa_nil)))))))))
      (pss_mid (ps_set (i := 3) nd rfl (.inl rfl) (pe_ifExp (pt_cmpR op_lt (pv 1) (pe_callB call_len_seq (by rfl) T.z_len boot_len (pa_cons (pv 0) pa_nil)) (nomark _)) (pe_ix ix_list (pv 0) (pv 1) (fun _ _ => rfl)) pe_int))
      (pss_mid (ps_set (i := 4) nd rfl (.inl rfl) (pe_ifExp (pt_cmpR op_ge (pe_callB call_abs (by rfl) T.z_abs boot_abs (pa_cons (pv 3) pa_nil)) (pe_op op_pow pe_int pe_int) (nomark _)) (pe_callB call_abs (by rfl) T.z_abs boot_abs (pa_cons (pv 3) pa_nil)) pe_int))
      (pss_mid (ps_set (i := 5) nd rfl (.inl rfl) (pe_op op_mod (pe_op op_pow (pe_op op_add (pe_op op_add (pe_op op_mod (pv 3) pe_int) (pe_op op_mul pe_int (pv 1))) pe_int) pe_int) (pe_ix ix_tup (pv 2) (pe_op op_mod (pv 1) pe_int) (fun _ _ => rfl))))
      (pss_one (ps_ret (pe_lst (pa_cons (pv 4) (pa_cons (pe_op op_add (pe_op op_mod (pe_op op_mul (pv 5) (pe_op op_add (pe_op op_add (pe_op op_fdiv (pv 5) pe_int) (pe_op op_mul pe_int (pv 1))) pe_int)) (pe_ix ix_tup (pv 2) (pe_op op_mod (pe_op op_add (pv 1) pe_int) pe_int) (fun _ _ => rfl))) pe_int) pa_nil)))))))), ?_⟩
    refine ⟨by show 7 ≤ sizeLine; decide, fun t ht => ?_⟩
    have s1 : Same H (upd H t (.tup prV)) := same_new ht
    have hT : upd H t (.tup prV) t = some (.tup prV) := upd_same
    obtain ⟨p1, e1, a1, b1⟩ := prime_at (k := k) (by omega)
    obtain ⟨p2, e2, a2, b2⟩ := prime_at (k := k + 3) (by omega)
    refine ⟨fun σ H' => ∃ c : Int, σ = [some (.ref a), some (.int (k : Int)), some (.ref t), some (.int c), none, none] ∧ H' = upd H t (.tup prV), ?_, ?_⟩
    · refine ⟨_, rfl, _, rfl, a, _, rfl, .inl (s1.seq hS), _, _, rfl, rfl, _, rfl, ?_⟩
      refine ite2 (fun e => ?_) (fun _ => ?_)
      · have hlt : k < ns.length := by
          have := of_decide_eq_true e
          rw [List.length_map] at this
          omega
        exact ⟨_, rfl, _, rfl, a, _, _, .int ns[k], rfl, rfl, s1.seq hS, atI_nat (by rw [List.getElem?_map, List.getElem?_eq_getElem hlt]; rfl), ⟨_, rfl, rfl⟩⟩
      · exact ⟨_, rfl, rfl⟩
    rintro σ H' ⟨c, rfl, rfl⟩
    refine ⟨fun σ H' => ∃ A : Int, σ = [some (.ref a), some (.int (k : Int)), some (.ref t), some (.int c), some (.int A), none] ∧ H' = upd H t (.tup prV), ?_, ?_⟩
    · refine ⟨_, rfl, _, rfl, _, _, rfl, rfl, ⟨by decide, by decide, by decide⟩, _, _, rfl, rfl, _, rfl, ?_⟩
      refine ite2 (fun _ => ?_) (fun _ => ?_)
      · exact ⟨_, rfl, _, rfl, _, rfl, rfl⟩
      · exact ⟨_, rfl, rfl⟩
    rintro σ H' ⟨A, rfl, rfl⟩
    have m2 : 0 ≤ c % 2305843009213693951 ∧ c % 2305843009213693951 < 2305843009213693951 := ⟨Int.emod_nonneg _ (by decide), Int.emod_lt_of_pos _ (by decide)⟩
    have p7 : (0 : Int) < 7 := by decide
    have p61 : (0 : Int) < 2305843009213693951 := by decide
    refine ⟨fun σ H' => ∃ m : Int, 0 ≤ m ∧ m < 2 ^ 31 ∧ σ = [some (.ref a), some (.int (k : Int)), some (.ref t), some (.int c), some (.int A), some (.int m)] ∧ H' = upd H t (.tup prV), ?_, ?_⟩
    · refine ⟨_, rfl, _, _, rfl, rfl, p61, _, rfl, _, _, rfl, rfl, .inl ⟨by decide, by decide⟩, _, _, rfl, rfl, _, _, rfl, rfl, _, _, rfl, rfl, ⟨by decide, by decide, ?_⟩, _, rfl, _, rfl, _, _, rfl, rfl, p7, t, prV, _, _, rfl, rfl, .of hT, e1, _, _, rfl, rfl, a1, ?_⟩
      · show (c % 2305843009213693951 + 77003 * (k : Int) + 23).natAbs < 2 ^ 64
        omega
      · exact ⟨(c % 2305843009213693951 + 77003 * (k : Int) + 23) ^ (3 : Int).toNat % p1, Int.emod_nonneg _ (by omega), Int.lt_of_lt_of_le (Int.emod_lt_of_pos _ a1) (by omega), rfl, rfl⟩
    rintro σ H' ⟨m, hm0, hm1, rfl, rfl⟩
    have e2' : atI prV (((k : Int) + 3) % 7) = some (.int p2) := by rw [← e2]; rfl
    refine ⟨_, rfl, _, rfl, _, rfl, _, _, rfl, rfl, ⟨by decide, by decide⟩, _, rfl, _, _, rfl, rfl, .inl ⟨by decide, by decide⟩, _, _, rfl, rfl, _, _, rfl, rfl, _, _, rfl, rfl, .inl ⟨by omega, by omega⟩, _, rfl, _, rfl, _, _, rfl, rfl, _, _, rfl, rfl, p7, t, prV, _, _, rfl, rfl, .of hT, e2', _, _, rfl, rfl, a2, _, _, rfl, rfl, by show 2 ≤ sizeLine; decide, fun p hp => ?_⟩
    refine q _ p (s1.trans (same_new hp)) (s1.free hp) ⟨A, m * (m / 7 + 5 * (k : Int) + 13) % p2 + 1, upd_same, ?_, ?_⟩
    · have := Int.emod_nonneg (m * (m / 7 + 5 * (k : Int) + 13)) (b := p2) (by omega)
      omega
    · have := Int.emod_lt_of_pos (m * (m / 7 + 5 * (k : Int) + 13)) a2
      omega
/-- a digit -/
def sp_Ltake : Sp := fun vs H Q _ => ∃ (b : Addr) (m : Int), vs = [.ref b, .int m] ∧ BagAt H b ∧ 0 < m ∧ m < 2 ^ 200 ∧ ∀ H' r, Off [b] H H' → BagAt H' b → 0 ≤ r → r < m → Q (.int r) H'
theorem r_Ltake (T : Tx K mg) : FnR P w K mg base CX0 1 (He.ga K "_law_take") sp_Ltake := by
  refine fnr T.F_Ltake c_Ltake (fun vs H Q E h => ?_) (fun _ _ _ _ _ _ us hl => match us, hl with | [_, _], _ => rfl) (fun cdv A outer s H vs Q E hr h => ?_)
  · obtain ⟨b, m, rfl, _⟩ := h; rfl
  · obtain ⟨b, m, rfl, ⟨A, B, hb, hB0, hB1⟩, hm0, hm1, q⟩ := h
    have nd := c_Ltake.nd
    refine ⟨_, pss_cons (ps_if (pt_cmpR op_gt (pe_ix ix_list (pv 0) pe_int (fun _ _ => rfl)) pe_int (nomark _))
        (pss_cons (ps_set (i := 2) nd rfl (.inl rfl) (pe_op op_mod (pe_ix ix_list (pv 0) pe_int (fun _ _ => rfl)) (pv 1)))
        (pss_cons (ps_asg (pe_op op_fdivW (pe_ix ix_list (pv 0) pe_int (fun _ _ => rfl)) (pv 1)) (pg_sub (pv 0) pe_int set_list))
        (pss_one (ps_ret (pv 2))))) pss_nil)
      (pss_cons (ps_asg (pe_op op_mod (pe_op op_mul (pe_ix ix_list (pv 0) pe_int (fun _ _ => rfl)) pe_int) pe_int) (pg_sub (pv 0) pe_int set_list))
      (pss_one (ps_ret (pe_op op_mod (pe_op op_fdiv (pe_op op_mod (pe_op op_mul (pe_ix ix_list (pv 0) pe_int (fun _ _ => rfl)) pe_int) pe_int) (pe_op op_pow pe_int pe_int)) (pv 1))))), ?_⟩
    refine ⟨_, rfl, b, _, 0, _, rfl, rfl, .of hb, rfl, _, _, rfl, rfl, _, rfl, ?_⟩
    have o1 : ∀ o, Off [b] H (upd H b o) := fun o => Off.put (by simp)
    refine ite2 (fun _ => ?_) (fun _ => ?_)
    · refine ⟨_, rfl, b, _, 0, _, rfl, rfl, .of hb, rfl, _, rfl, _, _, rfl, rfl, hm0, ?_⟩
      refine ⟨_, rfl, b, _, 0, _, rfl, rfl, .of hb, rfl, _, rfl, _, _, rfl, rfl, wide_div (b := 200) hm0 (by omega) (by decide) (by decide), _, rfl, b, _, 0, 0, rfl, rfl, hb, rfl, ?_⟩
      exact ⟨_, rfl, q _ (A % m) (o1 _) ⟨A / m, B, upd_same, hB0, hB1⟩ (Int.emod_nonneg _ (by omega)) (Int.emod_lt_of_pos _ hm0)⟩
    · have p1 : (0 : Int) < 2147483647 := by decide
      have p2 : (0 : Int) < 2147483629 := by decide
      have c1 := Int.emod_nonneg (B * 48271) (b := 2147483647) (by decide)
      have c2 := Int.emod_lt_of_pos (B * 48271) p1
      refine ⟨_, rfl, b, _, 1, _, rfl, rfl, .of hb, rfl, _, _, rfl, rfl, .inr ⟨by decide, by decide⟩, _, _, rfl, rfl, p1, _, rfl, b, _, 1, 1, rfl, rfl, hb, rfl, ?_⟩
      refine ⟨_, rfl, b, _, 1, _, rfl, rfl, .of upd_same, rfl, _, _, rfl, rfl, .inr ⟨by decide, by decide⟩, _, _, rfl, rfl, p2, _, _, rfl, rfl, ⟨by decide, by decide, by decide⟩, _, _, rfl, rfl, ⟨by decide, by decide⟩, _, rfl, _, _, rfl, rfl, hm0, ?_⟩
      exact q _ _ (o1 _) ⟨A, B * 48271 % 2147483647, upd_same, c1, by omega⟩ (Int.emod_nonneg _ (by omega)) (Int.emod_lt_of_pos _ hm0)
end
end Rg
end
section
set_option Elab.async false
set_option linter.all false
set_option maxRecDepth 100000
set_option maxHeartbeats 4000000
/-! The law's contents. -/
namespace Rg
open PySem PySem.Spec PyProof.Rows L2
theorem BagAt.off {S : List Addr} {H H' : Hp} {b : Addr} (o : Off S H H') (hb : b ∉ S) (h : BagAt H b) : BagAt H' b := by
  obtain ⟨A, B, e, r⟩ := h
  exact ⟨A, B, o _ _ hb e, r⟩
theorem BagAt.same {H H' : Hp} {b : Addr} (s : Same H H') (h : BagAt H b) : BagAt H' b := by
  obtain ⟨A, B, e, r⟩ := h
  exact ⟨A, B, s _ _ e, r⟩
theorem BagAt.ne {H : Hp} {b a : Addr} (h : BagAt H b) (ha : H a = none) : a ≠ b := by
  obtain ⟨A, B, e, r⟩ := h
  exact (ne_of_none e ha).symm
theorem BagAt.nt {H : Hp} {b : Addr} (h : BagAt H b) : ∀ c ∈ [b], ∀ xs, H c ≠ some (.tup xs) := by
  obtain ⟨A, B, e, r⟩ := h
  exact lst_nt e
section
variable {P : Program} {w : World} {K : PySem.W.Frag} {mg : Str → Option Value} {base : Heap}
def leafV : List V := [.int 0, .int 1, .int 2, .str "a", .str "b", .str "", .int (-1), .int (10 ^ 39), .str "abcdefgh", .int (-(10 ^ 20))]
def ixV : List V := [.int 0, .int 1, .int 1, .int 2, .int 3, .int 3, .int 4, .int 5, .int 6, .int 7, .int 8, .int 9]
def LeafOk (v : V) : Prop := ∃ it, (∀ H, ItV H v it) ∧ ∀ n, GoodI n it
theorem lk_int (i : Int) : LeafOk (.int i) := ⟨.int i, fun _ => rfl, fun _ => True.intro⟩
theorem lk_a : LeafOk (.str "a") := ⟨.str "a", fun _ => ⟨rfl, by decide +kernel⟩, fun _ => ⟨by decide +kernel, by decide +kernel⟩⟩
theorem lk_b : LeafOk (.str "b") := ⟨.str "b", fun _ => ⟨rfl, by decide +kernel⟩, fun _ => ⟨by decide +kernel, by decide +kernel⟩⟩
theorem lk_e : LeafOk (.str "") := ⟨.str "", fun _ => ⟨rfl, by decide +kernel⟩, fun _ => ⟨by decide +kernel, by decide +kernel⟩⟩
theorem lk_h : LeafOk (.str "abcdefgh") := ⟨.str "abcdefgh", fun _ => ⟨rfl, by decide +kernel⟩, fun _ => ⟨by decide +kernel, by decide +kernel⟩⟩
theorem leaf_at {r : Int} (h0 : 0 ≤ r) (h1 : r < 12) : ∃ j v, atI ixV r = some (.int j) ∧ atI leafV j = some v ∧ LeafOk v := by
  obtain ⟨n, rfl⟩ : ∃ n : Nat, r = (n : Int) := ⟨r.toNat, by omega⟩
  have hn : n < 12 := by omega
  match n, hn with
  | 0, _ => exact ⟨0, _, rfl, rfl, lk_int _⟩
  | 1, _ => exact ⟨1, _, rfl, rfl, lk_int _⟩
  | 2, _ => exact ⟨1, _, rfl, rfl, lk_int _⟩
  | 3, _ => exact ⟨2, _, rfl, rfl, lk_int _⟩
  | 4, _ => exact ⟨3, _, rfl, rfl, lk_a⟩
  | 5, _ => exact ⟨3, _, rfl, rfl, lk_a⟩
  | 6, _ => exact ⟨4, _, rfl, rfl, lk_b⟩
  | 7, _ => exact ⟨5, _, rfl, rfl, lk_e⟩
  | 8, _ => exact ⟨6, _, rfl, rfl, lk_int _⟩
  | 9, _ => exact ⟨7, _, rfl, rfl, lk_int _⟩
  | 10, _ => exact ⟨8, _, rfl, rfl, lk_h⟩
  | 11, _ => exact ⟨9, _, rfl, rfl, lk_int _⟩
def sp_Lleaf : Sp := fun vs H Q _ => ∃ b : Addr, vs = [.ref b] ∧ BagAt H b ∧ ∀ H' v, Off [b] H H' → BagAt H' b → LeafOk v → Q v H'
theorem r_Lleaf (T : Tx K mg) : FnR P w K mg base CX0 2 (He.ga K "_law_leaf") sp_Lleaf := by
  refine fnr T.F_Lleaf c_Lleaf (fun vs H Q E h => ?_) (fun _ _ _ _ _ _ us hl => match us, hl with | [_], _ => rfl) (fun cdv A outer s H vs Q E hr h => ?_)
  · obtain ⟨b, rfl, _⟩ := h; rfl
  · obtain ⟨b, rfl, hb, q⟩ := h
    have nd := c_Lleaf.nd
    refine ⟨_, pss_cons (ps_set (i := 1) nd rfl (.inl rfl) (pe_lst (pa_cons pe_int (pa_cons pe_int (pa_cons pe_int (pa_cons pe_str (pa_cons pe_str (pa_cons pe_str (pa_cons (pe_un un_neg pe_int) (pa_cons (pe_op op_pow pe_int pe_int) (pa_cons pe_str (pa_cons (pe_un un_neg (pe_op op_pow pe_int pe_int)) pa_nil))))))))))))
      (pss_one (ps_ret (pe_ix ix_list (pv 1) (pe_ix ix_list (pe_lst (pa_cons pe_int (pa_cons pe_int (pa_cons pe_int (pa_cons pe_int (pa_cons pe_int (pa_cons pe_int (pa_cons pe_int (pa_cons pe_int (pa_cons pe_int (pa_cons pe_int (pa_cons pe_int (pa_cons pe_int pa_nil)))))))))))))
        (pe_fn (r_Ltake T) hr (by rfl) T.g_Ltake (kpq T.F_Ltake) (pa_cons (pv 0) (pa_cons pe_int pa_nil))) (fun _ _ => rfl)) (fun _ _ => rfl)))), ?_⟩
    refine ⟨_, rfl, _, _, rfl, rfl, ⟨by decide, by decide, by decide⟩, _, _, rfl, rfl, ⟨by decide, by decide, by decide⟩, _, rfl, by show 10 ≤ sizeLine; decide, fun L1 h1 => ?_⟩
    refine ⟨_, rfl, by show 12 ≤ sizeLine; decide, fun L2 h2 => ?_⟩
    have s1 : Same H (upd H L1 (.lst leafV)) := same_new h1
    have s2 : Same (upd H L1 (.lst leafV)) (upd (upd H L1 (.lst leafV)) L2 (.lst ixV)) := same_new h2
    have b1 := hb.ne h1
    have b2 := (hb.same s1).ne h2
    refine ⟨_, rfl, b, _, rfl, (hb.same s1).same s2, by decide, by decide, fun H3 r o3 hb3 r0 r1 => ?_⟩
    obtain ⟨j, v, e1, e2, lk⟩ := leaf_at r0 r1
    have hL2 := o3 _ _ (by simpa using b2) (upd_same (H := upd H L1 (.lst leafV)) (a := L2) (o := .lst ixV))
    have hL1 := o3 _ _ (by simpa using b1) (s2 _ _ (upd_same (H := H) (a := L1) (o := .lst leafV)))
    exact ⟨L2, ixV, _, _, rfl, rfl, .of hL2, e1, L1, leafV, _, _, rfl, rfl, .of hL1, e2, q H3 v ((Off.same (s1.trans s2)).trans o3) hb3 lk⟩
theorem Paired.mapMem {α β : Type} {F G : α → β → Prop} : ∀ {xs : List α} {ys : List β}, Paired F xs ys → (∀ x y, x ∈ xs → F x y → G x y) → Paired G xs ys
  | _, _, .nil, _ => .nil
  | _, _, .cons r t, f => .cons (f _ _ List.mem_cons_self r) (Paired.mapMem t fun x y hx => f x y (List.mem_cons_of_mem _ hx))
theorem NewRows.off {S : List Addr} {H : Hp} {D : Addr} {H' H2 : Hp} {qs : List Addr} {rs : Rows} (h : NewRows H D H' qs rs) (o : Off S H' H2) (hq : ∀ q ∈ qs, q ∉ S) (nt : ∀ b ∈ S, ∀ xs, H' b ≠ some (.tup xs)) : NewRows H D H2 qs rs :=
  Paired.mapMem h fun q row hm ⟨a, b, c⟩ => ⟨a, b, c.off o (hq q hm) nt⟩
theorem NewRows.free {H : Hp} {D : Addr} {H' : Hp} : ∀ {qs : List Addr} {rs : Rows}, NewRows H D H' qs rs → ∀ q ∈ qs, q ≠ D ∧ H q = none ∧ ∃ o, H' q = some o
  | _, _, .nil, q, h => absurd h List.not_mem_nil
  | _, _, .cons r t, q, h => by
    rcases List.mem_cons.mp h with z | z
    · rw [z]; obtain ⟨vs, e, _⟩ := r.2.2; exact ⟨r.1, r.2.1, _, e⟩
    · exact NewRows.free t q z
theorem items_off {S : List Addr} {H H' : Hp} (o : Off S H H') (nt : ∀ b ∈ S, ∀ xs, H b ≠ some (.tup xs)) {vs : List V} {row : List Item} (r : Paired (ItV H) vs row) : Paired (ItV H') vs row := Paired.mapP r fun v it hv => by
  cases it with
  | int i => exact hv
  | str x => exact hv
  | box k => obtain ⟨t, ev, ht⟩ := hv; exact ⟨t, ev, o _ _ (fun z => nt _ z _ ht) ht⟩
def GoodRow (n : Nat) (row : List Item) : Prop := row.length ≤ 3 ∧ ∀ a ∈ row, GoodI n a
def sp_Lcontents : Sp := fun vs H Q _ => ∃ b : Addr, vs = [.ref b, .int 5] ∧ BagAt H b ∧ ∀ H' a ps rows, Off [b] H H' → BagAt H' b → H' a = some (.lst (ps.map V.ref)) → H a = none → NewRows H a H' ps rows → 1 ≤ rows.length → rows.length ≤ 5 → (∀ row ∈ rows, GoodRow rows.length row) → Q (.ref a) H'
theorem r_Lcontents (T : Tx K mg) : FnR P w K mg base CX0 3 (He.ga K "_law_contents") sp_Lcontents := by
  refine fnr T.F_Lcontents c_Lcontents (fun vs H Q E h => ?_) (fun _ _ _ _ _ _ us hl => match us, hl with | [_, _], _ => rfl) (fun cdv A outer s H vs Q E hr h => ?_)
  · obtain ⟨b, rfl, _⟩ := h; rfl
  · obtain ⟨b, rfl, hb, q⟩ := h
    have nd := c_Lcontents.nd
    have two : (2 : Nat) ≤ sizeLine := by decide
    refine ⟨_, pss_cons (ps_par (i := 2) (j := 3) rfl nd rfl rfl (by decide) rfl rfl (pa_cons (pe_op op_add pe_int (pe_fn (r_Ltake T) (hr.mono (by decide)) (by rfl) T.g_Ltake (kpq T.F_Ltake) (pa_cons (pv 0) (pa_cons (pv 1) pa_nil)))) (pa_cons (pe_lst pa_nil) pa_nil)) (by rfl))
      (pss_cons (ps_for PassesOwn.never rfl (pi_range1 (by rfl) T.z_range (pa_cons (pv 2) pa_nil)) (pg_name (i := 4) nd rfl (.inl rfl))
        (pss_cons (ps_set (i := 5) nd rfl (.inl rfl) (pe_lst pa_nil))
        (pss_cons (ps_for PassesOwn.never rfl (pi_range1 (by rfl) T.z_range (pa_cons (pe_fn (r_Ltake T) (hr.mono (by decide)) (by rfl) T.g_Ltake (kpq T.F_Ltake) (pa_cons (pv 0) (pa_cons pe_int pa_nil))) pa_nil)) (pg_name (i := 6) nd rfl (.inl rfl))
          (pss_one (ps_expr (pe_bm PySem.F.plainAttrs_list PySem.F.slot_list_append PySem.F.type_list_append mt_append (pv 5) (pa_cons (pe_ifExp (pt_cmpR op_gt (pe_fn (r_Ltake T) (hr.mono (by decide)) (by rfl) T.g_Ltake (kpq T.F_Ltake) (pa_cons (pv 0) (pa_cons pe_int pa_nil))) pe_int (nomark _))
            (pe_tup (pa_cons pe_str (pa_cons (pe_fn (r_Ltake T) (hr.mono (by decide)) (by rfl) T.g_Ltake (kpq T.F_Ltake) (pa_cons (pv 0) (pa_cons (pv 2) pa_nil))) pa_nil))) (pe_fn (r_Lleaf T) hr (by rfl) T.g_Lleaf (kpq T.F_Lleaf) (pa_cons (pv 0) pa_nil))) pa_nil)))))
        (pss_one (ps_expr (pe_bm PySem.F.plainAttrs_list PySem.F.slot_list_append PySem.F.type_list_append mt_append (pv 3) (pa_cons (pv 5) pa_nil)))))))
      (pss_one (ps_ret (pv 3)))), ?_⟩
    obtain ⟨A0, B0, eb, _⟩ := id hb
    refine ⟨_, rfl, _, rfl, b, _, rfl, hb, by decide, by decide, fun H1 r o1 hb1 r0 r1 => ?_⟩
    obtain ⟨n, rfl⟩ : ∃ n : Nat, r = (n : Int) := ⟨r.toNat, by omega⟩
    refine ⟨_, _, rfl, rfl, Nat.zero_le _, fun fa hfa => ⟨.int ((n + 1 : Nat) : Int), .ref fa, ?_, ?_⟩⟩
    · show [V.int ((1 : Int) + (n : Int)), V.ref fa] = _
      rw [show (1 : Int) + (n : Int) = ((n + 1 : Nat) : Int) by omega]
    have fb : fa ≠ b := hb1.ne hfa
    have hfaH : H fa = none := off_free o1 hfa fun c hc => by
      rw [List.mem_singleton.mp hc]
      obtain ⟨A, B, e, _⟩ := hb1
      exact ⟨_, e⟩
    refine ⟨_, rfl, _, rfl, by omega, by omega, ?_⟩
    refine for_range (fun i σ H' => ∃ (o4 o5 o6 : Option V) (ps : List Addr) (rs : Rows), σ = [some (.ref b), some (.int 5), some (.int ((n + 1 : Nat) : Int)), some (.ref fa), o4, o5, o6] ∧ Off [b] H H' ∧ BagAt H' b ∧ H' fa = some (.lst (ps.map V.ref)) ∧ NewRows H fa H' ps rs ∧ rs.length = i ∧ ∀ row ∈ rs, GoodRow (n + 1) row)
      ⟨_, _, _, [], [], rfl, o1.trans (Off.new hfa), hb1.same (same_new hfa), upd_same, .nil, rfl, fun _ z => absurd z List.not_mem_nil⟩ ?_ ?_
    · rintro i σ H' hi ⟨o4, o5, o6, ps, rs, rfl, o, hbg, hfa', nr, hlen, hgood⟩
      refine ⟨Nat.zero_le _, fun ra hra => ?_⟩
      have rab : ra ≠ b := hbg.ne hra
      have raf : ra ≠ fa := (ne_of_none hfa' hra).symm
      have rps : ∀ p ∈ ps, p ≠ ra := fun p hp => by
        obtain ⟨_, _, o', e'⟩ := nr.free p hp
        exact ne_of_none e' hra
      have bps : ∀ p ∈ ps, p ≠ b := fun p hp => by
        obtain ⟨_, e', _⟩ := nr.free p hp
        exact hb.ne e'
      have raH : H ra = none := off_free o hra fun c hc => by
        rw [List.mem_singleton.mp hc]
        obtain ⟨A, B, e, _⟩ := hbg
        exact ⟨_, e⟩
      have s1 : Same H' (upd H' ra (.lst [])) := same_new hra
      refine ⟨_, rfl, b, _, rfl, hbg.same s1, by decide, by decide, fun H2 r o2 hb2 r0 r1 => ?_⟩
      refine ⟨r, rfl, by omega, by omega, ?_⟩
      have nt1 := (hbg.same s1).nt
      have h0 : NewRows H fa H2 ps rs := ((nr.off (S := []) (Off.same s1) (fun _ _ => List.not_mem_nil) (fun _ z => absurd z List.not_mem_nil)).off o2 (fun p hp => by simpa using bps p hp) nt1)
      refine for_range (fun j σ H'' => ∃ (o6 : Option V) (vs : List V) (row : List Item), σ = [some (.ref b), some (.int 5), some (.int ((n + 1 : Nat) : Int)), some (.ref fa), some (.int ((0 : Int) + (i : Nat))), some (.ref ra), o6] ∧ Off [b] H H'' ∧ BagAt H'' b ∧ H'' fa = some (.lst (ps.map V.ref)) ∧ NewRows H fa H'' ps rs ∧
          H'' ra = some (.lst vs) ∧ Paired (ItV H'') vs row ∧ row.length = j ∧ ∀ a ∈ row, GoodI (n + 1) a)
        ⟨_, [], [], rfl, (o.trans (Off.same s1)).trans o2, hb2, o2 _ _ (by simpa using fb) (s1 _ _ hfa'), h0, o2 _ _ (by simpa using rab) upd_same, .nil, rfl, fun _ z => absurd z List.not_mem_nil⟩ ?_ ?_
      · rintro j σ H3 hj ⟨o6, vs, row, rfl, o3, hb3, hfa3, nr3, hra3, rv, lrow, grow⟩
        have hj3 : j < 3 := by omega
        have lvs : vs.length < sizeLine := by rw [Paired.length rv, lrow]; exact Nat.lt_trans hj3 (by decide)
        have app : ∀ (H5 : Hp) (v : V) (it : Item), Off [b] H3 H5 → BagAt H5 b → ItV H5 v it → GoodI (n + 1) it → H5 ra = some (.lst vs) ∧ ∃ (o6 : Option V) (vs2 : List V) (row : List Item), [some (.ref b), some (.int 5), some (.int ((n + 1 : Nat) : Int)), some (.ref fa), some (.int ((0 : Int) + (i : Nat))), some (.ref ra), some (.int ((0 : Int) + (j : Nat)))] = [some (.ref b), some (.int 5), some (.int ((n + 1 : Nat) : Int)), some (.ref fa), some (.int ((0 : Int) + (i : Nat))), some (.ref ra), o6] ∧
            Off [b] H (upd H5 ra (.lst (vs ++ [v]))) ∧ BagAt (upd H5 ra (.lst (vs ++ [v]))) b ∧ upd H5 ra (.lst (vs ++ [v])) fa = some (.lst (ps.map V.ref)) ∧ NewRows H fa (upd H5 ra (.lst (vs ++ [v]))) ps rs ∧ upd H5 ra (.lst (vs ++ [v])) ra = some (.lst vs2) ∧ Paired (ItV (upd H5 ra (.lst (vs ++ [v])))) vs2 row ∧ row.length = j + 1 ∧ ∀ a ∈ row, GoodI (n + 1) a := by
          intro H5 v it o5 hb5 hv hg
          have hra5 := o5 _ _ (by simpa using rab) hra3
          have oo : Off [ra] H5 (upd H5 ra (.lst (vs ++ [v]))) := Off.put (by simp)
          have nt5 := lst_nt hra5
          refine ⟨hra5, _, vs ++ [v], row ++ [it], rfl, off_new (o3.trans o5) raH, hb5.off oo (by simpa using rab.symm), oo _ _ (by simpa using raf.symm) (o5 _ _ (by simpa using fb) hfa3), (nr3.off o5 (fun p hp => by simpa using bps p hp) hb3.nt).off oo (fun p hp => by simpa using rps p hp) nt5, upd_same, ?_, by rw [List.length_append, lrow]; rfl, fun a ha => ?_⟩
          · exact Paired.app (items_off oo nt5 (items_off o5 hb3.nt rv)) (items_off oo nt5 (Paired.cons hv Paired.nil))
          · rcases List.mem_append.mp ha with z | z
            · exact grow a z
            · rw [List.mem_singleton.mp z]; exact hg
        refine ⟨_, rfl, .inl ⟨rfl, _, .of hra3⟩, _, rfl, b, _, rfl, hb3, by decide, by decide, fun H4 r4 o4' hb4 _ _ => ⟨_, _, rfl, rfl, _, rfl, ?_⟩⟩
        refine ite2 (fun _ => ?_) (fun _ => ?_)
        · refine ⟨_, rfl, _, rfl, b, _, rfl, hb4, by omega, by omega, fun H5 r5 o5' hb5 r50 r51 => ⟨two, fun t ht => ?_⟩⟩
          obtain ⟨m, rfl⟩ : ∃ m : Nat, r5 = (m : Int) := ⟨r5.toNat, by omega⟩
          obtain ⟨a1, a2⟩ := app (upd H5 t (.tup [.str "box", .int (m : Int)])) (.ref t) (.box m) ((o4'.trans o5').trans (Off.new ht)) (hb5.same (same_new ht)) ⟨t, rfl, upd_same⟩ (show m < n + 1 by omega)
          exact ⟨ra, vs, _, rfl, rfl, a1, lvs, a2⟩
        · refine ⟨_, rfl, b, rfl, hb4, fun H5 v o5' hb5 ⟨it, hv, hg⟩ => ?_⟩
          obtain ⟨a1, a2⟩ := app H5 v it (o4'.trans o5') hb5 (hv _) (hg _)
          exact ⟨ra, vs, _, rfl, rfl, a1, lvs, a2⟩
      · rintro σ H3 ⟨o6, vs, row, rfl, o3, hb3, hfa3, nr3, hra3, rv, lrow, grow⟩
        have lps : ps.length ≤ 5 := by rw [Paired.length nr]; omega
        refine ⟨_, rfl, .inl ⟨rfl, _, .of hfa3⟩, _, rfl, fa, _, _, rfl, rfl, hfa3, by rw [List.length_map]; exact Nat.lt_of_le_of_lt lps (by decide), ?_⟩
        have oo : Off [fa] H3 (upd H3 fa (.lst (ps.map V.ref ++ [V.ref ra]))) := Off.put (by simp)
        have ntf := lst_nt hfa3
        refine ⟨_, _, _, ps ++ [ra], rs ++ [row], rfl, off_new o3 hfaH, hb3.off oo (by simpa using fb.symm), by rw [upd_same]; simp, Paired.app (nr3.off oo (fun p hp => by simpa using (nr3.free p hp).1) ntf) (.cons ⟨raf, raH, vs, oo _ _ (by simpa using raf) hra3, items_off oo ntf rv⟩ .nil), by rw [List.length_append, hlen]; rfl, fun rw' hrw => ?_⟩
        rcases List.mem_append.mp hrw with z | z
        · exact hgood rw' z
        · rw [List.mem_singleton.mp z]
          exact ⟨by rw [lrow]; omega, grow⟩
    · rintro σ H' ⟨o4, o5, o6, ps, rs, rfl, o, hbg, hfa', nr, hlen, hgood⟩
      have hl : rs.length = n + 1 := by rw [hlen]; omega
      exact ⟨_, rfl, q H' fa ps rs o hbg hfa' hfaH nr (by omega) (by omega) (by rw [hl]; exact hgood)⟩
end
end Rg
end
section
set_option Elab.async false
set_option linter.all false
set_option maxRecDepth 100000
set_option maxHeartbeats 4000000
/-! The law's heaps. -/
namespace Rg
open PySem PySem.Spec PyProof.Rows L2
theorem Paired.set {α β : Type} {F : α → β → Prop} : ∀ {xs : List α} {ys : List β} (j : Nat) {x : α} {y : β}, Paired F xs ys → F x y → Paired F (xs.set j x) (ys.set j y)
  | _, _, _, _, _, .nil, _ => .nil
  | _, _, 0, _, _, .cons _ t, h => .cons h t
  | _, _, j + 1, _, _, .cons r t, h => .cons r (Paired.set j t h)
theorem Paired.setAt {α β : Type} {F G : α → β → Prop} : ∀ {xs : List α} {ys : List β} {r : Nat} {x : α} {y : β}, Paired F xs ys → xs[r]? = some x → xs.Nodup → (∀ a b, a ≠ x → F a b → G a b) → G x y → Paired G xs (ys.set r y)
  | _, _, _, _, _, .nil, h, _, _, _ => by cases h
  | a :: xs, b :: ys, 0, x, y, .cons f t, h, nd, hg, hy => by
    have e : a = x := Option.some.inj h
    subst e
    refine .cons hy (Paired.mapMem t fun p q hp z => hg p q (fun e => ?_) z)
    rw [e] at hp
    exact (List.nodup_cons.mp nd).1 hp
  | a :: xs, b :: ys, r + 1, x, y, .cons f t, h, nd, hg, hy => by
    have hx : x ∈ xs := List.mem_of_getElem? (show xs[r]? = some x from h)
    refine .cons (hg a b (fun e => ?_) f) (Paired.setAt (r := r) t h (List.nodup_cons.mp nd).2 hg hy)
    rw [e] at nd
    exact (List.nodup_cons.mp nd).1 hx
theorem tab_cut {S : List Addr} {H : Hp} {a : Addr} {ps : List Addr} {rows : Rows} (e : H a = some (.lst (ps.map V.ref))) (ha : a ∉ S) (hp : ∀ p ∈ ps, p ∉ S) (nt : ∀ b ∈ S, ∀ xs, H b ≠ some (.tup xs)) (r : Paired (RowAt H) ps rows) : TabAt (cut S H) a rows :=
  ⟨ps, cut_of ha e, Paired.mapMem r fun p row hm ⟨vs, ep, rp⟩ => ⟨vs, cut_of (hp p hm) ep, Paired.mapP rp fun v it hv => by
    cases it with
    | int i => exact hv
    | str x => exact hv
    | box k => obtain ⟨t, ev, ht⟩ := hv; exact ⟨t, ev, cut_of (fun z => nt _ z _ ht) ht⟩⟩⟩
theorem GoodRow.mono {n m : Nat} (h : n ≤ m) {row : List Item} (g : GoodRow n row) : GoodRow m row := ⟨g.1, fun a ha => by
  have := g.2 a ha
  cases a with
  | int i => exact True.intro
  | str x => exact this
  | box k => exact Nat.lt_of_lt_of_le this h⟩
section
variable {P : Program} {w : World} {K : PySem.W.Frag} {mg : Str → Option Value} {base : Heap}
def sp_Ltwofold : Sp := fun vs H Q _ => ∃ b : Addr, vs = [.ref b, .int 5] ∧ BagAt H b ∧ ∀ H' a rows, Off [b] H H' → BagAt H' b → TabAt (cut [b] H') a rows → Fit rows → 2 ≤ rows.length → Q (.ref a) H'
theorem r_Ltwofold (T : Tx K mg) : FnR P w K mg base CX0 4 (He.ga K "_law_twofold") sp_Ltwofold := by
  refine fnr T.F_Ltwofold c_Ltwofold (fun vs H Q E h => ?_) (fun _ _ _ _ _ _ us hl => match us, hl with | [_, _], _ => rfl) (fun cdv A outer s H vs Q E hr h => ?_)
  · obtain ⟨b, rfl, _⟩ := h; rfl
  · obtain ⟨b, rfl, hb, q⟩ := h
    have nd := c_Ltwofold.nd
    have two : (2 : Nat) ≤ sizeLine := by decide
    refine ⟨_, pss_cons (ps_set (i := 2) nd rfl (.inl rfl) (pe_fn (r_Lcontents T) hr (by rfl) T.g_Lcontents (kpq T.F_Lcontents) (pa_cons (pv 0) (pa_cons (pv 1) pa_nil))))
      (pss_cons (ps_par (i := 3) (j := 4) rfl nd rfl rfl (by decide) rfl rfl (pa_cons (pe_callB call_len_seq (by rfl) T.z_len boot_len (pa_cons (pv 2) pa_nil)) (pa_cons (pe_lst pa_nil) pa_nil)) (by rfl))
      (pss_cons (ps_for PassesOwn.never rfl (pi_list (pv 2)) (pg_name (i := 5) nd rfl (.inl rfl))
        (pss_cons (ps_set (i := 6) nd rfl (.inl rfl) (pe_lst pa_nil))
        (pss_cons (ps_for PassesOwn.never rfl (pi_list (pv 5)) (pg_name (i := 7) nd rfl (.inl rfl))
          (pss_mid (ps_if (PW.pt (pw_and (pt_val (pe_callB call_isi (by rfl) T.z_isinstance boot_isinstance (pa_cons (pv 7) (pa_cons (pe_bltn (v := .ty "tuple") (by rfl) T.z_tuple boot_tuple rfl) pa_nil)))) (pw_and1 (pt_cmpR op_gt (pe_fn (r_Ltake T) (hr.mono (by decide)) (by rfl) T.g_Ltake (kpq T.F_Ltake) (pa_cons (pv 0) (pa_cons pe_int pa_nil))) pe_int (nomark _)))))
            (pss_one (ps_set (i := 7) nd rfl (.inl rfl) (pe_tup (pa_cons pe_str (pa_cons (pe_op op_add (pe_ix ix_tup (pv 7) pe_int (fun _ _ => rfl)) (pv 3)) pa_nil))))) pss_nil)
          (pss_one (ps_expr (pe_bm PySem.F.plainAttrs_list PySem.F.slot_list_append PySem.F.type_list_append mt_append (pv 6) (pa_cons (pv 7) pa_nil))))))
        (pss_one (ps_expr (pe_bm PySem.F.plainAttrs_list PySem.F.slot_list_append PySem.F.type_list_append mt_append (pv 4) (pa_cons (pv 6) pa_nil)))))))
      (pss_cons (ps_set (i := 8) nd rfl (.inl rfl) (pe_ix ix_list (pv 4) (pe_fn (r_Ltake T) (hr.mono (by decide)) (by rfl) T.g_Ltake (kpq T.F_Ltake) (pa_cons (pv 0) (pa_cons (pv 3) pa_nil))) (fun _ _ => rfl)))
      (pss_mid (ps_if (PW.pt (pw_and (pt_cmpR (op_neD (u64 hr)) (pv 8) (pe_lst pa_nil) (nomark _)) (pw_and1 (pt_cmpR op_eq (pe_fn (r_Ltake T) (hr.mono (by decide)) (by rfl) T.g_Ltake (kpq T.F_Ltake) (pa_cons (pv 0) (pa_cons pe_int pa_nil))) pe_int (nomark _)))))
        (pss_one (ps_asg (pe_fn (r_Lleaf T) (hr.mono (by decide)) (by rfl) T.g_Lleaf (kpq T.F_Lleaf) (pa_cons (pv 0) pa_nil)) (pg_sub (pv 8) (pe_fn (r_Ltake T) (hr.mono (by decide)) (by rfl) T.g_Ltake (kpq T.F_Ltake) (pa_cons (pv 0) (pa_cons (pe_callB call_len_seq (by rfl) T.z_len boot_len (pa_cons (pv 8) pa_nil)) pa_nil))) set_list))) pss_nil)
      (pss_one (ps_ret (pe_op op_cat (pv 2) (pv 4)))))))), ?_⟩
    refine ⟨_, rfl, _, rfl, b, rfl, hb, fun H1 fa ps1 rows1 o1 hb1 hfa hfaH nr1 n1 n5 hgood1 => ?_⟩
    have fb : fa ≠ b := hb.ne hfaH
    have l1 : ps1.length = rows1.length := Paired.length nr1
    have bps1 : ∀ p ∈ ps1, p ≠ b ∧ p ≠ fa := fun p hp => ⟨hb.ne (nr1.free p hp).2.1, (nr1.free p hp).1⟩
    generalize hn : rows1.length = n at *
    refine ⟨_, rfl, fa, _, rfl, .inl (.of hfa), Nat.zero_le _, fun sa hsa => ⟨.int (n : Int), .ref sa, ?_, ?_⟩⟩
    · rw [List.length_map, l1]
    have sb : sa ≠ b := hb1.ne hsa
    have sf : sa ≠ fa := (ne_of_none hfa hsa).symm
    have saH : H sa = none := off_free o1 hsa fun c hc => by
      rw [List.mem_singleton.mp hc]
      obtain ⟨A, B, e, _⟩ := hb1
      exact ⟨_, e⟩
    have sps1 : ∀ p ∈ ps1, p ≠ sa := fun p hp => by
      obtain ⟨_, _, o', e'⟩ := nr1.free p hp
      exact ne_of_none e' hsa
    refine ⟨_, rfl, fa, rfl, ⟨_, .of ((same_new hsa) _ _ hfa)⟩, ?_⟩
    have hr1 : Paired (RowAt H1) ps1 rows1 := Paired.mapP nr1 fun _ _ z => z.2.2
    refine for_list (xs := ps1.map V.ref) (fun i σ H' => ∃ (o5 o6 o7 : Option V) (ps : List Addr) (rs : Rows), σ = [some (.ref b), some (.int 5), some (.ref fa), some (.int (n : Int)), some (.ref sa), o5, o6, o7, none] ∧ Off [b] H H' ∧ BagAt H' b ∧ H' fa = some (.lst (ps1.map V.ref)) ∧ Paired (RowAt H') ps1 rows1 ∧
        H' sa = some (.lst (ps.map V.ref)) ∧ Paired (RowAt H') ps rs ∧ rs.length = i ∧ (∀ row ∈ rs, GoodRow (2 * n) row) ∧ ps.Nodup ∧ ∀ p ∈ ps, p ≠ b ∧ p ≠ fa ∧ p ≠ sa ∧ p ∉ ps1 ∧ H p = none)
      ⟨_, _, _, [], [], rfl, o1.trans (Off.new hsa), hb1.same (same_new hsa), (same_new hsa) _ _ hfa, Paired.mapP hr1 fun _ _ z => z.same (same_new hsa), upd_same, .nil, rfl, fun _ z => absurd z List.not_mem_nil, List.nodup_nil, fun _ z => absurd z List.not_mem_nil⟩
      (fun i σ H' _ ⟨_, _, _, _, _, _, _, _, e, _⟩ => .of e) ?_ ?_
    · rintro i x σ H' hx ⟨o5, o6, o7, ps, rs, rfl, o, hbg, hfa', r1, hsa', rr, hlen, hgood, ndp, hps⟩
      obtain ⟨p, hp, rfl⟩ : ∃ p, ps1[i]? = some p ∧ x = V.ref p := by
        rw [List.getElem?_map] at hx
        cases e : ps1[i]? with
        | none => rw [e] at hx; cases hx
        | some u => rw [e] at hx; exact ⟨u, rfl, (Option.some.inj hx).symm⟩
      have hpm := List.mem_of_getElem? hp
      obtain ⟨row, hrow, hrp⟩ := Paired.at1 r1 hp
      have hgr := hgood1 row (List.mem_of_getElem? hrow)
      have hi5 : i < 5 := by
        obtain ⟨z, _⟩ := List.getElem?_eq_some_iff.mp hp
        omega
      obtain ⟨vsp, hvp, rvp⟩ := id hrp
      refine ⟨Nat.zero_le _, fun ra hra => ?_⟩
      have s1 : Same H' (upd H' ra (.lst [])) := same_new hra
      have rab : ra ≠ b := hbg.ne hra
      have raf : ra ≠ fa := (ne_of_none hfa' hra).symm
      have ras : ra ≠ sa := (ne_of_none hsa' hra).symm
      have rap : ra ≠ p := (ne_of_none hvp hra).symm
      have trk : ∀ {qs : List Addr} {ws : Rows}, Paired (RowAt H') qs ws → ∀ q ∈ qs, q ≠ ra := by
        intro qs ws r q hq
        obtain ⟨j, hj⟩ := List.mem_iff_getElem?.mp hq
        obtain ⟨_, _, vs, e, _⟩ := Paired.at1 r hj
        exact ne_of_none e hra
      have t1 := trk r1
      have t2 := trk rr
      have raH : H ra = none := off_free o hra fun c hc => by
        rw [List.mem_singleton.mp hc]
        obtain ⟨A, B, e, _⟩ := hbg
        exact ⟨_, e⟩
      refine ⟨_, rfl, p, rfl, ⟨_, .of (s1 _ _ hvp)⟩, ?_⟩
      refine for_list (xs := vsp) (fun j σ H3 => ∃ (o7 : Option V) (vs : List V) (row2 : List Item), σ = [some (.ref b), some (.int 5), some (.ref fa), some (.int (n : Int)), some (.ref sa), some (.ref p), some (.ref ra), o7, none] ∧ Off [b] H H3 ∧ BagAt H3 b ∧ H3 fa = some (.lst (ps1.map V.ref)) ∧ Paired (RowAt H3) ps1 rows1 ∧
          H3 sa = some (.lst (ps.map V.ref)) ∧ Paired (RowAt H3) ps rs ∧ H3 ra = some (.lst vs) ∧ Paired (ItV H3) vs row2 ∧ row2.length = j ∧ (∀ a ∈ row2, GoodI (2 * n) a) ∧ H3 p = some (.lst vsp) ∧ Paired (ItV H3) vsp row)
        ⟨_, [], [], rfl, o.trans (Off.same s1), hbg.same s1, s1 _ _ hfa', Paired.mapP r1 fun _ _ z => z.same s1, s1 _ _ hsa', Paired.mapP rr fun _ _ z => z.same s1, upd_same, .nil, rfl, fun _ z => absurd z List.not_mem_nil, s1 _ _ hvp, Paired.mapP rvp fun _ _ z => z.same s1⟩
        (fun j σ H3 _ ⟨_, _, _, _, _, _, _, _, _, _, _, _, _, _, e, _⟩ => .of e) ?_ ?_
      · rintro j y σ H3 hy ⟨o7, vs, row2, rfl, o3, hb3, hfa3, r13, hsa3, rr3, hra3, rv, lrow, grow, hp3, rvp3⟩
        obtain ⟨it, hit, hyi⟩ := Paired.at1 rvp3 hy
        have hj3 : j < 3 := by
          obtain ⟨z, _⟩ := List.getElem?_eq_some_iff.mp hit
          have := hgr.1
          omega
        have hgi := hgr.2 it (List.mem_of_getElem? hit)
        refine ⟨fun σ H4 => ∃ (v : V) (it2 : Item), σ = [some (.ref b), some (.int 5), some (.ref fa), some (.int (n : Int)), some (.ref sa), some (.ref p), some (.ref ra), some v, none] ∧ Off [b] H3 H4 ∧ BagAt H4 b ∧ ItV H4 v it2 ∧ GoodI (2 * n) it2, ?_, ?_⟩
        · have gd2 : GoodI (2 * n) it := by
            cases it with
            | int i => exact True.intro
            | str x => exact hgi
            | box k => have : k < n := hgi; exact (show k < 2 * n by omega)
          have same := (⟨y, it, rfl, Off.refl, hb3, hyi, gd2⟩ : ∃ (v : V) (it2 : Item), [some (.ref b), some (.int 5), some (.ref fa), some (.int (n : Int)), some (.ref sa), some (.ref p), some (.ref ra), some y, none] = [some (.ref b), some (.int 5), some (.ref fa), some (.int (n : Int)), some (.ref sa), some (.ref p), some (.ref ra), some v, none] ∧ Off [b] H3 H3 ∧ BagAt H3 b ∧ ItV H3 v it2 ∧ GoodI (2 * n) it2)
          cases it with
          | int z => cases (show y = _ from hyi); exact ⟨_, rfl, _, _, _, _, false, rfl, .ty _, tyInt _ _, k_it, _, rfl, iteF (iteF same)⟩
          | str z => cases (show y = _ from hyi.1); exact ⟨_, rfl, _, _, _, _, false, rfl, .ty _, tyStr _ _, k_st, _, rfl, iteF (iteF same)⟩
          | box k =>
            have hkn : k < n := hgi
            obtain ⟨t, rfl, ht⟩ := hyi
            refine ⟨_, rfl, _, _, _, _, true, rfl, .ty _, tyTup ht, k_tt, _, rfl, iteT ?_⟩
            refine ⟨_, rfl, b, _, rfl, hb3, by decide, by decide, fun H4 r4 o4 hb4 _ _ => ⟨_, _, rfl, rfl, _, rfl, ?_⟩⟩
            have ht4 := o4 _ _ (fun z => hb3.nt _ z _ ht) ht
            refine ite2 (fun _ => ?_) (fun _ => ⟨_, .box k, rfl, o4, hb4, ⟨t, rfl, ht4⟩, gd2⟩)
            refine ⟨_, rfl, t, _, ((1 : Nat) : Int), .int (k : Int), rfl, rfl, .of ht4, rfl, _, rfl, _, _, rfl, rfl, two, fun t2 ht2 => ?_⟩
            refine ⟨_, .box (k + n), rfl, o4.trans (Off.new ht2), hb4.same (same_new ht2), ⟨t2, rfl, ?_⟩, (show k + n < 2 * n by omega)⟩
            rw [upd_same]
            rfl
        · rintro σ H4 ⟨v, it2, rfl, o4, hb4, hv, hg⟩
          have ra4 := o4 _ _ (by simpa using rab) hra3
          have oo : Off [ra] H4 (upd H4 ra (.lst (vs ++ [v]))) := Off.put (by simp)
          have nt4 := lst_nt ra4
          have bps1' : ∀ q ∈ ps1, q ∉ [b] := fun q hq => by simpa using (bps1 q hq).1
          have bps' : ∀ q ∈ ps, q ∉ [b] := fun q hq => by simpa using (hps q hq).1
          refine ⟨_, rfl, .inl ⟨rfl, _, .of ra4⟩, _, rfl, ra, vs, _, rfl, rfl, ra4, by rw [Paired.length rv, lrow]; exact Nat.lt_trans hj3 (by decide), ?_⟩
          refine ⟨_, vs ++ [v], row2 ++ [it2], rfl, off_new (o3.trans o4) raH, hb4.off oo (by simpa using rab.symm), oo _ _ (by simpa using raf.symm) (o4 _ _ (by simpa using fb) hfa3), Paired.mapMem r13 fun q rw' hq z => (z.off o4 (bps1' q hq) hb3.nt).off oo (by simpa using t1 q hq) nt4,
            oo _ _ (by simpa using ras.symm) (o4 _ _ (by simpa using sb) hsa3), Paired.mapMem rr3 fun q rw' hq z => (z.off o4 (bps' q hq) hb3.nt).off oo (by simpa using t2 q hq) nt4, upd_same, ?_, by rw [List.length_append, lrow]; rfl, fun a ha => ?_, oo _ _ (by simpa using rap.symm) (o4 _ _ (bps1' p hpm) hp3), items_off oo nt4 (items_off o4 hb3.nt rvp3)⟩
          · exact Paired.app (items_off oo nt4 (items_off o4 hb3.nt rv)) (items_off oo nt4 (Paired.cons hv Paired.nil))
          · rcases List.mem_append.mp ha with z | z
            · exact grow a z
            · rw [List.mem_singleton.mp z]; exact hg
      · rintro σ H3 ⟨o7, vs, row2, rfl, o3, hb3, hfa3, r13, hsa3, rr3, hra3, rv, lrow, grow, hp3, rvp3⟩
        have lvp : vsp.length = row.length := Paired.length rvp3
        have oo : Off [sa] H3 (upd H3 sa (.lst (ps.map V.ref ++ [V.ref ra]))) := Off.put (by simp)
        have nts := lst_nt hsa3
        refine ⟨_, rfl, .inl ⟨rfl, _, .of hsa3⟩, _, rfl, sa, _, _, rfl, rfl, hsa3, by rw [List.length_map, Paired.length rr, hlen]; exact Nat.lt_trans hi5 (by decide), ?_⟩
        refine ⟨_, _, _, ps ++ [ra], rs ++ [row2], rfl, off_new o3 saH, hb3.off oo (by simpa using sb.symm), oo _ _ (by simpa using sf.symm) hfa3, Paired.mapMem r13 fun q rw' hq z => z.off oo (by simpa using sps1 q hq) nts, by rw [upd_same]; simp,
          Paired.app (Paired.mapMem rr3 fun q rw' hq z => z.off oo (by simpa using (hps q hq).2.2.1) nts) (.cons ⟨vs, oo _ _ (by simpa using ras) hra3, items_off oo nts rv⟩ .nil), by rw [List.length_append, hlen]; rfl, fun rw' hrw => ?_, ?_, fun q hq => ?_⟩
        · rcases List.mem_append.mp hrw with z | z
          · exact hgood rw' z
          · rw [List.mem_singleton.mp z]
            exact ⟨by rw [lrow, lvp]; exact hgr.1, grow⟩
        · rw [List.nodup_append]
          exact ⟨ndp, List.nodup_cons.mpr ⟨List.not_mem_nil, List.nodup_nil⟩, fun x hx y hy e => t2 x hx (by rw [e]; exact List.mem_singleton.mp hy)⟩
        · rcases List.mem_append.mp hq with z | z
          · exact hps q z
          · rw [List.mem_singleton.mp z]
            exact ⟨rab, raf, ras, fun hm => t1 ra hm rfl, raH⟩
    · rintro σ H' ⟨o5, o6, o7, ps, rs, rfl, o, hbg, hfa', r1, hsa', rr, hlen, hgood, ndp, hps⟩
      rw [List.length_map, l1] at hlen
      have lps : ps.length = n := by rw [Paired.length rr]; exact hlen
      refine ⟨_, rfl, _, rfl, _, rfl, b, _, rfl, hbg, by omega, by omega, fun H2 r o2 hb2 r0 rn => ?_⟩
      obtain ⟨m, rfl⟩ : ∃ m : Nat, r = (m : Int) := ⟨r.toNat, by omega⟩
      have hm : m < ps.length := by omega
      obtain ⟨p, hp⟩ : ∃ p, ps[m]? = some p := ⟨_, List.getElem?_eq_getElem hm⟩
      have hpm := List.mem_of_getElem? hp
      have bps1' : ∀ q ∈ ps1, q ∉ [b] := fun q hq => by simpa using (bps1 q hq).1
      have bps' : ∀ q ∈ ps, q ∉ [b] := fun q hq => by simpa using (hps q hq).1
      have hfa2 := o2 _ _ (by simpa using fb) hfa'
      have hsa2 := o2 _ _ (by simpa using sb) hsa'
      have r12 : Paired (RowAt H2) ps1 rows1 := Paired.mapMem r1 fun q rw' hq z => z.off o2 (bps1' q hq) hbg.nt
      have rr2 : Paired (RowAt H2) ps rs := Paired.mapMem rr fun q rw' hq z => z.off o2 (bps' q hq) hbg.nt
      obtain ⟨row, hrow, vs, hvs, rv⟩ := Paired.at1 rr2 hp
      have hgr := hgood row (List.mem_of_getElem? hrow)
      have lvs : vs.length = row.length := Paired.length rv
      refine ⟨sa, ps.map V.ref, _, .ref p, rfl, rfl, .of hsa2, atI_nat (by rw [List.getElem?_map, hp]; rfl), ?_⟩
      -- whether a leaf is put in
      refine ⟨fun σ H3 => ∃ rs3 : Rows, σ = [some (.ref b), some (.int 5), some (.ref fa), some (.int (n : Int)), some (.ref sa), o5, o6, o7, some (.ref p)] ∧ Off [b] H H3 ∧ BagAt H3 b ∧ H3 fa = some (.lst (ps1.map V.ref)) ∧ Paired (RowAt H3) ps1 rows1 ∧ H3 sa = some (.lst (ps.map V.ref)) ∧ Paired (RowAt H3) ps rs3 ∧ rs3.length = n ∧ ∀ row ∈ rs3, GoodRow (2 * n) row, ?_, ?_⟩
      · refine ⟨_, rfl, Nat.zero_le _, fun e he => ?_⟩
        have s3 : Same H2 (upd H2 e (.lst [])) := same_new he
        refine ⟨_, _, row_dp ⟨vs, s3 _ _ hvs, Paired.mapP rv fun _ _ z => z.same s3⟩, .lst (.of upd_same) .nil, toDs_shaped rv, toDs_shaped (H := H2) (vs := []) (xs := []) .nil, _, rfl, ?_⟩
        have keep : ∃ rs3 : Rows, [some (.ref b), some (.int 5), some (.ref fa), some (.int (n : Int)), some (.ref sa), o5, o6, o7, some (.ref p)] = [some (.ref b), some (.int 5), some (.ref fa), some (.int (n : Int)), some (.ref sa), o5, o6, o7, some (.ref p)] ∧ Off [b] H (upd H2 e (.lst [])) ∧ BagAt (upd H2 e (.lst [])) b ∧ upd H2 e (.lst []) fa = some (.lst (ps1.map V.ref)) ∧ Paired (RowAt (upd H2 e (.lst []))) ps1 rows1 ∧ upd H2 e (.lst []) sa = some (.lst (ps.map V.ref)) ∧ Paired (RowAt (upd H2 e (.lst []))) ps rs3 ∧ rs3.length = n ∧ ∀ row ∈ rs3, GoodRow (2 * n) row :=
          ⟨rs, rfl, (o.trans o2).trans (Off.same s3), hb2.same s3, s3 _ _ hfa2, Paired.mapP r12 fun _ _ z => z.same s3, s3 _ _ hsa2, Paired.mapP rr2 fun _ _ z => z.same s3, hlen, hgood⟩
        rw [show PyData.eqv (.list (row.map toD)) (.list ([] : List PyData)) = decide (row = []) from toD_list row []]
        by_cases hz : row = []
        · rw [decide_eq_true hz]
          exact iteF (iteF keep)
        · rw [decide_eq_false hz]
          refine iteT ?_
          have hb3 := hb2.same s3
          refine ⟨_, rfl, b, _, rfl, hb3, by decide, by decide, fun H4 r4 o4 hb4 _ _ => ⟨rfl, _, rfl, ?_⟩⟩
          have hfa4 := o4 _ _ (by simpa using fb) (s3 _ _ hfa2)
          have hsa4 := o4 _ _ (by simpa using sb) (s3 _ _ hsa2)
          have r14 : Paired (RowAt H4) ps1 rows1 := Paired.mapMem r12 fun q rw' hq z => (z.same s3).off o4 (bps1' q hq) hb3.nt
          have rr4 : Paired (RowAt H4) ps rs := Paired.mapMem rr2 fun q rw' hq z => (z.same s3).off o4 (bps' q hq) hb3.nt
          have o04 : Off [b] H H4 := ((o.trans o2).trans (Off.same s3)).trans o4
          refine ite2 (fun _ => ?_) (fun _ => ⟨rs, rfl, o04, hb4, hfa4, r14, hsa4, rr4, hlen, hgood⟩)
          have hv4 := o4 _ _ (bps' p hpm) (s3 _ _ hvs)
          have rv4 : Paired (ItV H4) vs row := items_off o4 hb3.nt (Paired.mapP rv fun _ _ z => z.same s3)
          refine ⟨_, rfl, b, rfl, hb4, fun H5 v o5' hb5 ⟨it, hit, hgi⟩ => ?_⟩
          have hv5 := o5' _ _ (bps' p hpm) hv4
          have lpos : 0 < vs.length := by rw [lvs]; exact List.length_pos_iff.mpr hz
          have lv3 : vs.length ≤ 3 := by rw [lvs]; exact hgr.1
          refine ⟨_, rfl, _, rfl, _, rfl, p, vs, rfl, .inl (.of hv5), b, _, rfl, hb5, by omega, by omega, fun H6 r6 o6' hb6 r60 r61 => ?_⟩
          obtain ⟨j, rfl⟩ : ∃ j : Nat, r6 = (j : Int) := ⟨r6.toNat, by omega⟩
          have hv6 := o6' _ _ (bps' p hpm) hv5
          have rv6 : Paired (ItV H6) vs row := items_off o6' hb5.nt (items_off o5' hb4.nt rv4)
          refine ⟨p, vs, _, j, rfl, rfl, hv6, ?_, ?_⟩
          · unfold ixN
            rw [if_pos (by omega), if_pos (by omega)]
            rfl
          · have oo : Off [p] H6 (upd H6 p (.lst (vs.set j v))) := Off.put (by simp)
            have nt6 := lst_nt hv6
            have o46 : Off [b] H4 H6 := o5'.trans o6'
            refine ⟨rs.set m (row.set j it), rfl, ?_, hb6.off oo (by simpa using (hps p hpm).1.symm), oo _ _ (by simpa using (hps p hpm).2.1.symm) (o46 _ _ (by simpa using fb) hfa4), Paired.mapMem r14 fun q rw' hq z => ((z.off o5' (bps1' q hq) hb4.nt).off o6' (bps1' q hq) hb5.nt).off oo (fun z => (hps p hpm).2.2.2.1 (by rw [← List.mem_singleton.mp z]; exact hq)) nt6,
              oo _ _ (by simpa using (hps p hpm).2.2.1.symm) (o46 _ _ (by simpa using sb) hsa4), ?_, by rw [List.length_set]; exact hlen, fun rw' hrw => ?_⟩
            · refine off_in (o04.trans o46) oo fun c hc => .inr ?_
              rw [List.mem_singleton.mp hc]
              exact (hps p hpm).2.2.2.2
            · refine Paired.setAt (F := fun q rw' => q ∉ [b] ∧ RowAt H4 q rw') (Paired.mapMem rr4 fun q rw' hq z => ⟨bps' q hq, z⟩) hp ndp (fun q rw' hne ⟨hqb, z⟩ => ((z.off o5' hqb hb4.nt).off o6' hqb hb5.nt).off oo (by simpa using hne) nt6) ⟨_, upd_same, ?_⟩
              exact items_off oo nt6 (Paired.set j rv6 (hit H6))
            · rcases List.mem_or_eq_of_mem_set hrw with z | z
              · exact hgood rw' z
              · rw [z]
                refine ⟨by rw [List.length_set]; exact hgr.1, fun a ha => ?_⟩
                rcases List.mem_or_eq_of_mem_set ha with z | z
                · exact hgr.2 a z
                · rw [z]; exact hgi _
      · rintro σ H3 ⟨rs3, rfl, o3, hb3, hfa3, r13, hsa3, rr3, hlen3, hgood3⟩
        refine ⟨_, rfl, _, rfl, fa, sa, _, _, rfl, rfl, hfa3, hsa3, by rw [List.length_map, List.length_map, l1, lps]; exact Nat.le_trans (show n + n ≤ 100 by omega) (by decide), fun a ha => ?_⟩
        have s4 : Same H3 (upd H3 a (.lst (ps1.map V.ref ++ ps.map V.ref))) := same_new ha
        have lrows : (rows1 ++ rs3).length = 2 * n := by rw [List.length_append, hn, hlen3]; omega
        refine q _ a (rows1 ++ rs3) (o3.trans (Off.same s4)) (hb3.same s4) (tab_cut (ps := ps1 ++ ps) (by rw [upd_same]; simp) (by simpa using hb3.ne ha) (fun q hq => ?_) (hb3.same s4).nt (Paired.app (Paired.mapP r13 fun _ _ z => z.same s4) (Paired.mapP rr3 fun _ _ z => z.same s4))) ⟨fun row hr a ha => ?_, by omega, fun row hr => ?_⟩ (by omega)
        · rcases List.mem_append.mp hq with z | z
          · exact bps1' q z
          · exact bps' q z
        · rw [lrows]
          rcases List.mem_append.mp hr with z | z
          · exact ((hgood1 row z).mono (by omega)).2 a ha
          · exact (hgood3 row z).2 a ha
        · rcases List.mem_append.mp hr with z | z
          · exact (hgood1 row z).1
          · exact (hgood3 row z).1
end
end Rg
end
section
set_option Elab.async false
set_option linter.all false
set_option maxRecDepth 100000
set_option maxHeartbeats 4000000
/-! The law's heap, what it shows, its course. -/
namespace Rg
open PySem PySem.Spec PyProof.Rows L2
section
variable {P : Program} {w : World} {K : PySem.W.Frag} {mg : Str → Option Value} {base : Heap}
theorem HeapNew.under {C : Addr} {H0 H H' : Hp} {h : Addr} {rows : Rows} (x : HeapNew C H H' h rows) (s : Same H0 H) : HeapNew C H0 H' h rows := by
  obtain ⟨dx, l, ps, a, b, c⟩ := x
  exact ⟨dx, l, ps, a, b, Paired.mapP c fun _ _ z => ⟨z.1, s.free z.2.1, z.2.2⟩⟩
def sp_Lheap (C : Addr) : Sp := fun vs H Q _ => ∃ (a : Addr) (rows : Rows), vs = [.ref a] ∧ TabAt H a rows ∧ Fit rows ∧ ∀ H' h, Same H H' → HeapNew C H H' h rows → Q (.ref h) H'
theorem r_Lheap (T : Tx K mg) : FnR P w K mg base CX0 8 (He.ga K "_law_heap") (sp_Lheap (CH K)) := by
  obtain ⟨pa, g, hcm, hF⟩ := T.cm_of
  refine fnr T.F_Lheap c_Lheap (fun vs H Q E h => ?_) (fun _ _ _ _ _ _ us hl => match us, hl with | [_], _ => rfl) (fun cdv A outer s H vs Q E hr h => ?_)
  · obtain ⟨a, rows, rfl, _⟩ := h; rfl
  · obtain ⟨a, rows, rfl, ⟨ps, hl, r⟩, fit, q⟩ := h
    have nd := c_Lheap.nd
    refine ⟨_, pss_one (ps_ret (ClX.pe_cmeth (pe_glob (v := .ref (CH K)) (by rfl) T.g_Heap rfl) T.rd_Heap hcm (r_H_of T hF) hr pass0 (pa_cons (pe_lc (own := [("_law_row", 1)]) (g := gName 1) (tt := tYes) (te := tCB (rListOf K) (tCons (tVar 1) tNil)) rfl nd (pi_list (pv 0)) (blkOk_by (N := n_Lheap) (sc := defScope s_Lheap) (by decide +kernel))
      (fun _ _ _ _ _ => pg_name (i := 1) nd rfl (.inl rfl)) (fun _ _ _ _ _ => pts_nil) (fun _ _ _ _ _ => pe_callTy call_listK (by rfl) T.z_list boot_list (pa_cons (pv 1) pa_nil))) pa_nil))), ?_⟩
    refine ⟨rfl, _, rfl, a, rfl, ⟨_, .of hl⟩, fun D hD => ?_⟩
    refine lc_list (xs := ps.map V.ref) (fun i H' => ∃ qs : List Addr, H' D = some (.lst (qs.map V.ref)) ∧ Same H H' ∧ NewRows H D H' qs (rows.take i)) ⟨[], upd_same, same_new hD, by rw [List.take_zero]; exact .nil⟩
      (fun i H' _ ⟨_, _, s, _⟩ => .of (s _ _ hl)) ?_ ?_
    · rintro i x H' hx ⟨qs, e, s, nr⟩
      obtain ⟨p, hp, rfl⟩ : ∃ p, ps[i]? = some p ∧ x = V.ref p := by
        rw [List.getElem?_map] at hx
        cases e : ps[i]? with
        | none => rw [e] at hx; cases hx
        | some u => rw [e] at hx; exact ⟨u, rfl, (Option.some.inj hx).symm⟩
      obtain ⟨row, hrow, vs, hvs, rv⟩ := Paired.at1 r hp
      refine ⟨rfl, yesT ⟨_, rfl, p, vs, rfl, .inl (.of (s _ _ hvs)), fun q2 hq2 => ?_⟩⟩
      have Dq : D ≠ q2 := ne_of_none e hq2
      refine ⟨qs.map V.ref, by rw [upd_ne Dq]; exact e, ?_, qs ++ [q2], by rw [upd_same]; simp, same_put (s.trans (same_new hq2)) hD, ?_⟩
      · rw [List.length_map, Paired.length nr]
        exact Nat.lt_of_le_of_lt (Nat.le_trans (List.length_take_le' _ _) fit.ten) (by decide)
      · have et : rows.take (i + 1) = rows.take i ++ [row] := by rw [List.take_add_one, hrow]; rfl
        rw [et]
        exact nr.step s hD e hq2 rv
    · rintro H' ⟨qs, e, s, nr⟩
      rw [List.length_map, Paired.length r, List.take_of_length_le (Nat.le_refl _)] at nr
      exact ⟨D, rows, rfl, ⟨qs, e, Paired.mapP nr fun _ _ z => z.2.2⟩, fit, fun H2 h s2 hn => q H2 h (s.trans s2) (hn.under s)⟩
/-- what is shown of an outcome -/
noncomputable def shV (wd : Str) (st dp num : V) : List V := [.str wd, st, dp, num, .bl (!decide (wd = "endless"))]
def ShOk (wd : Str) (st dp num : V) : Prop := (shV wd st dp num).all flatS = true ∧ (tupleText ((shV wd st dp num).map repV)).length ≤ sizeLine
def sp_Lshown (COa : Addr) : Sp := fun vs H Q _ => ∃ (o dx v cs : Addr) (wd : Str) (num st dp : V), vs = [.ref o] ∧ H o = some (.ins COa dx (ofl wd num v cs st dp)) ∧ ShOk wd st dp num ∧ ∀ (S : Str) H', S = tupleText ((shV wd st dp num).map repV) → Same H H' → Q (.str S) H'
theorem r_Lshown (T : Tx K mg) : FnG P w K mg base 3 (He.ga K "_law_shown") (sp_Lshown (CO K)) := by
  obtain ⟨qa, ga, hpr, hF⟩ := T.pr_ends
  refine fng T.F_Lshown c_Lshown (fun vs H Q E h => ?_) (fun _ _ _ _ _ _ us hl => match us, hl with | [_], _ => rfl) (fun cdv A outer s H vs Q hgd hr h => ?_)
  · obtain ⟨o, dx, v, cs, wd, num, st, dp, rfl, _⟩ := h; rfl
  · obtain ⟨o, dx, v, cs, wd, num, st, dp, rfl, ho, ⟨ok1, ok2⟩, q⟩ := h
    have nd := c_Lshown.nd
    refine ⟨_, pss_one (ps_ret (pe_callB (call_reprT hgd (u64 hr)) (by rfl) T.z_repr boot_repr (pa_cons (pe_tup (pa_cons (pe_fld (pv 0) rfl) (pa_cons (pe_fld (pv 0) rfl) (pa_cons (pe_fld (pv 0) rfl) (pa_cons (pe_fld (pv 0) rfl) (pa_cons (pe_pr (pv 0) T.c_Outcome hpr (r_ends T hF) hr) pa_nil)))))) pa_nil))), ?_⟩
    refine ⟨_, rfl, o, _, dx, _, _, rfl, ho, T.c_Outcome, T.n_Outcome_word, ofl_word _ _ _ _ _ _, _, rfl, o, _, dx, _, _, rfl, ho, T.c_Outcome, T.n_Outcome_steps, ofl_steps _ _ _ _ _ _, _, rfl, o, _, dx, _, _, rfl, ho, T.c_Outcome, T.n_Outcome_depth, ofl_depth _ _ _ _ _ _,
      _, rfl, o, _, dx, _, _, rfl, ho, T.c_Outcome, T.n_Outcome_number, ofl_number _ _ _ _ _ _, _, rfl, o, dx, _, rfl, ho, o, dx, v, cs, wd, num, st, dp, rfl, ho, by show 5 ≤ sizeLine; decide, fun t ht => ?_⟩
    exact ⟨t, shV wd st dp num, rfl, .of upd_same, ok1, ok2, q _ _ rfl (same_new ht)⟩
def sp_Ltold : Sp := fun vs H Q _ => ∃ (wd : Str) (num st dp : V), vs = [.str wd, st, dp, num] ∧ ShOk wd st dp num ∧ ∀ (S : Str) H', S = tupleText ((shV wd st dp num).map repV) → Same H H' → Q (.str S) H'
theorem r_Ltold (T : Tx K mg) : FnG P w K mg base 3 (He.ga K "_law_told") sp_Ltold := by
  refine fng T.F_Ltold c_Ltold (fun vs H Q E h => ?_) (fun _ _ _ _ _ _ us hl => match us, hl with | [_, _, _, _], _ => rfl) (fun cdv A outer s H vs Q hgd hr h => ?_)
  · obtain ⟨wd, num, st, dp, rfl, _⟩ := h; rfl
  · obtain ⟨wd, num, st, dp, rfl, ⟨ok1, ok2⟩, q⟩ := h
    have nd := c_Ltold.nd
    refine ⟨_, pss_one (ps_ret (pe_callB (call_reprT hgd (u64 hr)) (by rfl) T.z_repr boot_repr (pa_cons (pe_tup (pa_cons (pv 0) (pa_cons (pv 1) (pa_cons (pv 2) (pa_cons (pv 3) (pa_cons (pe_cmpR op_ne (pv 0) pe_str (nomark _)) pa_nil)))))) pa_nil))), ?_⟩
    refine ⟨_, rfl, _, rfl, _, rfl, _, rfl, _, rfl, rfl, by show 5 ≤ sizeLine; decide, fun t ht => ?_⟩
    rw [endless_str]
    exact ⟨t, shV wd st dp num, rfl, .of upd_same, ok1, ok2, q _ _ rfl (same_new ht)⟩
end
end Rg
end
section
set_option Elab.async false
set_option linter.all false
set_option maxRecDepth 100000
set_option maxHeartbeats 4000000
/-! The law's course. -/
namespace Rg
open PySem PySem.Spec PyProof.Rows L2
section
variable {P : Program} {w : World} {K : PySem.W.Frag} {mg : Str → Option Value} {base : Heap}
/-- the outcomes of equality, one a pair -/
def OutsAt (CVa COa : Addr) (H : Hp) (rows : Rows) (os : List Addr) (qs : List Pr) : Prop := Paired (fun o p => OutAt CVa COa H o (wst (vd rows p).wd) .non rows [p]) os qs
theorem OutsAt.same {CVa COa : Addr} {H H' : Hp} (s : Same H H') {rows : Rows} {os : List Addr} {qs : List Pr} (h : OutsAt CVa COa H rows os qs) : OutsAt CVa COa H' rows os qs := Paired.mapP h fun _ _ z => z.same s
def sp_Lcourse (CVa COa CHa : Addr) : Sp := fun vs H Q _ => ∃ (h : Addr) (zk zs : Int) (k sn m : Nat) (x : V) (rows : Rows), vs = [.ref h, .int zk, x, .int zs] ∧ zk = (k : Int) ∧ zs = (sn : Int) ∧ HeapAt CHa H h rows ∧ Fit rows ∧ k < rows.length ∧ ItV H x (.box m) ∧ m < rows.length ∧ sn ≤ (rowOf rows k).length ∧
  ∀ H' t a os, Same H H' → H' t = some (.tup [.ref a, frN (fnd rows (.box m) ((rowOf rows k).drop sn) sn []).2]) → H' a = some (.lst (os.map V.ref)) → OutsAt CVa COa H' rows os (fnd rows (.box m) ((rowOf rows k).drop sn) sn []).1 → Q (.ref t) H'
theorem r_Lcourse (T : Tx K mg) : FnR P w K mg base CX0 10 (He.ga K "_law_course") (sp_Lcourse (CV K) (CO K) (CH K)) := by
  refine fnr T.F_Lcourse c_Lcourse (fun vs H Q E h => ?_) (fun _ _ _ _ _ _ us hl => match us, hl with | [_, _, _, _], _ => rfl) (fun cdv A outer s H vs Q E hr h => ?_)
  · obtain ⟨h, zk, zs, k, sn, m, x, rows, rfl, _⟩ := h; rfl
  · obtain ⟨h, zk, zs, k, sn, m, x, rows, rfl, rfl, rfl, hA, fit, hk, hx, hm, hsn, q⟩ := h
    have nd := c_Lcourse.nd
    refine ⟨_, pss_cons (ps_set (i := 4) nd rfl (.inl rfl) (pe_lst pa_nil))
      (pss_cons (ps_for PassesOwn.never rfl (pi_range2 (by rfl) T.z_range (pa_cons (pv 3) (pa_cons (pe_callB call_len_seq (by rfl) T.z_len boot_len (pa_cons (pe_mt (pv 0) T.c_Heap T.m_Heap_look (r_look T) (hr.mono (by decide)) (pa_cons (pv 1) pa_nil)) pa_nil)) pa_nil))) (pg_name (i := 5) nd rfl (.inl rfl))
        (pss_cons (ps_set (i := 6) nd rfl (.inl rfl) (pe_ix ix_list (pe_mt (pv 0) T.c_Heap T.m_Heap_look (r_look T) (hr.mono (by decide)) (pa_cons (pv 1) pa_nil)) (pv 5) (fun _ _ => rfl)))
        (pss_mid (ps_set (i := 7) nd rfl (.inl rfl) (pe_ifExp (pt_cmpR (op_eqD (u64 hr)) (pv 6) (pv 2) (nomark _)) pe_str pe_str))
        (pss_mid (ps_if (PW.pt (pw_and (pt_cmpR (op_neD (u64 hr)) (pv 6) (pv 2) (nomark _)) (pw_and1 (pt_val (pe_callB call_isi (by rfl) T.z_isinstance boot_isinstance (pa_cons (pv 6) (pa_cons (pe_bltn (v := .ty "tuple") (by rfl) T.z_tuple boot_tuple rfl) pa_nil)))))))
          (pss_cons (ps_expr (pe_bm PySem.F.plainAttrs_list PySem.F.slot_list_append PySem.F.type_list_append mt_append (pv 4) (pa_cons (pe_fn (r_equality T) hr (by rfl) T.g_equality (kpq T.F_equality) (pa_cons (pv 0) (pa_cons (pe_ix ix_tup (pv 6) pe_int (fun _ _ => rfl)) (pa_cons (pe_ix ix_tup (pv 2) pe_int (fun _ _ => rfl)) pa_nil)))) pa_nil)))
          (pss_one (ps_set (i := 7) nd rfl (.inl rfl) (pe_fld (pe_ix ix_list (pv 4) (pe_un un_neg pe_int) (fun _ _ => rfl)) rfl)))) pss_nil)
        (pss_one (ps_if (pt_cmpR op_in_seq (pv 7) (pe_tup (pa_cons pe_str (pa_cons pe_str pa_nil))) (by with_unfolding_all rfl))
          (pss_one (ps_ret (pe_tup (pa_cons (pv 4) (pa_cons (pe_ifExp (pt_cmpR op_eq (pv 7) pe_str (nomark _)) (pv 5) pe_non) pa_nil))))) pss_nil))))))
      (pss_one (ps_ret (pe_tup (pa_cons (pv 4) (pa_cons pe_non pa_nil)))))), ?_⟩
    generalize hFd : fnd rows (.box m) ((rowOf rows k).drop sn) sn [] = F at q
    obtain ⟨dx, l0, hh, ps, hl, rps⟩ := id hA
    obtain ⟨pr, hpr, vs0, hvs0, rv0⟩ := row_at rps hk
    have hps : ps[k]? = some pr := by
      rw [List.getElem?_map] at hpr
      cases e : ps[k]? with
      | none => rw [e] at hpr; cases hpr
      | some u => rw [e] at hpr; cases hpr; rfl
    have lv0 : vs0.length = (rowOf rows k).length := Paired.length rv0
    have l3 : (rowOf rows k).length ≤ 3 := fit.three _ (List.mem_of_getElem? (rowOf_at hk))
    have two : (2 : Nat) ≤ sizeLine := by decide
    refine ⟨Nat.zero_le _, fun a ha => ?_⟩
    have s1 : Same H (upd H a (.lst [])) := same_new ha
    refine ⟨_, rfl, _, rfl, h, dx, _, rfl, s1 _ _ hh, rfl, _, rfl, h, _, k, dx, l0, pr, ps, vs0, rfl, rfl, s1 _ _ hh, s1 _ _ hl, hps, s1 _ _ hvs0, fun e1 he1 => ⟨e1, vs0, rfl, .inl (.of upd_same), _, _, rfl, ⟨by omega, by omega, by omega, by omega⟩, ?_⟩⟩
    have s2 := s1.trans (same_new (o := .lst vs0) he1)
    have ae1 : a ≠ e1 := fun z => by rw [← z, upd_same] at he1; cases he1
    have ret : ∀ (H4 : Hp) (f : Fr) (os : List Addr) (acc : List Pr), F = (acc, f) → Same H H4 → H4 a = some (.lst (os.map V.ref)) → OutsAt (CV K) (CO K) (cut [a] H4) rows os acc → ∀ t, H4 t = none → Q (.ref t) (upd H4 t (.tup [.ref a, frN f])) :=
      fun H4 f os acc hF s4 e4 ho t ht => q _ t a os (s4.trans (same_new ht)) (by rw [hF]; exact upd_same) ((same_new ht) _ _ e4) (by rw [hF]; exact (ho.same cut_same).same (same_new ht))
    refine for_range (fun j σ H' => ∃ (o5 o6 o7 : Option V) (os : List Addr) (acc : List Pr), σ = [some (.ref h), some (.int (k : Int)), some x, some (.int (sn : Int)), some (.ref a), o5, o6, o7] ∧ Same H H' ∧ H' a = some (.lst (os.map V.ref)) ∧ OutsAt (CV K) (CO K) (cut [a] H') rows os acc ∧ acc.length ≤ j ∧ F = fnd rows (.box m) ((rowOf rows k).drop (sn + j)) (sn + j) acc)
      ⟨_, _, _, [], [], rfl, s2, by rw [upd_ne ae1]; exact upd_same, .nil, Nat.le_refl _, hFd.symm⟩ ?_ ?_
    · rintro j σ H' hj ⟨o5, o6, o7, os, acc, rfl, sH, ea, hos, hlen, hF⟩
      have hlt : sn + j < (rowOf rows k).length := by omega
      have ij : ((sn : Int) + (j : Nat)) = ((sn + j : Nat) : Int) := by omega
      obtain ⟨it, hit⟩ : ∃ it, (rowOf rows k)[sn + j]? = some it := ⟨_, List.getElem?_eq_getElem hlt⟩
      obtain ⟨y, ey, hyi⟩ := Paired.at_ rv0 hit
      have edrop : (rowOf rows k).drop (sn + j) = it :: (rowOf rows k).drop (sn + j + 1) := by
        obtain ⟨l1, e1⟩ := List.getElem?_eq_some_iff.mp hit
        rw [List.drop_eq_getElem_cons l1, e1]
      rw [edrop] at hF
      have hgi : GoodI rows.length it := fit.good _ (List.mem_of_getElem? (rowOf_at hk)) it (List.mem_of_getElem? hit)
      refine ⟨_, rfl, h, dx, _, rfl, sH _ _ hh, rfl, _, rfl, h, _, k, dx, l0, pr, ps, vs0, rfl, rfl, sH _ _ hh, sH _ _ hl, hps, sH _ _ hvs0, fun e2 he2 => ⟨_, rfl, e2, vs0, _, y, rfl, rfl, .of upd_same, at_of ij ey, ?_⟩⟩
      have s3 : Same H' (upd H' e2 (.lst vs0)) := same_new he2
      have sH3 := sH.trans s3
      generalize hH3 : upd H' e2 (.lst vs0) = H3 at *
      have ea3 := s3 _ _ ea
      have hos3 : OutsAt (CV K) (CO K) (cut [a] H3) rows os acc := hos.same (same_cuts s3)
      have hy3 := hyi.same sH3
      have hx3 := hx.same sH3
      refine ⟨fun σ H4 => ∃ w0 : Str, σ = [some (.ref h), some (.int (k : Int)), some x, some (.int (sn : Int)), some (.ref a), some (.int ((sn : Int) + (j : Nat))), some y, some (.str w0)] ∧ H4 = H3 ∧ (w0 = "equal" ∧ it = .box m ∨ w0 = "unlike" ∧ it ≠ .box m), ?_, ?_⟩
      · refine ⟨_, rfl, _, rfl, _, _, hy3.dp, hx3.dp, toD_shaped hy3, toD_shaped hx3, _, rfl, ?_⟩
        rw [toD_eqv]
        by_cases e : it = .box m
        · rw [decide_eq_true e]
          exact iteT ⟨_, rfl, rfl, .inl ⟨rfl, e⟩⟩
        · rw [decide_eq_false e]
          exact iteF ⟨_, rfl, rfl, .inr ⟨rfl, e⟩⟩
      rintro σ H4 ⟨w0, rfl, rfl, hw0⟩
      refine ⟨fun σ H5 => ∃ (wd : Str) (os' : List Addr) (acc' : List Pr), σ = [some (.ref h), some (.int (k : Int)), some x, some (.int (sn : Int)), some (.ref a), some (.int ((sn : Int) + (j : Nat))), some y, some (.str wd)] ∧ Same H H5 ∧ H5 a = some (.lst (os'.map V.ref)) ∧ OutsAt (CV K) (CO K) (cut [a] H5) rows os' acc' ∧ acc'.length ≤ j + 1 ∧
        ((wd = "equal" ∧ F = (acc', .found (sn + j))) ∨ (wd = "endless" ∧ F = (acc', .endless)) ∨ (wd = "unlike" ∧ F = fnd rows (.box m) ((rowOf rows k).drop (sn + j + 1)) (sn + j + 1) acc')), ?_, ?_⟩
      · refine ⟨_, rfl, _, rfl, _, _, hy3.dp, hx3.dp, toD_shaped hy3, toD_shaped hx3, _, rfl, ?_⟩
        rw [toD_eqv]
        rcases hw0 with ⟨rfl, e⟩ | ⟨rfl, e⟩
        · rw [decide_eq_true e]
          exact iteF (iteF ⟨_, os, acc, rfl, sH3, ea3, hos3, by omega, .inl ⟨rfl, by rw [hF, fnd_none_eq (by rw [e]; exact pairOf_self _) e]⟩⟩)
        · rw [decide_eq_false e]
          refine iteT ?_
          cases it with
          | int z =>
            cases (show y = _ from hy3)
            refine ⟨_, rfl, _, _, _, _, false, rfl, .ty _, tyInt _ _, k_it, _, rfl, iteF ⟨_, os, acc, rfl, sH3, ea3, hos3, by omega, .inr (.inr ⟨rfl, ?_⟩)⟩⟩
            rw [hF, fnd_none_ne (by unfold pairOf; rw [if_neg e]) e]
          | str z =>
            cases (show y = _ from hy3.1)
            refine ⟨_, rfl, _, _, _, _, false, rfl, .ty _, tyStr _ _, k_st, _, rfl, iteF ⟨_, os, acc, rfl, sH3, ea3, hos3, by omega, .inr (.inr ⟨rfl, ?_⟩)⟩⟩
            rw [hF, fnd_none_ne (by unfold pairOf; rw [if_neg e]) e]
          | box i =>
            obtain ⟨ty, rfl, hty⟩ := hy3
            obtain ⟨tx, rfl, htx⟩ := hx3
            have hpo : pairOf (.box i) (.box m) = some (i, m) := pairOf_box (fun z => e (by rw [z]))
            refine ⟨_, rfl, _, _, _, _, true, rfl, .ty _, tyTup hty, k_tt, _, rfl, iteT ?_⟩
            refine ⟨_, rfl, .inl ⟨rfl, _, .of ea3⟩, _, rfl, _, rfl, ty, _, ((1 : Nat) : Int), .int (i : Int), rfl, rfl, .of hty, rfl, _, rfl, tx, _, ((1 : Nat) : Int), .int (m : Int), rfl, rfl, .of htx, rfl, [a], h, _, _, i, m, rows, rfl, fun c hc => ⟨os.map V.ref, by rw [List.mem_singleton.mp hc]; exact ea3⟩, rfl, rfl, hA.same sH3, fit, hgi, hm, fun H5 o s5 hO => ?_⟩
            have ea5 := s5 _ _ ea3
            have los : os.length ≤ 3 := by rw [Paired.length hos3]; omega
            refine ⟨a, os.map V.ref, _, rfl, rfl, ea5, by rw [List.length_map]; exact Nat.lt_of_le_of_lt los (by decide), ?_⟩
            have sc : Same (cut [a] H5) (cut [a] (upd H5 a (.lst (os.map V.ref ++ [V.ref o])))) := fun b ob eb => by
              unfold cut at eb
              split at eb
              · cases eb
              · rename_i hb
                exact cut_of hb (by rw [upd_ne (fun z => hb (by rw [z]; simp))]; exact eb)
            have hO2 := hO.same sc
            obtain ⟨⟨dxo, vo, cso, ho, _, _⟩, _⟩ := id hO2
            refine ⟨_, rfl, _, rfl, a, _, -1, _, rfl, rfl, .of upd_same, atI_last _ _, o, _, dxo, _, _, rfl, cut_same _ _ ho, T.c_Outcome, T.n_Outcome_word, ofl_word _ _ _ _ _ _, ?_⟩
            refine ⟨_, os ++ [o], acc ++ [(i, m)], rfl, same_put (sH3.trans s5) ha, by rw [upd_same]; simp, Paired.app ((hos3.same (same_cuts s5)).same sc) (.cons hO2 .nil), by rw [List.length_append, List.length_singleton]; omega, ?_⟩
            cases hw : (vd rows (i, m)).wd with
            | en => exact .inr (.inl ⟨rfl, by rw [hF, fnd_en hpo hw]⟩)
            | eq => exact .inl ⟨rfl, by rw [hF, fnd_eq hpo hw]⟩
            | un => exact .inr (.inr ⟨rfl, by rw [hF, fnd_un hpo hw]⟩)
      · rintro σ H5 ⟨wd, os', acc', rfl, sH5, ea5, hos5, hlen5, hcase⟩
        refine ⟨_, rfl, two, fun tw htw => ?_⟩
        have s6 : Same H5 (upd H5 tw (.tup [.str "equal", .str "endless"])) := same_new htw
        refine ⟨tw, _, rfl, .inr (.of upd_same), rfl, rfl, _, rfl, ?_⟩
        have ea6 := s6 _ _ ea5
        have hos6 : OutsAt (CV K) (CO K) (cut [a] (upd H5 tw (.tup [.str "equal", .str "endless"]))) rows os' acc' := hos5.same (same_cuts s6)
        rcases hcase with ⟨rfl, hFe⟩ | ⟨rfl, hFe⟩ | ⟨rfl, hFe⟩
        · refine ite2 (fun _ => ?_) (fun z => absurd (by decide +kernel) z)
          refine ⟨_, rfl, _, rfl, rfl, _, rfl, ?_⟩
          rw [decide_eq_true rfl]
          refine iteT ⟨_, rfl, two, fun t ht => ?_⟩
          rw [ij]
          exact ret _ (.found (sn + j)) os' acc' hFe (sH5.trans s6) ea6 hos6 t ht
        · refine ite2 (fun _ => ?_) (fun z => absurd (by decide +kernel) z)
          refine ⟨_, rfl, _, rfl, rfl, _, rfl, ?_⟩
          rw [show decide (V.str "endless" = V.str "equal") = false by decide +kernel]
          refine iteF ⟨two, fun t ht => ?_⟩
          exact ret _ .endless os' acc' hFe (sH5.trans s6) ea6 hos6 t ht
        · refine ite2 (fun z => absurd z (by decide +kernel)) (fun _ => ?_)
          exact ⟨_, _, _, os', acc', rfl, sH5.trans s6, ea6, hos6, by omega, hFe⟩
    · rintro σ H' ⟨o5, o6, o7, os, acc, rfl, sH, ea, hos, hlen, hF⟩
      rw [List.drop_eq_nil_of_le (by omega)] at hF
      exact ⟨_, rfl, two, fun t ht => ret H' .absent os acc hF sH ea hos t ht⟩
end
end Rg
end
section
set_option Elab.async false
set_option linter.all false
set_option maxRecDepth 100000
set_option exponentiation.threshold 1000
/-! The law in plain terms. -/
namespace Rg
open PySem PySem.Spec PyProof.Rows L2
theorem fnd_endless {rows : Rows} {part : Item} : ∀ (as : List Item) (i : Nat) (acc : List Pr), (fnd rows part as i acc).2 = .endless → ∃ q ∈ (fnd rows part as i acc).1, (vd rows q).wd = .en
  | [], i, acc, h => by cases h
  | a :: as, i, acc, h => by
    cases hp : pairOf a part with
    | none =>
      by_cases e : a = part
      · rw [fnd_none_eq hp e] at h; cases h
      · rw [fnd_none_ne hp e] at h ⊢; exact fnd_endless as _ _ h
    | some c =>
      cases hw : (vd rows c).wd with
      | en => rw [fnd_en hp hw]; exact ⟨c, by simp, hw⟩
      | eq => rw [fnd_eq hp hw] at h; cases h
      | un => rw [fnd_un hp hw] at h ⊢; exact fnd_endless as _ _ h
theorem fnd_inr {rows : Rows} {part : Item} : ∀ (as : List Item) (i : Nat) (acc : List Pr), (∀ q ∈ acc, InR rows q) → (∀ a ∈ as, ∀ c, pairOf a part = some c → InR rows c) → ∀ q ∈ (fnd rows part as i acc).1, InR rows q
  | [], i, acc, h, _ => h
  | a :: as, i, acc, h, hp0 => by
    have hc := hp0 a List.mem_cons_self
    have ht : ∀ b ∈ as, ∀ c, pairOf b part = some c → InR rows c := fun b hb => hp0 b (List.mem_cons_of_mem _ hb)
    cases hp : pairOf a part with
    | none =>
      by_cases e : a = part
      · rw [fnd_none_eq hp e]; exact h
      · rw [fnd_none_ne hp e]; exact fnd_inr as _ _ h ht
    | some c =>
      have h2 : ∀ q ∈ acc ++ [c], InR rows q := fun q hq => by
        rcases List.mem_append.mp hq with z | z
        · exact h q z
        · rw [List.mem_singleton.mp z]; exact hc c hp
      cases hw : (vd rows c).wd with
      | en => rw [fnd_en hp hw]; exact h2
      | eq => rw [fnd_eq hp hw]; exact h2
      | un => rw [fnd_un hp hw]; exact fnd_inr as _ _ h2 ht
/-! ### until too deep -/
section
variable {rows : Rows} {L : Nat}
theorem wk_plain {f : Pr → Nat} {l : List Pr} (h : ∀ q ∈ l, ¬ Deep rows q L) : walkK rows f L l = sms rows l := by
  have e := walkK_app (rows := rows) (f := f) l [] h
  rw [List.append_nil] at e
  rw [e]
  exact Nat.add_zero _
theorem wk_snoc {f : Pr → Nat} {l : List Pr} {c : Pr} (h : ∀ q ∈ l, ¬ Deep rows q L) (hc : Deep rows c L) : walkK rows f L (l ++ [c]) = sms rows l + f c := by
  rw [walkK_app l [c] h, walkK_pos hc]
  rfl
theorem wk_snoc_ne {f : Pr → Nat} {l : List Pr} {c : Pr} (h : ∀ q ∈ l, ¬ Deep rows q L) (hc : ¬ Deep rows c L) : walkK rows f L (l ++ [c]) = sms rows l + stp rows c := by
  rw [walkK_app l [c] h, walkK_neg hc]
  rfl
theorem wk_past {f : Pr → Nat} : ∀ {l : List Pr} {c : Pr}, (∃ q ∈ l, Deep rows q L) → walkK rows f L (l ++ [c]) = walkK rows f L l
  | [], c, h => by obtain ⟨q, hq, _⟩ := h; exact absurd hq List.not_mem_nil
  | a :: l, c, h => by
    by_cases ha : Deep rows a L
    · rw [List.cons_append, walkK_pos ha, walkK_pos ha]
    · obtain ⟨q, hq, hd⟩ := h
      rw [List.cons_append, walkK_neg ha, walkK_neg ha, wk_past ⟨q, by
        rcases List.mem_cons.mp hq with z | z
        · rw [z] at hd; exact absurd hd ha
        · exact z, hd⟩]
theorem at_one {wd : Str} {p : Pr} : (Deep rows p L → atF rows wd [p] L = (("too deep" : Str), sud rows L p)) ∧ (¬ Deep rows p L → atF rows wd [p] L = (wd, stp rows p)) := by
  constructor
  · intro h
    unfold atF
    rw [if_pos ⟨p, List.mem_singleton.mpr rfl, h⟩, walkK_pos h]
  · intro h
    unfold atF
    rw [if_neg (fun ⟨q, hq, hd⟩ => h (by rw [← List.mem_singleton.mp hq]; exact hd))]
    unfold sms
    simp
theorem at_deep {wd : Str} {qs : List Pr} (h : ∃ q ∈ qs, Deep rows q L) : atF rows wd qs L = (("too deep" : Str), walkK rows (sud rows L) L qs) := if_pos h
theorem at_not {wd : Str} {qs : List Pr} (h : ∀ q ∈ qs, ¬ Deep rows q L) : atF rows wd qs L = (wd, walkK rows (sud rows L) L qs) := by
  rw [wk_plain h]
  exact if_neg fun ⟨q, hq, hd⟩ => h q hq hd
end
/-! ### what is shown is small -/
theorem sms_le {rows : Rows} (sm : Small rows) : ∀ {qs : List Pr}, (∀ q ∈ qs, InR rows q) → sms rows qs ≤ qs.length * big := fun h => by
  unfold sms
  exact sum_le fun c hc => stp_big sm (h c hc)
theorem mxd_le {rows : Rows} (sm : Small rows) {qs : List Pr} (h : ∀ q ∈ qs, InR rows q) : mxd rows qs ≤ 100 := by
  unfold mxd
  cases qs with
  | nil => exact Nat.zero_le _
  | cons a l =>
    obtain ⟨q, hq, e⟩ := List.mem_map.mp (foldr_max_mem (l := (a :: l).map (dpt rows)) (by simp))
    rw [← e]
    unfold dpt
    cases hT : T rows q with
    | none => exact Nat.zero_le _
    | some r => exact Nat.le_trans (depth_le sm.clo (h q hq) hT) (Nat.mul_le_mul sm.ten sm.ten)
theorem log_small {n : Nat} (h : n < 2 ^ 300) : ((n : Int)).natAbs.log2 < 1920 := by
  show n.log2 < 1920
  by_cases hz : n = 0
  · rw [hz]; decide
  · have := (Nat.log2_lt hz).mpr h
    omega
theorem rep_len_int {i : Int} (h : i.natAbs.log2 < 1920) : (repV (.int i)).length ≤ 1921 := int_text_len_1921 h
theorem fr_flat (f : Fr) : flatS (.str (frW f)) = true ∧ (repV (.str (frW f))).length ≤ 1921 := by
  cases f with
  | found i => exact ⟨by show flatS (.str "found") = true; decide +kernel, by show (repV (.str "found")).length ≤ 1921; decide +kernel⟩
  | absent => exact ⟨by show flatS (.str "absent") = true; decide +kernel, by show (repV (.str "absent")).length ≤ 1921; decide +kernel⟩
  | endless => exact ⟨by show flatS (.str "endless") = true; decide +kernel, by show (repV (.str "endless")).length ≤ 1921; decide +kernel⟩
def Sm (v : V) : Prop := flatS v = true ∧ (repV v).length ≤ 1921
theorem sm_non : Sm .non := ⟨rfl, by decide +kernel⟩
theorem sm_bl (b : Bool) : Sm (.bl b) := ⟨rfl, by cases b <;> decide +kernel⟩
theorem sm_nat {n : Nat} (h : n < 2 ^ 300) : Sm (.int (n : Int)) := ⟨decide_eq_true (log_small h), rep_len_int (log_small h)⟩
theorem tuple5_len (a b c d e : Str) : (tupleText [a, b, c, d, e]).length ≤ a.length + b.length + c.length + d.length + e.length + 20 := by
  unfold tupleText
  have hj := join_length_add [a, b, c, d, e] (by simp)
  have hp : piled [a, b, c, d, e] = a.length + 2 + (b.length + 2 + (c.length + 2 + (d.length + 2 + (e.length + 2 + 0)))) := by
    simp only [piled_cons, piled_nil]
  rw [hp] at hj
  have e1 : (([a, b, c, d, e] : List Str).length == 1) = false := rfl
  rw [e1]
  have e2 : (Str.ofString (if false = true then ",)" else ")")).length = 1 := rfl
  have e3 : (Str.ofString "(").length = 1 := rfl
  show (Str.ofString "(" ++ Str.join ", " [a, b, c, d, e] ++ Str.ofString (if false = true then ",)" else ")")).length ≤ _
  rw [PySem.Str.length_append, PySem.Str.length_append, e2, e3]
  omega
theorem sh_ok {wd : Str} {st dp num : V} (h1 : Sm (.str wd)) (h2 : Sm st) (h3 : Sm dp) (h4 : Sm num) : ShOk wd st dp num := by
  unfold ShOk shV
  refine ⟨?_, ?_⟩
  · simp only [List.all_cons, List.all_nil, Bool.and_true, Bool.and_eq_true]
    exact ⟨h1.1, h2.1, h3.1, h4.1, (sm_bl _).1⟩
  · refine Nat.le_trans (tuple5_len _ _ _ _ _) ?_
    have := h1.2
    have := h2.2
    have := h3.2
    have := h4.2
    have := (sm_bl (!decide (wd = "endless"))).2
    have : (20000 : Nat) ≤ sizeLine := by decide
    omega
end Rg
end
section
set_option Elab.async false
set_option linter.all false
set_option maxRecDepth 100000
set_option maxHeartbeats 8000000
set_option exponentiation.threshold 1000
/-! The law: find is right. -/
namespace Rg
open PySem PySem.Spec PyProof.Rows L2
theorem inV_false (bs : List Bool) : inV (.bl false) (bs.map V.bl) = bs.any (fun b => !b) := by
  unfold inV
  rw [List.any_map]
  congr 1
  funext b
  cases b <;> rfl
theorem sms_one {rows : Rows} {p : Pr} : sms rows [p] = stp rows p := by unfold sms; simp
theorem mxd_one {rows : Rows} {p : Pr} : mxd rows [p] = dpt rows p := by unfold mxd; simp
theorem wst_endless (wd : Wd) : decide (wst wd = "endless") = decide (wd = .en) := by cases wd <;> decide +kernel
theorem fr_td (f : Fr) : decide (V.str (frW f) = V.str "too deep") = false := by
  cases f with
  | found i => show decide (V.str "found" = V.str "too deep") = false; decide +kernel
  | absent => show decide (V.str "absent" = V.str "too deep") = false; decide +kernel
  | endless => show decide (V.str "endless" = V.str "too deep") = false; decide +kernel
theorem wst_td (wd : Wd) : decide (V.str (wst wd) = V.str "too deep") = false := by cases wd <;> decide +kernel
theorem fr_ok (f : Fr) : PyData.strOk (frW f) = true := by
  cases f with
  | found i => show PyData.strOk "found" = true; decide +kernel
  | absent => show PyData.strOk "absent" = true; decide +kernel
  | endless => show PyData.strOk "endless" = true; decide +kernel
theorem td_ok : PyData.strOk "too deep" = true := by decide +kernel
theorem two_shaped {z : Str} {n : Int} (h : PyData.strOk z = true) : SeqAt.shaped (.tuple [.str z, .int n]) = true := by
  have h1 : (PyData.tuple [.str z, .int n]).canLay0 = true := by simp [PyData.canLay0, PyData.canLayAll0]; exact h
  have h2 : (PyData.tuple [.str z, .int n]).depth ≤ 64 := by simp [PyData.depth, PyData.depthAll]
  show ((PyData.tuple [.str z, .int n]).canLay0 && decide ((PyData.tuple [.str z, .int n]).depth ≤ 64)) = true
  rw [Bool.and_eq_true]
  exact ⟨h1, decide_eq_true h2⟩
theorem two_eqv (z : Str) (n : Int) : PyData.eqv (.tuple [.str z, .int n]) (.tuple [.str z, .int n]) = true := by simp [PyData.eqv, PyData.eqvAll]
section
variable {P : Program} {w : World} {K : PySem.W.Frag} {mg : Str → Option Value} {base : Heap}
def sp_Lfind_right (CHa : Addr) : Sp := fun vs H Q _ => ∃ (h : Addr) (zk zs : Int) (k sn m : Nat) (x : V) (la : Addr) (Ls : List Nat) (rows : Rows), vs = [.ref h, .int zk, x, .int zs, .ref la] ∧ zk = (k : Int) ∧ zs = (sn : Int) ∧ HeapAt CHa H h rows ∧ Fit rows ∧ k < rows.length ∧ ItV H x (.box m) ∧ m < rows.length ∧ sn ≤ (rowOf rows k).length ∧
  H la = some (.lst (Ls.map fun L : Nat => V.int (L : Int))) ∧ (∀ L ∈ Ls, 1 ≤ L ∧ L ≤ 10 ^ 30) ∧ ∀ H', Same H H' → Q (.bl true) H'
theorem r_Lfind_right (T : Tx K mg) : FnG P w K mg base 11 (He.ga K "_law_find_right") (sp_Lfind_right (CH K)) := by
  obtain ⟨qa, ga, hpr, hFe⟩ := T.pr_ends
  obtain ⟨fdF, GF⟩ := T.F_find
  refine fng T.F_Lfind_right c_Lfind_right (fun vs H Q E h => ?_) (fun _ _ _ _ _ _ us hl => match us, hl with | [_, _, _, _, _], _ => rfl) (fun cdv A outer s H vs Q hgd hr h => ?_)
  · obtain ⟨h, zk, zs, k, sn, m, x, la, Ls, rows, rfl, _⟩ := h; rfl
  · obtain ⟨h, zk, zs, k, sn, m, x, la, Ls, rows, rfl, rfl, rfl, hA, fit, hk, hx, hm, hsn, hla, hLs, q⟩ := h
    have nd := c_Lfind_right.nd
    refine ⟨_, pss_cons (ps_par (i := 5) (j := 6) rfl nd rfl rfl (by decide) rfl rfl (pa_cons (pe_callN (r_find T GF) (hr.mono (by decide)) (by rfl) T.g_find (kpq T.F_find) (b_find1 GF) pass0 (pa_cons (pv 0) (pa_cons (pv 1) (pa_cons (pv 2) pa_nil))) (pk_cons (pv 3) pk_nil)) (pa_cons (pe_fn (r_Lcourse T) hr (by rfl) T.g_Lcourse (kpq T.F_Lcourse) (pa_cons (pv 0) (pa_cons (pv 1) (pa_cons (pv 2) (pa_cons (pv 3) pa_nil))))) pa_nil)) (by rfl))
      (pss_cons (ps_asg (pv 6) (pg_tup (n := 2) rfl (pgs_cons (pg_name (i := 7) nd rfl (.inl rfl)) (pgs_cons (pg_name (i := 8) nd rfl (.inl rfl)) pgs_nil))))
      (pss_mid (ps_if (pt_cmpR op_in_seq pe_bl (pe_lc (own := [("_law_one", 14)]) (g := gName 14) (tt := tYes) (te := tPr (CO K) (sp_ends (CO K)) (tVar 14)) rfl nd (pi_list (pv 7)) (blkOk_by (N := n_Lfind_right) (sc := defScope s_Lfind_right) (by decide +kernel))
          (fun _ _ _ _ _ => pg_name (i := 14) nd rfl (.inl rfl)) (fun _ _ _ _ _ => pts_nil) (fun _ _ _ _ _ => pe_pr (pv 14) T.c_Outcome hpr (r_ends T hFe) (hr.mono (by decide : 2 ≤ 10)))) (by with_unfolding_all rfl))
        (pss_one (ps_set (i := 9) nd rfl (.inl rfl) (pe_tup (pa_cons pe_str (pa_cons pe_non (pa_cons pe_non (pa_cons pe_non pa_nil)))))))
        (pss_cons (ps_set (i := 10) nd rfl (.inl rfl) (pe_callB (cr_max rfl) (by rfl) T.z_max boot_max (pa_cons (pe_op op_cat (pe_lst (pa_cons pe_int pa_nil)) (pe_lc (own := [("_law_one", 14)]) (g := gName 14) (tt := tYes) (te := tFld K (tVar 14) "depth") rfl nd (pi_list (pv 7)) (blkOk_by (N := n_Lfind_right) (sc := defScope s_Lfind_right) (by decide +kernel))
          (fun _ _ _ _ _ => pg_name (i := 14) nd rfl (.inl rfl)) (fun _ _ _ _ _ => pts_nil) (fun _ _ _ _ _ => pe_fld (pv 14) rfl))) pa_nil)))
        (pss_one (ps_set (i := 9) nd rfl (.inl rfl) (pe_tup (pa_cons (pe_ifExp (pt_cmpR op_isN (pv 8) pe_non (nomark _)) pe_str pe_str) (pa_cons (pe_callB (cr_sum rfl) (by rfl) T.z_sum boot_sum (pa_cons (pe_lc (own := [("_law_one", 14)]) (g := gName 14) (tt := tYes) (te := tFld K (tVar 14) "steps") rfl nd (pi_list (pv 7)) (blkOk_by (N := n_Lfind_right) (sc := defScope s_Lfind_right) (by decide +kernel))
          (fun _ _ _ _ _ => pg_name (i := 14) nd rfl (.inl rfl)) (fun _ _ _ _ _ => pts_nil) (fun _ _ _ _ _ => pe_fld (pv 14) rfl)) pa_nil)) (pa_cons (pv 10) (pa_cons (pv 8) pa_nil)))))))))
      (pss_cons (ps_if (pt_cmpR op_ne (pe_fnG (r_Lshown T) hgd (hr.mono (by decide)) (by rfl) T.g_Lshown (kpq T.F_Lshown) (pa_cons (pv 5) pa_nil)) (pe_fnG (r_Ltold T) hgd (hr.mono (by decide)) (by rfl) T.g_Ltold (kpq T.F_Ltold) (pa_cons (pe_ix ix_tup (pv 9) pe_int (fun _ _ => rfl)) (pa_cons (pe_ix ix_tup (pv 9) pe_int (fun _ _ => rfl)) (pa_cons (pe_ix ix_tup (pv 9) pe_int (fun _ _ => rfl)) (pa_cons (pe_ix ix_tup (pv 9) pe_int (fun _ _ => rfl)) pa_nil))))) (nomark _)) pss_never pss_nil)
      (pss_cons (ps_for PassesOwn.never rfl (pi_list (pv 4)) (pg_name (i := 11) nd rfl (.inl rfl))
        (pss_cons (ps_par (i := 12) (j := 13) rfl nd rfl rfl (by decide) rfl rfl (pa_cons pe_int (pa_cons (pe_ix ix_tup (pv 9) pe_int (fun _ _ => rfl)) pa_nil)) (by rfl))
        (pss_cons (ps_for PassesOwn.never rfl (pi_list (pv 7)) (pg_name (i := 14) nd rfl (.inl rfl))
          (pss_one (ps_if (pt_cmpR op_ne (pv 13) pe_str (nomark _))
            (pss_cons (ps_set (i := 15) nd rfl (.inl rfl) (pe_mt (pv 14) T.c_Outcome T.m_Outcome_at (r_O_at T) (hr.mono (by decide)) (pa_cons (pv 11) pa_nil)))
            (pss_one (ps_par (i := 13) (j := 12) rfl nd rfl rfl (by decide) rfl rfl (pa_cons (pe_ifExp (pt_cmpR op_eq (pe_ix ix_tup (pv 15) pe_int (fun _ _ => rfl)) pe_str (nomark _)) pe_str (pe_ix ix_tup (pv 9) pe_int (fun _ _ => rfl))) (pa_cons (pe_op op_add (pv 12) (pe_ix ix_tup (pv 15) pe_int (fun _ _ => rfl))) pa_nil)) (by rfl)))) pss_nil)))
        (pss_one (ps_if (pt_cmpR (op_neD (u64 hr)) (pe_mt (pv 5) T.c_Outcome T.m_Outcome_at (r_O_at T) (hr.mono (by decide)) (pa_cons (pv 11) pa_nil)) (pe_tup (pa_cons (pv 13) (pa_cons (pv 12) pa_nil))) (nomark _)) pss_never pss_nil)))))
      (pss_one (ps_ret pe_bl)))))), ?_⟩
    have sm := fit.small
    have l3 : (rowOf rows k).length ≤ 3 := sm.three _ (List.mem_of_getElem? (rowOf_at hk))
    have two : (2 : Nat) ≤ sizeLine := by decide
    have four : (4 : Nat) ≤ sizeLine := by decide
    have l9 : ∀ k : Nat, k ≤ 3 → k < sizeLine := fun k hk => Nat.lt_of_le_of_lt hk (by decide)
    have hrows := List.mem_of_getElem? (rowOf_at hk)
    generalize hFd : fnd rows (.box m) ((rowOf rows k).drop sn) sn [] = F at *
    have hF3 : F.1.length ≤ 3 := by
      rw [← hFd]
      have := fnd_len (rows := rows) (part := .box m) ((rowOf rows k).drop sn) sn []
      rw [List.length_drop, List.length_nil] at this
      omega
    have hFin : ∀ p ∈ F.1, InR rows p := by
      rw [← hFd]
      exact fnd_inr _ _ _ (fun _ z => absurd z List.not_mem_nil) fun a ha c hc => pair_in (a := a) (b := .box m) (fit.good _ hrows a (List.mem_of_mem_drop ha)) (show GoodI rows.length (.box m) from hm) c hc
    have hFne : F.2 ≠ .endless → ∀ p ∈ F.1, (vd rows p).wd ≠ .en := by
      rw [← hFd]
      exact fnd_ends _ _ _ (fun _ z => absurd z List.not_mem_nil)
    have hFe2 : F.2 = .endless → ∃ p ∈ F.1, (vd rows p).wd = .en := by
      rw [← hFd]
      exact fnd_endless _ _ _
    have hFi : ∀ j, F.2 = .found j → j < 3 := fun j hj => by
      rw [← hFd] at hj
      have := fnd_lt _ _ _ hj
      rw [List.length_drop] at this
      omega
    refine ⟨_, rfl, _, rfl, _, rfl, _, rfl, rfl, rfl, h, _, _, k, sn, x, .box m, rows, rfl, rfl, rfl, hA, fit, hk, hx, hm, hsn, fun H1 fo s1 hO => ⟨_, rfl, _, rfl, _, rfl, _, rfl, h, _, _, k, sn, m, x, rows, rfl, rfl, rfl, hA.same s1, fit, hk, hx.same s1, hm, hsn, fun H2 co so os s2 hco hso hos => ⟨_, _, rfl, ?_⟩⟩⟩
    rw [hFd] at hO hco hos
    refine ⟨_, rfl, co, _, rfl, .of hco, rfl, _, _, rfl, _, _, rfl, rfl, ?_⟩
    have sH2 := s1.trans s2
    have hO2 := hO.same s2
    have los : os.length = F.1.length := Paired.length hos
    -- a comprehension over the outcomes
    have each : ∀ (H' : Hp), Same H2 H' → ∀ (i : Nat) (x : V), (os.map V.ref)[i]? = some x → ∃ (o : Addr) (p : Pr) (dxo vo cso : Addr), F.1[i]? = some p ∧ x = V.ref o ∧ H' o = some (.ins (CO K) dxo (ofl (wst (vd rows p).wd) .non vo cso (stV (wst (vd rows p).wd) rows [p]) (dpV (wst (vd rows p).wd) rows [p]))) ∧ OutAt (CV K) (CO K) H' o (wst (vd rows p).wd) .non rows [p] := by
      intro H' s' i x hx
      rw [List.getElem?_map] at hx
      cases e : os[i]? with
      | none => rw [e] at hx; cases hx
      | some o =>
        rw [e] at hx
        obtain ⟨p, hp, hOp⟩ := Paired.at1 hos e
        have hOp' := hOp.same s'
        obtain ⟨⟨dxo, vo, cso, ho, _, _⟩, _⟩ := id hOp'
        exact ⟨o, p, dxo, vo, cso, hp, (Option.some.inj hx).symm, ho, hOp'⟩
    have tk : ∀ {i : Nat} {p : Pr}, F.1[i]? = some p → F.1.take (i + 1) = F.1.take i ++ [p] := fun hp => by rw [List.take_add_one, hp]; rfl
    have ltk : ∀ i, (F.1.take i).length ≤ 3 := fun i => Nat.le_trans (List.length_take_le' _ _) hF3
    refine ⟨fun σ H' => ∃ (du : Addr) (o10 : Option V), σ = [some (.ref h), some (.int (k : Int)), some x, some (.int (sn : Int)), some (.ref la), some (.ref fo), some (.ref co), some (.ref so), some (frN F.2), some (.ref du), o10, none, none, none, none, none] ∧ Same H2 H' ∧
      H' du = some (.tup [.str (frW F.2), stV (frW F.2) rows F.1, dpV (frW F.2) rows F.1, frN F.2]), ?_, ?_⟩
    · refine ⟨_, rfl, so, rfl, ⟨_, .of hso⟩, fun D hD => ?_⟩
      refine lc_list (xs := os.map V.ref) (fun i H' => H' D = some (.lst (((F.1.take i).map fun p => !decide (wst (vd rows p).wd = "endless")).map V.bl)) ∧ Same H2 H') ⟨upd_same, same_new hD⟩ (fun i H' _ ⟨_, s'⟩ => .of (s' _ _ hso)) ?_ ?_
      · rintro i y H' hy ⟨e, s'⟩
        obtain ⟨o, p, dxo, vo, cso, hp, rfl, ho, _⟩ := each H' s' i y hy
        refine ⟨rfl, yesT ⟨_, rfl, o, dxo, _, rfl, ho, o, dxo, vo, cso, _, _, _, _, rfl, ho, _, e, l9 _ (by rw [List.length_map, List.length_map]; exact ltk i), by rw [upd_same, tk hp]; simp, same_put s' hD⟩⟩
      · rintro H3 ⟨e, s3⟩
        rw [List.length_map, los, List.take_of_length_le (Nat.le_refl _)] at e
        refine ⟨D, _, rfl, .inl (.of e), rfl, by rw [List.all_map]; exact List.all_eq_true.mpr fun _ _ => rfl, _, rfl, ?_⟩
        refine ite2 (fun z => ?_) (fun z => ?_)
        · have z2 : inV (.bl false) ((F.1.map fun p => !decide (wst (vd rows p).wd = "endless")).map V.bl) = true := z
          rw [inV_false, List.any_map, List.any_eq_true] at z2
          obtain ⟨p, hp, hb⟩ := z2
          have hw : (vd rows p).wd = .en := by
            simp only [Function.comp_apply, Bool.not_not] at hb
            rw [wst_endless] at hb
            exact of_decide_eq_true hb
          have hF2 : F.2 = .endless := Classical.byContradiction fun hne => hFne hne p hp hw
          refine ⟨four, fun du hdu => ⟨du, _, rfl, s3.trans (same_new hdu), ?_⟩⟩
          rw [hF2]
          exact upd_same
        · have hF2 : F.2 ≠ .endless := fun hz => by
            obtain ⟨p, hp, hw⟩ := hFe2 hz
            refine z ?_
            show inV (.bl false) ((F.1.map fun p => !decide (wst (vd rows p).wd = "endless")).map V.bl) = true
            rw [inV_false, List.any_map, List.any_eq_true]
            exact ⟨p, hp, by simp only [Function.comp_apply, Bool.not_not]; rw [wst_endless]; exact decide_eq_true hw⟩
          have hne := hFne hF2
          have hwn : ∀ p ∈ F.1, wst (vd rows p).wd ≠ "endless" := fun p hp hz => hne p hp (of_decide_eq_true (by rw [← wst_endless]; exact decide_eq_true hz))
          have hwF : frW F.2 ≠ "endless" := fun hz => hF2 (fr_endless.mp hz)
          have hso3 := s3 _ _ hso
          refine ⟨by show 1 ≤ sizeLine; decide, fun z0 hz0 => ⟨_, rfl, so, rfl, ⟨_, .of ((same_new hz0) _ _ hso3)⟩, fun D2 hD2 => ?_⟩⟩
          have s4 : Same H3 (upd H3 z0 (.lst [.int 0])) := same_new hz0
          refine lc_list (xs := os.map V.ref) (fun i H' => H' D2 = some (.lst (((F.1.take i).map fun p => ((dpt rows p : Nat) : Int)).map V.int)) ∧ Same (upd H3 z0 (.lst [.int 0])) H') ⟨upd_same, same_new hD2⟩ (fun i H' _ ⟨_, s'⟩ => .of (s' _ _ (s4 _ _ hso3))) ?_ ?_
          · rintro i y H' hy ⟨e, s'⟩
            obtain ⟨o, p, dxo, vo, cso, hp, rfl, ho, _⟩ := each H' ((s3.trans s4).trans s') i y hy
            have hpm := List.mem_of_getElem? hp
            refine ⟨rfl, yesT ⟨_, rfl, o, _, dxo, _, _, rfl, ho, T.c_Outcome, T.n_Outcome_depth, ofl_depth _ _ _ _ _ _, _, e, l9 _ (by rw [List.length_map, List.length_map]; exact ltk i), ?_, same_put s' hD2⟩⟩
            rw [upd_same, tk hp, show dpV (wst (vd rows p).wd) rows [p] = V.int (mxd rows [p] : Nat) from if_neg (hwn p hpm), mxd_one]
            simp
          · rintro H4 ⟨e4, s5⟩
            rw [List.length_map, los, List.take_of_length_le (Nat.le_refl _)] at e4
            refine ⟨z0, D2, _, _, rfl, rfl, s5 _ _ upd_same, e4, by rw [List.length_map, List.length_map]; exact Nat.le_trans (show 1 + F.1.length ≤ 4 by omega) four, fun pm hpm => ?_⟩
            refine ⟨pm, 0 :: F.1.map fun p => ((dpt rows p : Nat) : Int), rfl, .of upd_same, by simp, fun mm hmm hall => ?_⟩
            have emm : mm = ((mxd rows F.1 : Nat) : Int) := by
              have hge : ∀ p ∈ F.1, ((dpt rows p : Nat) : Int) ≤ mm := fun p hp => hall _ (List.mem_cons_of_mem _ (List.mem_map_of_mem (f := fun p => ((dpt rows p : Nat) : Int)) hp))
              have h0 : (0 : Int) ≤ mm := hall 0 List.mem_cons_self
              rcases List.mem_cons.mp hmm with z | z
              · have hz : mxd rows F.1 = 0 := by
                  unfold mxd
                  cases hl : F.1 with
                  | nil => rfl
                  | cons p0 l0 =>
                    rw [← hl]
                    obtain ⟨p, hp, e⟩ := List.mem_map.mp (foldr_max_mem (l := F.1.map (dpt rows)) (by rw [hl]; simp))
                    have := hge p hp
                    rw [e] at this
                    omega
                rw [z, hz]
                rfl
              · obtain ⟨p, hp, e⟩ := List.mem_map.mp z
                unfold mxd
                rw [foldr_max_eq (m := dpt rows p) (List.mem_map_of_mem hp) fun x hx => by
                  obtain ⟨p2, hp2, rfl⟩ := List.mem_map.mp hx
                  have := hge p2 hp2
                  rw [← e] at this
                  omega]
                exact e.symm
            rw [emm]
            have s6 : Same H3 (upd H4 pm (.lst ([V.int 0] ++ (F.1.map fun p => ((dpt rows p : Nat) : Int)).map V.int))) := (s4.trans s5).trans (same_new hpm)
            generalize hH5 : upd H4 pm (.lst ([V.int 0] ++ (F.1.map fun p => ((dpt rows p : Nat) : Int)).map V.int)) = H5 at *
            refine ⟨_, rfl, rfl, _, rfl, ?_⟩
            have hword : ∀ (A B : Prop), (F.2 = .absent → A) → ((∃ j, F.2 = .found j) → B) → (if decide (frN F.2 = V.non) = true then A else B) := fun A B hA hB => by
              cases hf : F.2 with
              | found j => rw [hf] at hB; exact iteF (hB ⟨_, rfl⟩)
              | absent => rw [hf] at hA; exact iteT (hA rfl)
              | endless => exact absurd hf hF2
            refine hword _ _ (fun hf => ?_) (fun ⟨j, hf⟩ => ?_)
            · refine ⟨_, rfl, so, rfl, ⟨_, .of (s6 _ _ hso3)⟩, fun D5 hD5 => ?_⟩
              refine lc_list (xs := os.map V.ref) (fun i H' => H' D5 = some (.lst (((F.1.take i).map fun p => ((stp rows p : Nat) : Int)).map V.int)) ∧ Same H5 H') ⟨upd_same, same_new hD5⟩ (fun i H' _ ⟨_, s'⟩ => .of (s' _ _ (s6 _ _ hso3))) ?_ ?_
              · rintro i y H' hy ⟨e, s'⟩
                obtain ⟨o, p, dxo, vo, cso, hp, rfl, ho, _⟩ := each H' ((s3.trans s6).trans s') i y hy
                have hpm := List.mem_of_getElem? hp
                refine ⟨rfl, yesT ⟨_, rfl, o, _, dxo, _, _, rfl, ho, T.c_Outcome, T.n_Outcome_steps, ofl_steps _ _ _ _ _ _, _, e, l9 _ (by rw [List.length_map, List.length_map]; exact ltk i), ?_, same_put s' hD5⟩⟩
                rw [upd_same, tk hp, show stV (wst (vd rows p).wd) rows [p] = V.int (sms rows [p] : Nat) from if_neg (hwn p hpm), sms_one]
                simp
              · rintro H6 ⟨e6, s7⟩
                rw [List.length_map, los, List.take_of_length_le (Nat.le_refl _)] at e6
                refine ⟨D5, _, rfl, .of e6, ?_⟩
                rw [sum_cast]
                refine ⟨_, rfl, _, rfl, four, fun du hdu => ⟨du, _, rfl, ((s3.trans s6).trans s7).trans (same_new hdu), ?_⟩⟩
                rw [upd_same, show stV (frW F.2) rows F.1 = V.int (sms rows F.1 : Nat) from if_neg hwF, show dpV (frW F.2) rows F.1 = V.int (mxd rows F.1 : Nat) from if_neg hwF]
                rw [hf]
                rfl
            · refine ⟨_, rfl, so, rfl, ⟨_, .of (s6 _ _ hso3)⟩, fun D5 hD5 => ?_⟩
              refine lc_list (xs := os.map V.ref) (fun i H' => H' D5 = some (.lst (((F.1.take i).map fun p => ((stp rows p : Nat) : Int)).map V.int)) ∧ Same H5 H') ⟨upd_same, same_new hD5⟩ (fun i H' _ ⟨_, s'⟩ => .of (s' _ _ (s6 _ _ hso3))) ?_ ?_
              · rintro i y H' hy ⟨e, s'⟩
                obtain ⟨o, p, dxo, vo, cso, hp, rfl, ho, _⟩ := each H' ((s3.trans s6).trans s') i y hy
                have hpm := List.mem_of_getElem? hp
                refine ⟨rfl, yesT ⟨_, rfl, o, _, dxo, _, _, rfl, ho, T.c_Outcome, T.n_Outcome_steps, ofl_steps _ _ _ _ _ _, _, e, l9 _ (by rw [List.length_map, List.length_map]; exact ltk i), ?_, same_put s' hD5⟩⟩
                rw [upd_same, tk hp, show stV (wst (vd rows p).wd) rows [p] = V.int (sms rows [p] : Nat) from if_neg (hwn p hpm), sms_one]
                simp
              · rintro H6 ⟨e6, s7⟩
                rw [List.length_map, los, List.take_of_length_le (Nat.le_refl _)] at e6
                refine ⟨D5, _, rfl, .of e6, ?_⟩
                rw [sum_cast]
                refine ⟨_, rfl, _, rfl, four, fun du hdu => ⟨du, _, rfl, ((s3.trans s6).trans s7).trans (same_new hdu), ?_⟩⟩
                rw [upd_same, show stV (frW F.2) rows F.1 = V.int (sms rows F.1 : Nat) from if_neg hwF, show dpV (frW F.2) rows F.1 = V.int (mxd rows F.1 : Nat) from if_neg hwF]
                rw [hf]
                rfl
    · rintro σ H3 ⟨du, o10, rfl, s3, hdu⟩
      obtain ⟨⟨dxf, vfo, csf, hof, _, _⟩, _⟩ := id (hO2.same s3)
      have lb : 3 * big < 2 ^ 300 := by unfold big; decide +kernel
      have hsms : sms rows F.1 < 2 ^ 300 := by
        have h1 := sms_le sm hFin
        have h2 : F.1.length * big ≤ 3 * big := Nat.mul_le_mul_right _ hF3
        omega
      have hmxd : mxd rows F.1 < 2 ^ 300 := Nat.lt_of_le_of_lt (mxd_le sm hFin) (by decide +kernel)
      have shok : ShOk (frW F.2) (stV (frW F.2) rows F.1) (dpV (frW F.2) rows F.1) (frN F.2) := by
        refine sh_ok (fr_flat F.2) ?_ ?_ ?_
        · unfold stV
          split
          · exact sm_non
          · exact sm_nat hsms
        · unfold dpV
          split
          · exact sm_non
          · exact sm_nat hmxd
        · cases hf : F.2 with
          | found j => exact sm_nat (Nat.lt_trans (hFi j hf) (by decide +kernel))
          | absent => exact sm_non
          | endless => exact sm_non
      refine ⟨_, rfl, fo, dxf, vfo, csf, _, _, _, _, rfl, hof, shok, fun S1 H4 hS1 s4 => ?_⟩
      refine ⟨_, rfl, du, _, ((0 : Nat) : Int), _, rfl, rfl, .of (s4 _ _ hdu), rfl, _, rfl, du, _, ((1 : Nat) : Int), _, rfl, rfl, .of (s4 _ _ hdu), rfl, _, rfl, du, _, ((2 : Nat) : Int), _, rfl, rfl, .of (s4 _ _ hdu), rfl, _, rfl, du, _, ((3 : Nat) : Int), _, rfl, rfl, .of (s4 _ _ hdu), rfl, _, _, _, _, rfl, shok, fun S2 H5 hS2 s5 => ?_⟩
      have hS : S1 = S2 := hS1.trans hS2.symm
      clear hS1 hS2
      subst hS
      refine ⟨rfl, _, rfl, ?_⟩
      have z1 : (!decide (V.str S1 = V.str S1)) = false := by rw [decide_eq_true rfl]; rfl
      rw [z1]
      refine iteF ?_
      have s25 := (s3.trans s4).trans s5
      have hla5 := sH2.trans s25 _ _ hla
      refine ⟨_, rfl, la, rfl, ⟨_, .of hla5⟩, ?_⟩
      have hdu5 := s4.trans s5 _ _ hdu
      have hso5 := s25 _ _ hso
      refine for_list (xs := Ls.map fun L : Nat => V.int (L : Int)) (fun i σ H' => ∃ (o11 o12 o13 o14 o15 : Option V), σ = [some (.ref h), some (.int (k : Int)), some x, some (.int (sn : Int)), some (.ref la), some (.ref fo), some (.ref co), some (.ref so), some (frN F.2), some (.ref du), o10, o11, o12, o13, o14, o15] ∧ Same H5 H')
        ⟨_, _, _, _, _, rfl, Same.refl _⟩ (fun i σ H' _ ⟨_, _, _, _, _, _, s'⟩ => .of (s' _ _ hla5)) ?_ (fun σ H' ⟨_, _, _, _, _, e, s'⟩ => by
          rw [e]
          exact q H' ((sH2.trans s25).trans s'))
      rintro i y σ H6 hy ⟨o11, o12, o13, o14, o15, rfl, s6⟩
      obtain ⟨L, hL, rfl⟩ : ∃ L, Ls[i]? = some L ∧ y = V.int (L : Int) := by
        rw [List.getElem?_map] at hy
        cases e : Ls[i]? with
        | none => rw [e] at hy; cases hy
        | some u => rw [e] at hy; exact ⟨u, rfl, (Option.some.inj hy).symm⟩
      obtain ⟨hL1, hL30⟩ := hLs L (List.mem_of_getElem? hL)
      have hdu6 := s6 _ _ hdu5
      refine ⟨_, rfl, du, _, ((0 : Nat) : Int), _, rfl, rfl, .of hdu6, rfl, _, _, rfl, ?_⟩
      refine ⟨_, rfl, so, rfl, ⟨_, .of (s6 _ _ hso5)⟩, ?_⟩
      refine for_list (xs := os.map V.ref) (fun j σ H' => ∃ (o14 o15 : Option V) (wv : Str), σ = [some (.ref h), some (.int (k : Int)), some x, some (.int (sn : Int)), some (.ref la), some (.ref fo), some (.ref co), some (.ref so), some (frN F.2), some (.ref du), o10, some (.int (L : Int)), some (.int (walkK rows (sud rows L) L (F.1.take j) : Nat)), some (.str wv), o14, o15] ∧ Same H6 H' ∧
          ((wv = "too deep" ∧ ∃ p ∈ F.1.take j, Deep rows p L) ∨ (wv = frW F.2 ∧ ∀ p ∈ F.1.take j, ¬ Deep rows p L)))
        ⟨_, _, _, by rw [List.take_zero]; rfl, Same.refl _, .inr ⟨rfl, fun p hp => by rw [List.take_zero] at hp; exact absurd hp List.not_mem_nil⟩⟩ (fun j σ H' _ ⟨_, _, _, _, s', _⟩ => .of (s' _ _ (s6 _ _ hso5))) ?_ ?_
      · rintro j y σ H7 hy ⟨o14, o15, wv, rfl, s7, hwv⟩
        have s27 := (s25.trans s6).trans s7
        obtain ⟨o, p, dxo, vo, cso, hp, rfl, ho, hOp⟩ := each H7 s27 j y hy
        have hdu7 := s7 _ _ hdu6
        refine ⟨_, rfl, rfl, _, rfl, ?_⟩
        rcases hwv with ⟨rfl, hd⟩ | ⟨rfl, hnd⟩
        · have z2 : (!decide (V.str "too deep" = V.str "too deep")) = false := by rw [decide_eq_true rfl]; rfl
          rw [z2]
          refine iteF ⟨_, _, _, by rw [tk hp, wk_past hd]; rfl, s7, .inl ⟨rfl, ?_⟩⟩
          obtain ⟨p', hp', hd'⟩ := hd
          exact ⟨p', by rw [tk hp]; exact List.mem_append_left _ hp', hd'⟩
        · rw [fr_td]
          refine iteT ⟨_, rfl, o, dxo, _, rfl, ho, rfl, _, rfl, o, _, L, _, _, rows, [p], rfl, rfl, hL1, hL30, hOp, sm, fun H8 t s8 ht => ?_⟩
          have hdu8 := s8 _ _ hdu7
          by_cases hd : Deep rows p L
          · rw [at_one.1 hd] at ht
            refine ⟨_, rfl, t, _, ((0 : Nat) : Int), _, rfl, rfl, .of ht, rfl, rfl, _, rfl, ?_⟩
            have z2 : decide (V.str "too deep" = V.str "too deep") = true := decide_eq_true rfl
            rw [z2]
            refine iteT ⟨_, rfl, _, rfl, t, _, ((1 : Nat) : Int), _, rfl, rfl, .of ht, rfl, _, _, rfl, rfl, _, _, rfl, ?_⟩
            have ew : ((walkK rows (sud rows L) L (F.1.take j) : Nat) : Int) + ((sud rows L p : Nat) : Int) = ((walkK rows (sud rows L) L (F.1.take (j + 1)) : Nat) : Int) := by
              rw [tk hp, wk_snoc hnd hd, wk_plain hnd]
              rfl
            exact ⟨some (.ref o), some (.ref t), "too deep", by rw [← ew]; rfl, s7.trans s8, .inl ⟨rfl, p, by rw [tk hp]; simp, hd⟩⟩
          · rw [at_one.2 hd] at ht
            refine ⟨_, rfl, t, _, ((0 : Nat) : Int), _, rfl, rfl, .of ht, rfl, rfl, _, rfl, ?_⟩
            rw [wst_td]
            refine iteF ⟨_, rfl, du, _, ((0 : Nat) : Int), _, rfl, rfl, .of hdu8, rfl, _, rfl, _, rfl, t, _, ((1 : Nat) : Int), _, rfl, rfl, .of ht, rfl, _, _, rfl, rfl, _, _, rfl, ?_⟩
            have ew : ((walkK rows (sud rows L) L (F.1.take j) : Nat) : Int) + ((stp rows p : Nat) : Int) = ((walkK rows (sud rows L) L (F.1.take (j + 1)) : Nat) : Int) := by
              rw [tk hp, wk_snoc_ne hnd hd, wk_plain hnd]
              rfl
            refine ⟨some (.ref o), some (.ref t), frW F.2, by rw [← ew]; rfl, s7.trans s8, .inr ⟨rfl, fun p' hp' => ?_⟩⟩
            rw [tk hp] at hp'
            rcases List.mem_append.mp hp' with z | z
            · exact hnd p' z
            · rw [List.mem_singleton.mp z]; exact hd
      · rintro σ H7 ⟨o14, o15, wv, rfl, s7, hwv⟩
        rw [List.length_map, los, List.take_of_length_le (Nat.le_refl _)] at hwv ⊢
        have s27 := (s25.trans s6).trans s7
        have hO7 := hO2.same s27
        obtain ⟨⟨dx7, vo7, cs7, ho7, _, _⟩, _⟩ := id hO7
        have ea : atF rows (frW F.2) F.1 L = (wv, walkK rows (sud rows L) L F.1) := by
          rcases hwv with ⟨rfl, hd⟩ | ⟨rfl, hnd⟩
          · exact at_deep hd
          · exact at_not hnd
        have wok : PyData.strOk wv = true := by
          rcases hwv with ⟨rfl, _⟩ | ⟨rfl, _⟩
          · exact td_ok
          · exact fr_ok _
        refine ⟨_, rfl, fo, dx7, _, rfl, ho7, rfl, _, rfl, fo, _, L, _, _, rows, F.1, rfl, rfl, hL1, hL30, hO7, sm, fun H8 t s8 ht => ?_⟩
        rw [ea] at ht
        refine ⟨_, rfl, _, rfl, two, fun t2 ht2 => ?_⟩
        have s9 := same_new (o := .tup [.str wv, .int (walkK rows (sud rows L) L F.1 : Nat)]) ht2
        refine ⟨_, _, .tup (.of (s9 _ _ ht)) (.cons (.str _) (.cons (.int _) .nil)), .tup (.of upd_same) (.cons (.str _) (.cons (.int _) .nil)), two_shaped wok, two_shaped wok, _, rfl, ?_⟩
        rw [two_eqv]
        exact iteF ⟨_, _, _, _, _, rfl, ((s6.trans s7).trans s8).trans s9⟩
end
end Rg
end
section
set_option Elab.async false
set_option linter.all false
/-! Counting by finding again and again. -/
namespace Rg
variable {rows : Rows} {part : Item}
theorem cnt_of : ∀ (as : List Item) (i : Nat) (acc acc' : List Pr) (n : Nat),
    ((fnd rows part as i acc).2 = .endless → (cntg rows part as acc' n).2 = none) ∧ ((fnd rows part as i acc).2 = .absent → (cntg rows part as acc' n).2 = some n) ∧
    (∀ j, (fnd rows part as i acc).2 = .found j → i ≤ j ∧ ∃ acc'', (cntg rows part as acc' n).2 = (cntg rows part (as.drop (j + 1 - i)) acc'' (n + 1)).2)
  | [], i, acc, acc', n => ⟨fun h => (by cases h), fun _ => rfl, fun j h => (by cases h)⟩
  | a :: as, i, acc, acc', n => by
    have go : ∀ (acc2 acc2' : List Pr), (fnd rows part (a :: as) i acc) = fnd rows part as (i + 1) acc2 → (cntg rows part (a :: as) acc' n).2 = (cntg rows part as acc2' n).2 →
        ((fnd rows part (a :: as) i acc).2 = .endless → (cntg rows part (a :: as) acc' n).2 = none) ∧ ((fnd rows part (a :: as) i acc).2 = .absent → (cntg rows part (a :: as) acc' n).2 = some n) ∧
        (∀ j, (fnd rows part (a :: as) i acc).2 = .found j → i ≤ j ∧ ∃ acc'', (cntg rows part (a :: as) acc' n).2 = (cntg rows part ((a :: as).drop (j + 1 - i)) acc'' (n + 1)).2) := by
      intro acc2 acc2' e1 e2
      rw [e1, e2]
      obtain ⟨h1, h2, h3⟩ := cnt_of as (i + 1) acc2 acc2' n
      refine ⟨h1, h2, fun j hj => ?_⟩
      obtain ⟨hij, acc'', e⟩ := h3 j hj
      refine ⟨by omega, acc'', ?_⟩
      rw [e, show j + 1 - i = (j + 1 - (i + 1)) + 1 by omega, List.drop_succ_cons]
    have here : ∀ (acc2' : List Pr), (fnd rows part (a :: as) i acc).2 = .found i → (cntg rows part (a :: as) acc' n).2 = (cntg rows part as acc2' (n + 1)).2 →
        ((fnd rows part (a :: as) i acc).2 = .endless → (cntg rows part (a :: as) acc' n).2 = none) ∧ ((fnd rows part (a :: as) i acc).2 = .absent → (cntg rows part (a :: as) acc' n).2 = some n) ∧
        (∀ j, (fnd rows part (a :: as) i acc).2 = .found j → i ≤ j ∧ ∃ acc'', (cntg rows part (a :: as) acc' n).2 = (cntg rows part ((a :: as).drop (j + 1 - i)) acc'' (n + 1)).2) := by
      intro acc2' e1 e2
      rw [e1, e2]
      refine ⟨fun h => (nomatch h), fun h => (nomatch h), fun j hj => ?_⟩
      have : i = j := by cases hj; rfl
      subst this
      refine ⟨Nat.le_refl _, acc2', ?_⟩
      rw [show i + 1 - i = 0 + 1 by omega, List.drop_succ_cons, List.drop_zero]
    cases hp : pairOf a part with
    | none =>
      by_cases e : a = part
      · exact here acc' (by rw [fnd_none_eq hp e]) (by rw [cnt_none hp, if_pos e])
      · exact go acc acc' (fnd_none_ne hp e) (by rw [cnt_none hp, if_neg e]; rfl)
    | some c =>
      cases hw : (vd rows c).wd with
      | en =>
        rw [fnd_en hp hw, cnt_en hp hw]
        exact ⟨fun _ => rfl, fun h => (nomatch h), fun j h => (nomatch h)⟩
      | eq => exact here (acc' ++ [c]) (by rw [fnd_eq hp hw]) (by rw [cnt_eq hp hw])
      | un => exact go (acc ++ [c]) (acc' ++ [c]) (fnd_un hp hw) (by rw [cnt_un hp hw])
end Rg
end
section
set_option Elab.async false
set_option linter.all false
set_option maxRecDepth 100000
set_option maxHeartbeats 8000000
/-! The law: count, contains, remove are right. -/
namespace Rg
open PySem PySem.Spec PyProof.Rows L2
theorem cutV_drop (xs : List V) (n : Nat) : cutV xs (some (n : Int)) none = xs.drop n := by
  unfold cutV
  rw [HT.sIx_none, HT.sIx_nat]
  by_cases h : n ≤ xs.length
  · rw [Nat.min_eq_left h, List.take_of_length_le (by rw [List.length_drop]; exact Nat.le_refl _)]
  · rw [Nat.min_eq_right (by omega), List.drop_of_length_le (Nat.le_refl _), List.drop_of_length_le (by omega)]
    simp
theorem Paired.drop {α β : Type} {F : α → β → Prop} : ∀ {xs : List α} {ys : List β} (n : Nat), Paired F xs ys → Paired F (xs.drop n) (ys.drop n)
  | _, _, 0, h => h
  | _, _, n + 1, .nil => .nil
  | _, _, n + 1, .cons _ t => Paired.drop n t
theorem items_offS {p : Addr} {xs0 : List V} {H H' : Hp} (o : Off [p] H H') (e : H p = some (.lst xs0)) {vs : List V} {row : List Item} (r : Paired (ItV H) vs row) : Paired (ItV H') vs row := Paired.mapP r fun v it hv => by
  cases it with
  | int i => exact hv
  | str x => exact hv
  | box k => obtain ⟨t, ev, ht⟩ := hv; exact ⟨t, ev, o _ _ (by simpa using ne_of ht e (fun z => nomatch z)) ht⟩
theorem js_items {H : Hp} : ∀ Js : List Nat, Paired (ItV H) (Js.map fun j : Nat => V.int (j : Int)) (Js.map fun j : Nat => Item.int (j : Int))
  | [] => .nil
  | j :: Js => .cons rfl (js_items Js)
theorem fr_found (f : Fr) : decide (V.str (frW f) = V.str "found") = (match f with | .found _ => true | _ => false) := by
  cases f with
  | found i => exact decide_eq_true rfl
  | absent => show decide (V.str "absent" = V.str "found") = false; decide +kernel
  | endless => show decide (V.str "endless" = V.str "found") = false; decide +kernel
section
variable {P : Program} {w : World} {K : PySem.W.Frag} {mg : Str → Option Value} {base : Heap}
def sp_Lall_right (CHa : Addr) : Sp := fun vs H Q _ => ∃ (h : Addr) (zk : Int) (k m : Nat) (x : V) (rows : Rows), vs = [.ref h, .int zk, x] ∧ zk = (k : Int) ∧ HeapAt CHa H h rows ∧ Fit rows ∧ k < rows.length ∧ ItV H x (.box m) ∧ m < rows.length ∧ ∀ H', Same H H' → Q (.bl true) H'
theorem r_Lall_right (T : Tx K mg) : FnR P w K mg base CX0 11 (He.ga K "_law_all_right") (sp_Lall_right (CH K)) := by
  obtain ⟨qa, ga, hpr, hFe⟩ := T.pr_ends
  obtain ⟨fdF, GF⟩ := T.F_find
  obtain ⟨_, FC⟩ := T.F_contains
  refine fnr T.F_Lall_right c_Lall_right (fun vs H Q E h => ?_) (fun _ _ _ _ _ _ us hl => match us, hl with | [_, _, _], _ => rfl) (fun cdv A outer s H vs Q E hr h => ?_)
  · obtain ⟨h, zk, k, m, x, rows, rfl, _⟩ := h; rfl
  · obtain ⟨h, zk, k, m, x, rows, rfl, rfl, hA, fit, hk, hx, hm, q⟩ := h
    have nd := c_Lall_right.nd
    refine ⟨_, pss_cons (ps_par3 (i := 3) (j := 4) (l := 5) rfl nd rfl rfl rfl (by decide) (by decide) (by decide) rfl rfl rfl (pa_cons (pe_lst pa_nil) (pa_cons pe_int (pa_cons (pe_mt (pv 0) T.c_Heap T.m_Heap_look (r_look T) (hr.mono (by decide)) (pa_cons (pv 1) pa_nil)) pa_nil))) (by rfl))
      (pss_cons (ps_set (i := 6) nd rfl (.inl rfl) (pe_fn (r_find0 T) (hr.mono (by decide)) (by rfl) T.g_find (kpq T.F_find) (pa_cons (pv 0) (pa_cons (pv 1) (pa_cons (pv 2) pa_nil)))))
      (pss_mid (ps_while PassesOwn.never (pt_cmpR op_eq (pe_fld (pv 6) rfl) pe_str (nomark _))
        (pss_cons (ps_expr (pe_bm PySem.F.plainAttrs_list PySem.F.slot_list_append PySem.F.type_list_append mt_append (pv 3) (pa_cons (pe_fld (pv 6) rfl) pa_nil)))
        (pss_one (ps_set (i := 6) nd rfl (.inl rfl) (pe_callN (r_find T GF) (hr.mono (by decide)) (by rfl) T.g_find (kpq T.F_find) (b_find1 GF) pass0 (pa_cons (pv 0) (pa_cons (pv 1) (pa_cons (pv 2) pa_nil))) (pk_cons (pe_op op_add (pe_fld (pv 6) rfl) pe_int) pk_nil))))))
      (pss_cons (ps_set (i := 7) nd rfl (.inl rfl) (pe_fn (r_count T) (hr.mono (by decide)) (by rfl) T.g_count (kpq T.F_count) (pa_cons (pv 0) (pa_cons (pv 1) (pa_cons (pv 2) pa_nil)))))
      (pss_cons (ps_if (PW.pt (pw_or (pt_not (pt_val (pe_pr (pv 6) T.c_Outcome hpr (r_ends T hFe) (hr.mono (by decide : 2 ≤ 10))))) (pw_or1 (pt_not (pt_val (pe_pr (pv 7) T.c_Outcome hpr (r_ends T hFe) (hr.mono (by decide : 2 ≤ 10))))))))
        (pss_one (ps_ret (pe_cmpR op_eq (pe_pr (pv 6) T.c_Outcome hpr (r_ends T hFe) (hr.mono (by decide : 2 ≤ 10))) (pe_pr (pv 7) T.c_Outcome hpr (r_ends T hFe) (hr.mono (by decide : 2 ≤ 10))) (nomark _)))) pss_nil)
      (pss_cons (ps_if (PW.pt (pw_or (pt_cmpR op_ne (pe_fld (pv 7) rfl) (pe_callB call_len_seq (by rfl) T.z_len boot_len (pa_cons (pv 3) pa_nil)) (nomark _)) (pw_or1 (pt_cmpR op_ne (pe_fn (r_contains T) hr (by rfl) T.g_contains (kpq T.F_contains) (pa_cons (pv 0) (pa_cons (pv 1) (pa_cons (pv 2) pa_nil)))) (pe_cmpR (op_neD (u64 hr)) (pv 3) (pe_lst pa_nil) (nomark _)) (nomark _))))) pss_never pss_nil)
      (pss_cons (ps_if (pt_cmpR (op_eqD (u64 hr)) (pv 3) (pe_lst pa_nil) (nomark _)) (pss_one (ps_ret pe_bl)) pss_nil)
      (pss_cons (ps_set (i := 8) nd rfl (.inl rfl) (pe_mt0 (pv 0) T.c_Heap T.m_Heap_copy (r_H_copy T) (hr.mono (by decide))))
      (pss_cons (ps_if (pt_cmpR op_ne (pe_fn (r_remove T) hr (by rfl) T.g_remove (kpq T.F_remove) (pa_cons (pv 8) (pa_cons (pv 1) (pa_cons (pv 2) pa_nil)))) (pe_ix ix_list (pv 3) pe_int (fun _ _ => rfl)) (nomark _)) pss_never pss_nil)
      (pss_one (ps_ret (pe_cmpR (op_eqD (u64 hr)) (pe_mt (pv 8) T.c_Heap T.m_Heap_look (r_look T) (hr.mono (by decide)) (pa_cons (pv 1) pa_nil))
        (pe_op op_cat (pe_slice sl_list (pv 5) po_none (po_some (pe_ix ix_list (pv 3) pe_int (fun _ _ => rfl)))) (pe_slice sl_list (pv 5) (po_some (pe_op op_add (pe_ix ix_list (pv 3) pe_int (fun _ _ => rfl)) pe_int)) po_none)) (nomark _)))))))))))), ?_⟩
    have sm := fit.small
    have hrows := List.mem_of_getElem? (rowOf_at hk)
    have l3 : (rowOf rows k).length ≤ 3 := sm.three _ hrows
    obtain ⟨dx, l0, hh, ps, hl, rps⟩ := id hA
    obtain ⟨pr, hpr0, vs0, hvs0, rv0⟩ := row_at rps hk
    have hps : ps[k]? = some pr := by
      rw [List.getElem?_map] at hpr0
      cases e : ps[k]? with
      | none => rw [e] at hpr0; cases hpr0
      | some u => rw [e] at hpr0; cases hpr0; rfl
    have lv0 : vs0.length = (rowOf rows k).length := Paired.length rv0
    have l9 : ∀ k : Nat, k ≤ 4 → k < sizeLine := fun k hk => Nat.lt_of_le_of_lt hk (by decide)
    refine ⟨Nat.zero_le _, fun sp hsp => ?_⟩
    have s1 : Same H (upd H sp (.lst [])) := same_new hsp
    refine ⟨_, rfl, h, dx, _, rfl, s1 _ _ hh, rfl, _, rfl, h, _, k, dx, l0, pr, ps, vs0, rfl, rfl, s1 _ _ hh, s1 _ _ hl, hps, s1 _ _ hvs0, fun rl hrl => ⟨_, _, _, rfl, ?_⟩⟩
    have s12 := s1.trans (same_new (o := .lst vs0) hrl)
    have sprl : sp ≠ rl := fun z => by rw [← z, upd_same] at hrl; cases hrl
    have rlH : H rl = none := s1.free hrl
    have esp2 : upd (upd H sp (.lst [])) rl (.lst vs0) sp = some (.lst []) := by rw [upd_ne sprl]; exact upd_same
    have erl2 : upd (upd H sp (.lst [])) rl (.lst vs0) rl = some (.lst vs0) := upd_same
    generalize hH2 : upd (upd H sp (.lst [])) rl (.lst vs0) = H2 at *
    refine ⟨_, rfl, _, rfl, _, rfl, h, _, _, k, 0, x, .box m, rows, rfl, rfl, rfl, hA.same s12, fit, hk, hx.same s12, hm, Nat.zero_le _, fun H3 fo s3 hO => ?_⟩
    refine ⟨fun σ H' => ∃ (fo : Addr) (f : Fr) (Js : List Nat) (qs : List Pr), σ = [some (.ref h), some (.int (k : Int)), some x, some (.ref sp), some (.int 0), some (.ref rl), some (.ref fo), none, none] ∧ Same H H' ∧ H' sp = some (.lst (Js.map fun j : Nat => V.int (j : Int))) ∧ H' rl = some (.lst vs0) ∧
      OutAt (CV K) (CO K) H' fo (frW f) (frN f) rows qs ∧ ((f = .absent ∧ (cntg rows (.box m) (rowOf rows k) [] 0).2 = some Js.length) ∨ (f = .endless ∧ (cntg rows (.box m) (rowOf rows k) [] 0).2 = none)) ∧
      ((Js = [] ∧ (fnd rows (.box m) (rowOf rows k) 0 []).2 = f) ∨ ∃ j0 Jr, Js = j0 :: Jr ∧ (fnd rows (.box m) (rowOf rows k) 0 []).2 = .found j0) ∧ Js.length ≤ 3, ?_, ?_⟩
    · refine while_m (fun mm σ H' => ∃ (fo : Addr) (sn : Nat) (Js : List Nat), σ = [some (.ref h), some (.int (k : Int)), some x, some (.ref sp), some (.int 0), some (.ref rl), some (.ref fo), none, none] ∧ Same H H' ∧ H' sp = some (.lst (Js.map fun j : Nat => V.int (j : Int))) ∧ H' rl = some (.lst vs0) ∧
        OutAt (CV K) (CO K) H' fo (frW (fnd rows (.box m) ((rowOf rows k).drop sn) sn []).2) (frN (fnd rows (.box m) ((rowOf rows k).drop sn) sn []).2) rows (fnd rows (.box m) ((rowOf rows k).drop sn) sn []).1 ∧ sn ≤ (rowOf rows k).length ∧ mm = (rowOf rows k).length - sn ∧
        (∃ acc, (cntg rows (.box m) (rowOf rows k) [] 0).2 = (cntg rows (.box m) ((rowOf rows k).drop sn) acc Js.length).2) ∧ ((Js = [] ∧ sn = 0) ∨ ∃ j0 Jr, Js = j0 :: Jr ∧ (fnd rows (.box m) (rowOf rows k) 0 []).2 = .found j0) ∧ Js.length ≤ sn)
        ⟨_, fo, 0, [], rfl, s12.trans s3, s3 _ _ esp2, s3 _ _ erl2, hO, Nat.zero_le _, rfl, ⟨[], by rw [List.drop_zero]; rfl⟩, .inl ⟨rfl, rfl⟩, Nat.le_refl _⟩ ?_ (fun σ H Q Q' hq h => by
          obtain ⟨x, e, a, C, dx, fs, w, h1, h2, h3, h4, h5, h6, b, h7, h8⟩ := h
          exact ⟨x, e, a, C, dx, fs, w, h1, h2, h3, h4, h5, h6, b, h7, hq _ _ h8⟩)
      rintro mm σ H' ⟨fo, sn, Js, rfl, sH, hsp', hrl', hO', hsn, rfl, ⟨acc, hc⟩, hJ, lJ⟩
      obtain ⟨⟨dxo, vo, cso, ho, _, _⟩, _⟩ := id hO'
      refine ⟨_, rfl, fo, _, dxo, _, _, rfl, ho, T.c_Outcome, T.n_Outcome_word, ofl_word _ _ _ _ _ _, rfl, _, rfl, ?_⟩
      rw [fr_found]
      obtain ⟨c1, c2, c3⟩ := cnt_of (rows := rows) (part := .box m) ((rowOf rows k).drop sn) sn [] acc Js.length
      have first : ∀ f, (fnd rows (.box m) ((rowOf rows k).drop sn) sn []).2 = f → (Js = [] ∧ (fnd rows (.box m) (rowOf rows k) 0 []).2 = f) ∨ ∃ j0 Jr, Js = j0 :: Jr ∧ (fnd rows (.box m) (rowOf rows k) 0 []).2 = .found j0 := fun f hf => by
        rcases hJ with ⟨e1, e2⟩ | z
        · subst e2
          rw [List.drop_zero] at hf
          exact .inl ⟨e1, hf⟩
        · exact .inr z
      cases hf : (fnd rows (.box m) ((rowOf rows k).drop sn) sn []).2 with
      | found j =>
        rw [hf] at ho
        obtain ⟨hij, acc2, ec⟩ := c3 j hf
        have hjl := (fnd_lt _ _ _ hf).2
        rw [List.length_drop] at hjl
        have hjlt : j < (rowOf rows k).length := by omega
        refine iteT ?_
        have fosp : fo ≠ sp := ne_of ho hsp' (fun z => nomatch z)
        refine ⟨_, rfl, .inl ⟨rfl, _, .of hsp'⟩, _, rfl, fo, _, dxo, _, _, rfl, ho, T.c_Outcome, T.n_Outcome_number, ofl_number _ _ _ _ _ _, sp, _, _, rfl, rfl, hsp', l9 _ (by rw [List.length_map]; omega), ?_⟩
        have s4 : Same H (upd H' sp (.lst ((Js.map fun j : Nat => V.int (j : Int)) ++ [frN (.found j)]))) := same_put sH hsp
        have ho4 : upd H' sp (.lst ((Js.map fun j : Nat => V.int (j : Int)) ++ [frN (.found j)])) fo = some (.ins (CO K) dxo (ofl (frW (.found j)) (frN (.found j)) vo cso (stV (frW (.found j)) rows (fnd rows (.box m) ((rowOf rows k).drop sn) sn []).1) (dpV (frW (.found j)) rows (fnd rows (.box m) ((rowOf rows k).drop sn) sn []).1))) := by rw [upd_ne fosp]; exact ho
        refine ⟨_, rfl, _, rfl, _, rfl, _, rfl, fo, _, dxo, _, _, rfl, ho4, T.c_Outcome, T.n_Outcome_number, ofl_number _ _ _ _ _ _, _, _, rfl, rfl, rfl, rfl, h, _, _, k, j + 1, x, .box m, rows, rfl, rfl, rfl, hA.same s4, fit, hk, hx.same s4, hm, by omega, fun H5 fo5 s5 hO5 => ?_⟩
        refine ⟨_, ?_, fo5, j + 1, Js ++ [j], rfl, s4.trans s5, s5 _ _ (by rw [upd_same, List.map_append]; rfl), s5 _ _ (by rw [upd_ne sprl.symm]; exact hrl'), hO5, by omega, rfl, ⟨acc2, ?_⟩, ?_, by rw [List.length_append, List.length_singleton]; omega⟩
        · omega
        · rw [hc, ec, List.drop_drop, show sn + (j + 1 - sn) = j + 1 by omega, List.length_append, List.length_singleton]
        · rcases first _ hf with ⟨e1, e2⟩ | ⟨j0, Jr, e1, e2⟩
          · exact .inr ⟨j, [], by rw [e1]; rfl, e2⟩
          · exact .inr ⟨j0, Jr ++ [j], by rw [e1]; rfl, e2⟩
      | absent =>
        rw [hf] at hO'
        exact iteF ⟨fo, .absent, Js, _, rfl, sH, hsp', hrl', hO', .inl ⟨rfl, by rw [hc]; exact c2 hf⟩, first _ hf, by omega⟩
      | endless =>
        rw [hf] at hO'
        exact iteF ⟨fo, .endless, Js, _, rfl, sH, hsp', hrl', hO', .inr ⟨rfl, by rw [hc]; exact c1 hf⟩, first _ hf, by omega⟩
    · rintro σ H3 ⟨fo, f, Js, qs, rfl, sH, hsp', hrl', hO', hcnt, hJ, lJ⟩
      generalize hC : cntg rows (.box m) (rowOf rows k) [] 0 = C at *
      refine ⟨_, rfl, _, rfl, _, rfl, h, _, k, x, .box m, rows, rfl, rfl, hA.same sH, fit, hk, hx.same sH, hm, fun H5 ev s5 hE => ?_⟩
      rw [hC] at hE
      have sH5 := sH.trans s5
      have hsp5 := s5 _ _ hsp'
      have hrl5 := s5 _ _ hrl'
      obtain ⟨⟨dxo, vo, cso, ho, _, _⟩, _⟩ := id (hO'.same s5)
      obtain ⟨⟨dxe, ve, cse, he, _, _⟩, _⟩ := id hE
      refine ⟨_, rfl, fo, dxo, _, rfl, ho, fo, dxo, vo, cso, _, _, _, _, rfl, ho, _, rfl, ?_⟩
      rcases hcnt with ⟨rfl, hcnt⟩ | ⟨rfl, hcnt⟩
      · have hne : (fnd rows (.box m) (rowOf rows k) 0 []).2 ≠ .endless := by
          rcases hJ with ⟨_, e⟩ | ⟨_, _, _, e⟩
          · rw [e]; exact fun z => nomatch z
          · rw [e]; exact fun z => nomatch z
        rw [show decide (frW .absent = "endless") = false by show decide (("absent" : Str) = "endless") = false; decide +kernel]
        refine iteF ?_
        rw [hcnt] at he
        refine ⟨_, rfl, ev, dxe, _, rfl, he, ev, dxe, ve, cse, _, _, _, _, rfl, he, _, rfl, ?_⟩
        rw [show decide (cw (some Js.length) = "endless") = false by show decide (("counted" : Str) = "endless") = false; decide +kernel]
        refine iteF ?_
        refine ⟨_, rfl, ev, _, dxe, _, _, rfl, he, T.c_Outcome, T.n_Outcome_number, ofl_number _ _ _ _ _ _, _, rfl, sp, _, rfl, .inl (.of hsp5), rfl, _, rfl, ?_⟩
        have z1 : (!decide (cn (some Js.length) = V.int (((Js.map fun j : Nat => V.int (j : Int)).length : Nat) : Int))) = false := by
          rw [List.length_map, decide_eq_true (show cn (some Js.length) = V.int ((Js.length : Nat) : Int) from rfl)]
          rfl
        rw [z1]
        refine iteF ?_
        refine ⟨_, rfl, _, rfl, _, rfl, h, _, k, x, .box m, rows, rfl, rfl, hA.same sH5, fit, hk, hx.same sH5, hm, hne, fun H6 s6 => ?_⟩
        have hsp6 := s6 _ _ hsp5
        have hrl6 := s6 _ _ hrl5
        have sH6 := sH5.trans s6
        refine ⟨_, rfl, Nat.zero_le _, fun e6 he6 => ?_⟩
        have s7 := same_new (o := .lst []) he6
        have rsp7 : RowAt (upd H6 e6 (.lst [])) sp (Js.map fun j : Nat => Item.int (j : Int)) := ⟨_, s7 _ _ hsp6, js_items Js⟩
        have nil_shaped : SeqAt.shaped (.list ([] : List PyData)) = true := toDs_shaped (H := H) (vs := []) (xs := []) .nil
        refine ⟨_, _, row_dp rsp7, .lst (.of upd_same) .nil, toDs_shaped (js_items (H := H) Js), nil_shaped, rfl, _, rfl, ?_⟩
        rw [show PyData.eqv (.list ((Js.map fun j : Nat => Item.int (j : Int)).map toD)) (.list ([] : List PyData)) = decide ((Js.map fun j : Nat => Item.int (j : Int)) = []) from toD_list _ [], fr_found]
        have z2 : (!decide (V.bl (match (fnd rows (.box m) (rowOf rows k) 0 []).2 with | .found _ => true | _ => false) = V.bl (!decide ((Js.map fun j : Nat => Item.int (j : Int)) = [])))) = false := by
          rcases hJ with ⟨e1, e2⟩ | ⟨j0, Jr, e1, e2⟩
          · rw [e1, e2]; rfl
          · rw [e1, e2]; rfl
        refine ite2 (fun z => absurd (show (!decide (V.bl (match (fnd rows (.box m) (rowOf rows k) 0 []).2 with | .found _ => true | _ => false) = V.bl (!decide ((Js.map fun j : Nat => Item.int (j : Int)) = [])))) = true from z) (by rw [z2]; exact Bool.false_ne_true)) (fun _ => ?_)
        -- if spots == []
        have sH7 := sH6.trans s7
        have hsp7 := s7 _ _ hsp6
        have hrl7 := s7 _ _ hrl6
        refine ⟨_, rfl, Nat.zero_le _, fun e8 he8 => ?_⟩
        have s8 := same_new (o := .lst []) he8
        have rsp8 := rsp7.same s8
        refine ⟨_, _, row_dp rsp8, .lst (.of upd_same) .nil, toDs_shaped (js_items (H := H) Js), nil_shaped, _, rfl, ?_⟩
        rw [show PyData.eqv (.list ((Js.map fun j : Nat => Item.int (j : Int)).map toD)) (.list ([] : List PyData)) = decide ((Js.map fun j : Nat => Item.int (j : Int)) = []) from toD_list _ []]
        have sH8 := sH7.trans s8
        have hsp8 := s8 _ _ hsp7
        have hrl8 := s8 _ _ hrl7
        generalize upd (upd H6 e6 (.lst [])) e8 (.lst []) = H8 at *
        rcases hJ with ⟨rfl, _⟩ | ⟨j0, Jr, rfl, hf0⟩
        · exact iteT (q _ sH8)
        refine ite2 (fun z => absurd (of_decide_eq_true z) (by simp)) (fun _ => ?_)
        refine ⟨_, rfl, h, dx, _, rfl, sH8 _ _ hh, rfl, h, rows, rfl, hA.same sH8, fit, fun H9 oh s9 hN => ?_⟩
        have sH9 := sH8.trans s9
        obtain ⟨dx9, l9', ps9, hoh, hl9, r9⟩ := id hN
        obtain ⟨p9, hp9, hpl, hpn, vs9, hvs9, rv9⟩ := Paired.at_ r9 (rowOf_at hk)
        have lv9 : vs9.length = (rowOf rows k).length := Paired.length rv9
        have sp0 : (((j0 :: Jr).map fun j : Nat => V.int (j : Int)))[0]? = some (V.int (j0 : Int)) := rfl
        refine ⟨_, rfl, _, rfl, _, rfl, oh, _, k, j0, x, .box m, rows, dx9, l9', p9, ps9, vs9, rfl, rfl, hN.at_, fit, hk, hx.same sH9, hm, hoh, hl9, hp9, hvs9, lv9, hf0, fun H10 o10 hv10 => ?_⟩
        have s10 : Same H8 H10 := Off.base s9 o10 fun c hc => by rw [List.mem_singleton.mp hc]; exact hpn
        have sH10 := sH8.trans s10
        have hsp10 := s10 _ _ hsp8
        have hrl10 := s10 _ _ hrl8
        have hoh10 := o10 _ _ (by simpa using ne_of hoh hvs9 (fun z => nomatch z)) hoh
        have hl10 := o10 _ _ (by simpa using hpl.symm) hl9
        refine ⟨_, rfl, sp, _, ((0 : Nat) : Int), _, rfl, rfl, .of hsp10, atI_nat sp0, rfl, _, rfl, ?_⟩
        have z3 : (!decide (V.int (j0 : Int) = V.int (j0 : Int))) = false := by rw [decide_eq_true rfl]; rfl
        rw [z3]
        refine iteF ?_
        refine ⟨_, rfl, oh, dx9, _, rfl, hoh10, rfl, _, rfl, oh, _, k, dx9, l9', p9, ps9, _, rfl, rfl, hoh10, hl10, hp9, hv10, fun ol hol => ?_⟩
        have s11 := same_new (o := .lst (vs9.eraseIdx j0)) hol
        have hrl11 := s11 _ _ hrl10
        have hsp11 := s11 _ _ hsp10
        refine ⟨_, rfl, _, rfl, sp, _, ((0 : Nat) : Int), _, rfl, rfl, .of hsp11, atI_nat sp0, _, rfl, rl, vs0, rfl, .of hrl11, fun c1 hc1 => ?_⟩
        rw [cutV_take]
        have s13 := same_new (o := .lst (vs0.take j0)) hc1
        refine ⟨_, rfl, _, rfl, sp, _, ((0 : Nat) : Int), _, rfl, rfl, .of (s13 _ _ hsp11), atI_nat sp0, _, _, rfl, rfl, _, rfl, rl, vs0, rfl, .of (s13 _ _ hrl11), fun c2 hc2 => ?_⟩
        have ej : ((j0 : Int) + 1) = ((j0 + 1 : Nat) : Int) := by omega
        have ec : cutV vs0 (some ((j0 : Int) + 1)) none = vs0.drop (j0 + 1) := by rw [ej]; exact cutV_drop vs0 (j0 + 1)
        have s14 := same_new (o := .lst (cutV vs0 (some ((j0 : Int) + 1)) none)) hc2
        refine ⟨c1, c2, vs0.take j0, vs0.drop (j0 + 1), rfl, rfl, s14 _ _ upd_same, by rw [← ec]; exact upd_same, ?_, fun c3 hc3 => ?_⟩
        · rw [List.length_take, List.length_drop]
          exact Nat.le_of_lt (l9 _ (by omega))
        have s15 := same_new (o := .lst (vs0.take j0 ++ vs0.drop (j0 + 1))) hc3
        have s1115 := (s13.trans s14).trans s15
        have sAll := (sH10.trans s11).trans s1115
        have rv9' : Paired (ItV H9) (vs9.take j0 ++ vs9.drop (j0 + 1)) ((rowOf rows k).take j0 ++ (rowOf rows k).drop (j0 + 1)) := Paired.app (Paired.take j0 rv9) (Paired.drop (j0 + 1) rv9)
        have rv10 : Paired (ItV H10) (vs9.take j0 ++ vs9.drop (j0 + 1)) ((rowOf rows k).take j0 ++ (rowOf rows k).drop (j0 + 1)) := items_offS o10 hvs9 rv9'
        have hol15 := s1115 _ _ (upd_same (H := H10) (a := ol) (o := .lst (vs9.eraseIdx j0)))
        have ee : vs9.eraseIdx j0 = vs9.take j0 ++ vs9.drop (j0 + 1) := List.eraseIdx_eq_take_drop_succ ..
        have rv10e : Paired (ItV H10) (vs9.eraseIdx j0) ((rowOf rows k).take j0 ++ (rowOf rows k).drop (j0 + 1)) := by rw [ee]; exact rv10
        have d1 : Dp K _ (.ref ol) (.list (((rowOf rows k).take j0 ++ (rowOf rows k).drop (j0 + 1)).map toD)) := row_dp ⟨_, hol15, Paired.mapP rv10e fun _ _ z => (z.same s11).same s1115⟩
        have rv0' : Paired (ItV H) (vs0.take j0 ++ vs0.drop (j0 + 1)) ((rowOf rows k).take j0 ++ (rowOf rows k).drop (j0 + 1)) := Paired.app (Paired.take j0 rv0) (Paired.drop (j0 + 1) rv0)
        refine ⟨_, _, d1, row_dp ⟨_, upd_same, Paired.mapP rv0' fun _ _ z => z.same sAll⟩, toDs_shaped rv0', toDs_shaped rv0', ?_⟩
        rw [toD_list, decide_eq_true rfl]
        exact q _ sAll
      · rw [show decide (frW .endless = "endless") = true from decide_eq_true rfl]
        refine iteT (iteT ?_)
        rw [hcnt] at he
        refine ⟨_, rfl, fo, dxo, _, rfl, ho, fo, dxo, vo, cso, _, _, _, _, rfl, ho, _, rfl, ev, dxe, _, rfl, he, ev, dxe, ve, cse, _, _, _, _, rfl, he, rfl, ?_⟩
        have z9 : decide (V.bl (!decide (frW .endless = "endless")) = V.bl (!decide (cw none = "endless"))) = true := decide_eq_true rfl
        rw [z9]
        exact q _ sH5
end
end Rg
end
section
set_option Elab.async false
set_option linter.all false
set_option maxRecDepth 100000
set_option maxHeartbeats 8000000
/-! The law. -/
namespace Rg
open PySem PySem.Spec PyProof.Rows L2
theorem HeapNew.cut_ {C : Addr} {H H' : Hp} {h b : Addr} {rows : Rows} {A B : Int} (x : HeapNew C H H' h rows) (e : H b = some (.lst [.int A, .int B])) (e' : H' b = some (.lst [.int A, .int B])) : HeapAt C (cut [b] H') h rows := by
  obtain ⟨dx, l, ps, a1, a2, r⟩ := x
  have hb : h ∉ [b] := by simpa using ne_of a1 e' (fun z => nomatch z)
  have lb : l ∉ [b] := by
    refine fun z => ?_
    rw [List.mem_singleton.mp z, e'] at a2
    cases ps with
    | nil => exact nomatch a2
    | cons p ps => exact nomatch a2
  refine ⟨dx, l, cut_of hb a1, ps, cut_of lb a2, Paired.mapP r fun p row z => ?_⟩
  obtain ⟨_, p0, vs, hvs, rv⟩ := z
  refine ⟨vs, cut_of (fun z => ?_) hvs, Paired.mapP rv fun v it hv => ?_⟩
  · rw [List.mem_singleton.mp z, e] at p0; cases p0
  · cases it with
    | int i => exact hv
    | str x => exact hv
    | box k => obtain ⟨t, ev, ht⟩ := hv; exact ⟨t, ev, cut_of (by simpa using ne_of ht e' (fun z => nomatch z)) ht⟩
theorem bag_tup {H : Hp} {b t : Addr} {xs : List V} (h : BagAt H b) (e : H t = some (.tup xs)) : t ∉ [b] := by
  obtain ⟨A, B, e2, _⟩ := h
  exact fun z => by rw [List.mem_singleton.mp z, e2] at e; cases e
section
variable {P : Program} {w : World} {K : PySem.W.Frag} {mg : Str → Option Value} {base : Heap}
def sp_law (K : PySem.W.Frag) (n : Nat) : Sp := fun vs H Q _ => ∃ (a : Addr) (ns : List Int), vs = [.ref a] ∧ SqL K H a (ns.map V.int) ∧ ns.length ≤ n ∧ ∀ H', Q (.bl true) H'
theorem r_law (T : Tx K mg) (n : Nat) : FnG P w K mg base 12 (He.ga K "law") (sp_law K n) := by
  refine fng T.F_law c_law (fun vs H Q E h => ?_) (fun _ _ _ _ _ _ us hl => match us, hl with | [_], _ => rfl) (fun cdv A outer s H vs Q hgd hr h => ?_)
  · obtain ⟨a, ns, rfl, _⟩ := h; rfl
  · obtain ⟨sc, ns, rfl, hS, hn, q⟩ := h
    have nd := c_law.nd
    refine ⟨_, pss_cons (ps_for PassesOwn.never rfl (pi_range1 (by rfl) T.z_range (pa_cons (pe_callB (call_max2 rfl) (by rfl) T.z_max boot_max (pa_cons pe_int (pa_cons (pe_callB (call_min2 rfl) (by rfl) T.z_min boot_min (pa_cons pe_int (pa_cons (pe_callB call_len_seq (by rfl) T.z_len boot_len (pa_cons (pv 0) pa_nil)) pa_nil))) pa_nil))) pa_nil)) (pg_name (i := 1) nd rfl (.inl rfl))
        (pss_cons (ps_set (i := 2) nd rfl (.inl rfl) (pe_fn (r_Lbag T) (hr.mono (by decide)) (by rfl) T.g_Lbag (kpq T.F_Lbag) (pa_cons (pv 0) (pa_cons (pv 1) pa_nil))))
        (pss_cons (ps_set (i := 3) nd rfl (.inl rfl) (pe_fn (r_Ltwofold T) (hr.mono (by decide)) (by rfl) T.g_Ltwofold (kpq T.F_Ltwofold) (pa_cons (pv 2) (pa_cons pe_int pa_nil))))
        (pss_cons (ps_set (i := 4) nd rfl (.inl rfl) (pe_fn (r_Lheap T) (hr.mono (by decide)) (by rfl) T.g_Lheap (kpq T.F_Lheap) (pa_cons (pv 3) pa_nil)))
        (pss_one (ps_for PassesOwn.never rfl (pi_range1 (by rfl) T.z_range (pa_cons pe_int pa_nil)) (pg_name (i := 5) nd rfl (.inl rfl))
          (pss_cons (ps_par (i := 6) (j := 7) rfl nd rfl rfl (by decide) rfl rfl (pa_cons (pe_fn (r_Ltake T) (hr.mono (by decide)) (by rfl) T.g_Ltake (kpq T.F_Ltake) (pa_cons (pv 2) (pa_cons (pe_callB call_len_seq (by rfl) T.z_len boot_len (pa_cons (pv 3) pa_nil)) pa_nil)))
              (pa_cons (pe_tup (pa_cons pe_str (pa_cons (pe_fn (r_Ltake T) (hr.mono (by decide)) (by rfl) T.g_Ltake (kpq T.F_Ltake) (pa_cons (pv 2) (pa_cons (pe_callB call_len_seq (by rfl) T.z_len boot_len (pa_cons (pv 3) pa_nil)) pa_nil))) pa_nil))) pa_nil)) (by rfl))
          (pss_cons (ps_set (i := 8) nd rfl (.inl rfl) (pe_fn (r_Ltake T) (hr.mono (by decide)) (by rfl) T.g_Ltake (kpq T.F_Ltake) (pa_cons (pv 2) (pa_cons (pe_op op_add (pe_callB call_len_seq (by rfl) T.z_len boot_len (pa_cons (pe_ix ix_list (pv 3) (pv 6) (fun _ _ => rfl)) pa_nil)) pe_int) pa_nil))))
          (pss_cons (ps_set (i := 9) nd rfl (.inl rfl) (pe_lst (pa_cons pe_int (pa_cons pe_int (pa_cons (pe_op op_add pe_int (pe_fn (r_Ltake T) (hr.mono (by decide)) (by rfl) T.g_Ltake (kpq T.F_Ltake) (pa_cons (pv 2) (pa_cons pe_int pa_nil))))
              (pa_cons (pe_op op_add pe_int (pe_fn (r_Ltake T) (hr.mono (by decide)) (by rfl) T.g_Ltake (kpq T.F_Ltake) (pa_cons (pv 2) (pa_cons (pe_op op_pow pe_int pe_int) pa_nil)))) pa_nil))))))
          (pss_one (ps_if (PW.pt (pw_or (pt_not (pt_val (pe_fnG (r_Lfind_right T) hgd hr (by rfl) T.g_Lfind_right (kpq T.F_Lfind_right) (pa_cons (pv 4) (pa_cons (pv 6) (pa_cons (pv 7) (pa_cons (pv 8) (pa_cons (pv 9) pa_nil))))))))
              (pw_or1 (pt_not (pt_val (pe_fn (r_Lall_right T) hr (by rfl) T.g_Lall_right (kpq T.F_Lall_right) (pa_cons (pv 4) (pa_cons (pv 6) (pa_cons (pv 7) pa_nil)))))))))
            (pss_one (ps_ret pe_bl)) pss_nil)))))))))))
      (pss_one (ps_ret pe_bl)), ?_⟩
    refine ⟨_, rfl, sc, _, rfl, .inl hS, _, _, rfl, _, _, rfl, ?_⟩
    obtain ⟨M, eM, hM⟩ : ∃ M : Nat, (if (if (((ns.map V.int).length : Nat) : Int) < 5 then (((ns.map V.int).length : Nat) : Int) else 5) > 2 then (if (((ns.map V.int).length : Nat) : Int) < 5 then (((ns.map V.int).length : Nat) : Int) else 5) else 2) = (M : Int) ∧ M ≤ 5 := by
      generalize (ns.map V.int).length = L
      refine ⟨max 2 (min 5 L), ?_, by omega⟩
      split <;> split at * <;> omega
    rw [eM]
    refine ⟨_, rfl, by omega, by omega, ?_⟩
    refine for_range (fun i σ H' => ∃ (o1 o2 o3 o4 o5 o6 o7 o8 o9 : Option V), σ = [some (.ref sc), o1, o2, o3, o4, o5, o6, o7, o8, o9] ∧ Same H H') ⟨_, _, _, _, _, _, _, _, _, rfl, Same.refl H⟩ ?_ ?_
    · rintro i σ H0 hi ⟨o1, o2, o3, o4, o5, o6, o7, o8, o9, rfl, s0⟩
      refine ⟨_, rfl, _, rfl, sc, ns, _, i, rfl, by omega, by omega, s0.seq hS, fun H1 b s1 hbf hb1 => ?_⟩
      refine ⟨_, rfl, b, rfl, hb1, fun H2 a rows o12 hb2 hT fit n2 => ?_⟩
      refine ⟨_, rfl, a, rows, rfl, hT.same cut_same, fit, fun H3 h s23 hN => ?_⟩
      obtain ⟨A2, B2, eb2, _⟩ := id hb2
      have hA3 := hN.cut_ eb2 (s23 _ _ eb2)
      have hb3 := hb2.same s23
      have s03 : Same H H3 := Off.base (s0.trans s1) (o12.trans (Off.same s23)) fun c hc => by rw [List.mem_singleton.mp hc]; exact s0.free hbf
      have ten := fit.ten
      refine ⟨_, rfl, by decide, by decide, ?_⟩
      refine for_range (fun j σ H' => ∃ (o5 o6 o7 o8 o9 : Option V), σ = [some (.ref sc), some (.int ((0 : Int) + (i : Nat))), some (.ref b), some (.ref a), some (.ref h), o5, o6, o7, o8, o9] ∧ Off [b] H3 H' ∧ BagAt H' b) ⟨_, _, _, _, _, rfl, Off.refl, hb3⟩ ?_ ?_
      · rintro j σ H4 hj ⟨o5, o6, o7, o8, o9, rfl, o34, hb4⟩
        have T_ : ∀ {H' : Hp}, Off [b] H4 H' → TabAt H' a rows := fun {H'} o => hT.same (same_cut (((Off.same s23).trans o34).trans o))
        have A_ : ∀ {H' : Hp}, Off [b] H4 H' → HeapAt (CH K) H' h rows := fun {H'} o => hA3.same (same_cut (o34.trans o))
        obtain ⟨ps4, hl4, r4⟩ := T_ (Off.refl (S := [b]) (H := H4))
        have lps4 : (ps4.map V.ref).length = rows.length := by rw [List.length_map]; exact Paired.length r4
        have two200 : (11 : Int) < 2 ^ 200 := by decide
        refine ⟨_, rfl, _, rfl, a, _, rfl, .inl (.of hl4), b, _, rfl, hb4, by omega, by omega, fun H5 r1 o45 hb5 r10 r11 => ?_⟩
        obtain ⟨k, rfl⟩ : ∃ n : Nat, r1 = (n : Int) := ⟨r1.toNat, by omega⟩
        obtain ⟨ps5, hl5, r5⟩ := T_ o45
        have lps5 : (ps5.map V.ref).length = rows.length := by rw [List.length_map]; exact Paired.length r5
        refine ⟨_, rfl, _, rfl, a, _, rfl, .inl (.of hl5), b, _, rfl, hb5, by omega, by omega, fun H6 r2 o56 hb6 r20 r21 => ?_⟩
        obtain ⟨m, rfl⟩ : ∃ n : Nat, r2 = (n : Int) := ⟨r2.toNat, by omega⟩
        have hk : k < rows.length := by omega
        have hm : m < rows.length := by omega
        refine ⟨by show 2 ≤ sizeLine; decide, fun t ht => ⟨.int (k : Int), .ref t, rfl, ?_⟩⟩
        have o46 := o45.trans o56
        have s6 := same_new (o := .tup [.str "box", .int (m : Int)]) ht
        have o46' := o46.trans (Off.same s6)
        have hb6' := hb6.same s6
        have ht6 : upd H6 t (.tup [.str "box", .int (m : Int)]) t = some (.tup [.str "box", .int (m : Int)]) := upd_same
        generalize upd H6 t (.tup [.str "box", .int (m : Int)]) = H6' at *
        obtain ⟨ps6, hl6, r6⟩ := T_ o46'
        obtain ⟨p, hp6, vs, hvs, rv⟩ := row_at r6 hk
        have lvs : vs.length = (rowOf rows k).length := Paired.length rv
        have l3 : (rowOf rows k).length ≤ 3 := fit.three _ (List.mem_of_getElem? (rowOf_at hk))
        refine ⟨_, rfl, _, rfl, _, rfl, a, _, (k : Int), _, rfl, rfl, .of hl6, atI_nat hp6, p, vs, rfl, .inl (.of hvs), _, _, rfl, rfl, b, _, rfl, hb6', by omega, by omega, fun H7 r3 o67 hb7 r30 r31 => ?_⟩
        obtain ⟨sn, rfl⟩ : ∃ n : Nat, r3 = (n : Int) := ⟨r3.toNat, by omega⟩
        have hsn : sn ≤ (rowOf rows k).length := by omega
        have ht7 := o67 _ _ (bag_tup hb6' ht6) ht6
        refine ⟨_, rfl, b, _, rfl, hb7, by decide, by decide, fun H8 r4 o78 hb8 r40 r41 => ?_⟩
        obtain ⟨n4, rfl⟩ : ∃ n : Nat, r4 = (n : Int) := ⟨r4.toNat, by omega⟩
        have ht8 := o78 _ _ (bag_tup hb7 ht7) ht7
        refine ⟨_, _, rfl, rfl, _, rfl, _, _, rfl, rfl, ⟨by decide, by decide, by decide⟩, b, _, rfl, hb8, by decide, by decide, fun H9 r5 o89 hb9 r50 r51 => ?_⟩
        have ht9 := o89 _ _ (bag_tup hb8 ht8) ht8
        obtain ⟨n5, rfl⟩ : ∃ n : Nat, r5 = (n : Int) := ⟨r5.toNat, by omega⟩
        have b5 : (n5 : Int) < 10 ^ 30 := r51
        refine ⟨_, _, rfl, rfl, by show 4 ≤ sizeLine; decide, fun la hla => ?_⟩
        have s9 := same_new (o := .lst [.int 1, .int 2, .int (1 + (n4 : Int)), .int (1 + (n5 : Int))]) hla
        have o49 := (((o46'.trans o67).trans o78).trans o89).trans (Off.same s9)
        have eL : [V.int 1, .int 2, .int (1 + (n4 : Int)), .int (1 + (n5 : Int))] = ([1, 2, n4 + 1, n5 + 1] : List Nat).map fun L : Nat => V.int (L : Int) := by
          show _ = [V.int ((1 : Nat) : Int), V.int ((2 : Nat) : Int), V.int ((n4 + 1 : Nat) : Int), V.int ((n5 + 1 : Nat) : Int)]
          rw [show ((n4 + 1 : Nat) : Int) = 1 + (n4 : Int) by omega, show ((n5 + 1 : Nat) : Int) = 1 + (n5 : Int) by omega]
          rfl
        have hla9 : upd H9 la (.lst [.int 1, .int 2, .int (1 + (n4 : Int)), .int (1 + (n5 : Int))]) la = some (.lst (([1, 2, n4 + 1, n5 + 1] : List Nat).map fun L : Nat => V.int (L : Int))) := by rw [← eL]; exact upd_same
        have hb10 := hb9.same s9
        have ht10 := s9 _ _ ht9
        generalize upd H9 la (.lst [.int 1, .int 2, .int (1 + (n4 : Int)), .int (1 + (n5 : Int))]) = H10 at *
        refine ⟨_, rfl, _, rfl, _, rfl, _, rfl, _, rfl, h, (k : Int), (sn : Int), k, sn, m, .ref t, la, [1, 2, n4 + 1, n5 + 1], rows, rfl, rfl, rfl, A_ o49, fit, hk, ⟨t, rfl, ht10⟩, hm, hsn, hla9, ?_, fun H11 s11 => ?_⟩
        · intro L hL
          have e30 : (10 : Int) ^ 30 = ((10 ^ 30 : Nat) : Int) := by decide
          rw [e30] at b5
          simp only [List.mem_cons, List.not_mem_nil, or_false] at hL
          rcases hL with rfl | rfl | rfl | rfl
          · exact ⟨by decide, by decide⟩
          · exact ⟨by decide, by decide⟩
          · exact ⟨by omega, Nat.le_trans (show n4 + 1 ≤ 10 by omega) (by decide)⟩
          · exact ⟨by omega, by have := Int.ofNat_lt.mp b5; omega⟩
        refine ⟨_, rfl, iteF ?_⟩
        have o411 := o49.trans (Off.same s11)
        refine ⟨_, rfl, _, rfl, _, rfl, h, (k : Int), k, m, .ref t, rows, rfl, rfl, A_ o411, fit, hk, ⟨t, rfl, s11 _ _ ht10⟩, hm, fun H12 s12 => ?_⟩
        refine ⟨_, rfl, iteF ?_⟩
        exact ⟨_, _, _, _, _, rfl, o34.trans (o411.trans (Off.same s12)), (hb10.same s11).same s12⟩
      · rintro σ H5 ⟨o5, o6, o7, o8, o9, rfl, o35, hb5⟩
        exact ⟨_, _, _, _, _, _, _, _, _, rfl, Off.base s03 o35 fun c hc => by rw [List.mem_singleton.mp hc]; exact s0.free hbf⟩
    · rintro σ H' ⟨o1, o2, o3, o4, o5, o6, o7, o8, o9, rfl, s⟩
      exact q H'
end
end Rg
end
section
set_option Elab.async false
set_option linter.all false
set_option maxRecDepth 100000
set_option maxHeartbeats 0
open PySem PySem.W PySem.Calls PyProof.Rows
theorem PySem.Challenge.cw_ringlists_k31_whole_searches_by_comparin_holds : PySem.Challenge.rw_ringlists_k31_whole_searches_by_comparin.Holds := by
  w_on; o_law
  refine HandSHeadRun.head_any (r := OpenLaw.row PySem.Challenge.rw_ringlists_k31_whole_searches_by_comparin) (q := view (OpenLaw.row PySem.Challenge.rw_ringlists_k31_whole_searches_by_comparin).prog [60]) (H := Rg.hk) (ob := Rg.ob) (M := 6000) (loose := Rg.loose) (d := HandSHeadRun.topDef (OpenLaw.row PySem.Challenge.rw_ringlists_k31_whole_searches_by_comparin).prog 60) (kwd := []) Rg.ob_eq
    (by kernel_rfl) (fun s => by kernel_rfl) Rg.run (by kernel_rfl) (by kernel_rfl) (by kernel_rfl) (by rfl) (by first | assumption | decide +kernel) (by decide +kernel) ⟨rfl, rfl, rfl, rfl, rfl, by decide +kernel⟩ ?hw ?hc
  case hw => w_witness2
  case hc =>
    refine Rg.walk_ofG (l := PySem.Challenge.rw_ringlists_k31_whole_searches_by_comparin) (n := 63) (k := 12) rfl (by decide) (by kernel_rfl) ⟨rfl, by decide, by decide⟩ ?F
    intro w mg fa h Y G hmg0
    obtain ⟨K, KX, c⟩ := Y
    have hmg : mg ("law" : PySem.Str) = some (.ref fa) := by
      have e : (HandSHeadRun.topDef (OpenLaw.row PySem.Challenge.rw_ringlists_k31_whole_searches_by_comparin).prog 60).name = ("law" : PySem.Str) := by kernel_rfl
      rw [← e]
      exact hmg0
    have T : Rg.Tx K mg := Rg.tx_of KX G c
    have e := hmg.symm.trans T.g_law
    cases e
    exact ⟨K, Rg.sp_law K 63, KX, fun H a ns hl _ hS => ⟨a, ns, rfl, hS, hl, fun _ => rfl⟩, fun base _ _ => Rg.r_law T 63⟩
end
