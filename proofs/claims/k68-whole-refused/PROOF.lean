import PyProof.Rows.All
import Wide.All
import OpenK.AllK
import Wide.FinOn
import KE.KStateDown
import KE.SortData
import HandS.ForMost
import HandS.ForExc
import HandS.TryMany
import HandS.Defaults
import HandS.MakeKwOnly
import HandS.IsInst
import HandS.ExcInit
import HandS.ExcField
import HandS.ExcIs
import HandS.SortInts
import HandS.TupAny
import HandS.Wide
import HandS.WideBits
import HandS.RaiseMore
import HandS.HotCalls
import HandS.Small
import HandS.Head0
import HandS.Head1
import HandS.Head2
import HandS.HeadEnd
import HandS.HeadHook1
import HandS.HeadHook2
import PySem.Challenge.RW_beadtrees_k68_whole_refused
import KE.KExcIs
import HandS.Walk
import KE.DataMinMax
import HandS.More
import KE.KDictZip
import HandS.Conv
import HandS.Text
import HandS.Zip0
import HandS.Style
import PyProof.ReprRoads
import PyProof.ReprBulk
import KE.KCallOwn
import Lean
set_option Elab.async false
set_option linter.all false
set_option maxRecDepth 100000
set_option maxHeartbeats 0
namespace Bt
open PySem PySem.Spec PyProof.Rows L2
def topS (i : Nat) : Stmt := PySem.Challenge.pw_beadtrees_k68_whole_refused.main.body.getD i (.Pass ⟨0, 0, 0, 0⟩)
def dd (at_ : Str × Option Str) (name qual : Str) (st : Stmt) (dfl : List He.Dv) (kwd : List (Str × He.Dv)) : He.DefD := ⟨at_, name, qual, defArgs st, defBody st, defScope st, dfl, kwd⟩
def fdAt (K : PySem.W.Frag) (f : Addr) : FuncData := match K.lookup f with
  | some ⟨_, _, .func fd, _⟩ => fd
  | _ => ⟨"", "", { posonlyargs := [], args := [], vararg := none, kwonlyargs := [], kw_defaults := [], kwarg := none, defaults := [] }, .stmts [], { kind := .function, names := [], isGenerator := false, isCoroutine := false, more := [] }, 0, [], .none, .none, .none, .none, none, .none, .none, 0⟩
theorem fdAt_eq {K : PySem.W.Frag} {f : Addr} {x qual : Str} {params : Arguments} {body : List Stmt} {scope : Scope} {dvs : List V} {kws : List (Str × V)} (h : ∃ fd, FunD K x qual params body scope dvs kws f fd) : FunD K x qual params body scope dvs kws f (fdAt K f) := by
  obtain ⟨fd, F⟩ := h
  obtain ⟨oc, od, dV, kV, doc, pm, an, cdv, ct, osl, e, l, r⟩ := F.ex
  have e2 : fdAt K f = fd := by
    unfold fdAt
    rw [l]
  rw [e2]
  exact F
/-- a def's promise -/
abbrev FO (P : Program) (w : World) (K : PySem.W.Frag) (mg : Str → Option Value) (base : Heap) (CX : CXT) (k : Nat) (f : Addr) (ps : List Str) (sp : Sp) : Prop := FnOk P w K mg base CX k f (fdAt K f) ps sp

abbrev s_NoBeadU_initU : Stmt := inClass (topS 13) 0
abbrev a_NoBeadU_initU (K : PySem.W.Frag) : Addr := He.fAd K ("NoBead", some "__init__")
abbrev s_FullU_initU : Stmt := inClass (topS 14) 0
abbrev a_FullU_initU (K : PySem.W.Frag) : Addr := He.fAd K ("Full", some "__init__")
abbrev s_is_whole : Stmt := topS 18
abbrev a_is_whole (K : PySem.W.Frag) : Addr := He.fAd K ("is_whole", none)
abbrev s_is_name : Stmt := topS 19
abbrev a_is_name (K : PySem.W.Frag) : Addr := He.fAd K ("is_name", none)
abbrev s_is_bead : Stmt := topS 20
abbrev a_is_bead (K : PySem.W.Frag) : Addr := He.fAd K ("is_bead", none)
abbrev s_is_row : Stmt := topS 21
abbrev a_is_row (K : PySem.W.Frag) : Addr := He.fAd K ("is_row", none)
abbrev s_want_row : Stmt := topS 22
abbrev a_want_row (K : PySem.W.Frag) : Addr := He.fAd K ("want_row", none)
abbrev s_trees_of : Stmt := topS 23
abbrev a_trees_of (K : PySem.W.Frag) : Addr := He.fAd K ("trees_of", none)
abbrev s_begun_at : Stmt := topS 24
abbrev a_begun_at (K : PySem.W.Frag) : Addr := He.fAd K ("begun_at", none)
abbrev s_least : Stmt := topS 25
abbrev a_least (K : PySem.W.Frag) : Addr := He.fAd K ("least", none)
abbrev s_are_one_ring : Stmt := topS 26
abbrev a_are_one_ring (K : PySem.W.Frag) : Addr := He.fAd K ("are_one_ring", none)
abbrev s_is_place : Stmt := topS 28
abbrev a_is_place (K : PySem.W.Frag) : Addr := He.fAd K ("is_place", none)
abbrev s_want_place : Stmt := topS 29
abbrev a_want_place (K : PySem.W.Frag) : Addr := He.fAd K ("want_place", none)
abbrev s_wants_from : Stmt := topS 30
abbrev a_wants_from (K : PySem.W.Frag) : Addr := He.fAd K ("wants_from", none)
abbrev s_arc_from : Stmt := topS 31
abbrev a_arc_from (K : PySem.W.Frag) : Addr := He.fAd K ("arc_from", none)
abbrev s_arc_arcs : Stmt := topS 32
abbrev a_arc_arcs (K : PySem.W.Frag) : Addr := He.fAd K ("arc_arcs", none)
abbrev s_children_of : Stmt := topS 35
abbrev a_children_of (K : PySem.W.Frag) : Addr := He.fAd K ("children_of", none)
abbrev s_parents_of : Stmt := topS 36
abbrev a_parents_of (K : PySem.W.Frag) : Addr := He.fAd K ("parents_of", none)
abbrev s_children_kin : Stmt := topS 37
abbrev a_children_kin (K : PySem.W.Frag) : Addr := He.fAd K ("children_kin", none)
abbrev s_parents : Stmt := topS 39
abbrev a_parents (K : PySem.W.Frag) : Addr := He.fAd K ("parents", none)
abbrev s_row_text : Stmt := topS 41
abbrev a_row_text (K : PySem.W.Frag) : Addr := He.fAd K ("row_text", none)
abbrev s_is_count : Stmt := topS 43
abbrev a_is_count (K : PySem.W.Frag) : Addr := He.fAd K ("is_count", none)
abbrev s_moves_between : Stmt := topS 44
abbrev a_moves_between (K : PySem.W.Frag) : Addr := He.fAd K ("moves_between", none)
abbrev s_RingU_initU : Stmt := inClass (topS 45) 0
abbrev a_RingU_initU (K : PySem.W.Frag) : Addr := He.fAd K ("Ring", some "__init__")
abbrev s_RingU_strU : Stmt := inClass (topS 45) 3
abbrev a_RingU_strU (K : PySem.W.Frag) : Addr := He.fAd K ("Ring", some "__str__")
abbrev s_Ring_chain : Stmt := inClass (topS 45) 5
abbrev a_Ring_chain (K : PySem.W.Frag) : Addr := He.fAd K ("Ring", some "chain")
abbrev s_Ring_place : Stmt := inClass (topS 45) 6
abbrev a_Ring_place (K : PySem.W.Frag) : Addr := He.fAd K ("Ring", some "place")
abbrev s_Ring_kin : Stmt := inClass (topS 45) 7
abbrev a_Ring_kin (K : PySem.W.Frag) : Addr := He.fAd K ("Ring", some "kin")
abbrev s_Ring_numbers : Stmt := inClass (topS 45) 8
abbrev a_Ring_numbers (K : PySem.W.Frag) : Addr := He.fAd K ("Ring", some "numbers")
abbrev s_Ring_bead : Stmt := inClass (topS 45) 9
abbrev a_Ring_bead (K : PySem.W.Frag) : Addr := He.fAd K ("Ring", some "bead")
abbrev s_Ring_row : Stmt := inClass (topS 45) 10
abbrev a_Ring_row (K : PySem.W.Frag) : Addr := He.fAd K ("Ring", some "row")
abbrev s_Ring_trees : Stmt := inClass (topS 45) 11
abbrev a_Ring_trees (K : PySem.W.Frag) : Addr := He.fAd K ("Ring", some "trees")
abbrev s_Ring_parent : Stmt := inClass (topS 45) 13
abbrev a_Ring_parent (K : PySem.W.Frag) : Addr := He.fAd K ("Ring", some "parent")
abbrev s_Ring_children : Stmt := inClass (topS 45) 14
abbrev a_Ring_children (K : PySem.W.Frag) : Addr := He.fAd K ("Ring", some "children")
abbrev s_Ring_arc : Stmt := inClass (topS 45) 15
abbrev a_Ring_arc (K : PySem.W.Frag) : Addr := He.fAd K ("Ring", some "arc")
abbrev s_Ring_deeds : Stmt := inClass (topS 45) 16
abbrev a_Ring_deeds (K : PySem.W.Frag) : Addr := He.fAd K ("Ring", some "deeds")
abbrev s_Ring_limit : Stmt := inClass (topS 45) 17
abbrev a_Ring_limit (K : PySem.W.Frag) : Addr := He.fAd K ("Ring", some "limit")
abbrev s_Ring_done : Stmt := inClass (topS 45) 18
abbrev a_Ring_done (K : PySem.W.Frag) : Addr := He.fAd K ("Ring", some "done")
abbrev s_Ring_exchange : Stmt := inClass (topS 45) 20
abbrev a_Ring_exchange (K : PySem.W.Frag) : Addr := He.fAd K ("Ring", some "exchange")
abbrev s_Ring_run_of : Stmt := inClass (topS 45) 21
abbrev a_Ring_run_of (K : PySem.W.Frag) : Addr := He.fAd K ("Ring", some "run_of")
abbrev s_Ring_slide : Stmt := inClass (topS 45) 22
abbrev a_Ring_slide (K : PySem.W.Frag) : Addr := He.fAd K ("Ring", some "slide")
abbrev s_Ring_with_arms : Stmt := inClass (topS 45) 24
abbrev a_Ring_with_arms (K : PySem.W.Frag) : Addr := He.fAd K ("Ring", some "with_arms")
abbrev s_Ring_loosen : Stmt := inClass (topS 45) 25
abbrev a_Ring_loosen (K : PySem.W.Frag) : Addr := He.fAd K ("Ring", some "loosen")
abbrev s_Ring_bind : Stmt := inClass (topS 45) 26
abbrev a_Ring_bind (K : PySem.W.Frag) : Addr := He.fAd K ("Ring", some "bind")
abbrev s_Ring_take : Stmt := inClass (topS 45) 27
abbrev a_Ring_take (K : PySem.W.Frag) : Addr := He.fAd K ("Ring", some "take")
abbrev s_Ring_put : Stmt := inClass (topS 45) 28
abbrev a_Ring_put (K : PySem.W.Frag) : Addr := He.fAd K ("Ring", some "put")
abbrev s_without : Stmt := topS 47
abbrev a_without (K : PySem.W.Frag) : Addr := He.fAd K ("without", none)
abbrev s_put_behind : Stmt := topS 48
abbrev a_put_behind (K : PySem.W.Frag) : Addr := He.fAd K ("put_behind", none)
abbrev s_Grove_with_arm_moved : Stmt := inClass (topS 49) 1
abbrev a_Grove_with_arm_moved (K : PySem.W.Frag) : Addr := He.fAd K ("Grove", some "with_arm_moved")
abbrev s_Grove_top_of : Stmt := inClass (topS 49) 2
abbrev a_Grove_top_of (K : PySem.W.Frag) : Addr := He.fAd K ("Grove", some "top_of")
abbrev s_Grove_ahead_of_child : Stmt := inClass (topS 49) 3
abbrev a_Grove_ahead_of_child (K : PySem.W.Frag) : Addr := He.fAd K ("Grove", some "ahead_of_child")
abbrev s_Grove_graft : Stmt := inClass (topS 49) 4
abbrev a_Grove_graft (K : PySem.W.Frag) : Addr := He.fAd K ("Grove", some "graft")
abbrev s_Grove_uproot : Stmt := inClass (topS 49) 5
abbrev a_Grove_uproot (K : PySem.W.Frag) : Addr := He.fAd K ("Grove", some "uproot")
abbrev s_Grove_bud : Stmt := inClass (topS 49) 6
abbrev a_Grove_bud (K : PySem.W.Frag) : Addr := He.fAd K ("Grove", some "bud")
abbrev s_Grove_nip : Stmt := inClass (topS 49) 7
abbrev a_Grove_nip (K : PySem.W.Frag) : Addr := He.fAd K ("Grove", some "nip")
abbrev s_Grove_swap : Stmt := inClass (topS 49) 8
abbrev a_Grove_swap (K : PySem.W.Frag) : Addr := He.fAd K ("Grove", some "swap")
abbrev s_row_from : Stmt := topS 51
abbrev a_row_from (K : PySem.W.Frag) : Addr := He.fAd K ("row_from", none)
abbrev s_row_behind : Stmt := topS 52
abbrev a_row_behind (K : PySem.W.Frag) : Addr := He.fAd K ("row_behind", none)
abbrev s_joined : Stmt := topS 53
abbrev a_joined (K : PySem.W.Frag) : Addr := He.fAd K ("joined", none)
abbrev s_split : Stmt := topS 54
abbrev a_split (K : PySem.W.Frag) : Addr := He.fAd K ("split", none)
abbrev s__law_pot : Stmt := topS 56
abbrev a__law_pot (K : PySem.W.Frag) : Addr := He.fAd K ("_law_pot", none)
abbrev s__law_draw : Stmt := topS 57
abbrev a__law_draw (K : PySem.W.Frag) : Addr := He.fAd K ("_law_draw", none)
abbrev s__law_trees : Stmt := topS 58
abbrev a__law_trees (K : PySem.W.Frag) : Addr := He.fAd K ("_law_trees", none)
abbrev s__law_name : Stmt := topS 59
abbrev a__law_name (K : PySem.W.Frag) : Addr := He.fAd K ("_law_name", none)
abbrev s__law_row : Stmt := topS 60
abbrev a__law_row (K : PySem.W.Frag) : Addr := He.fAd K ("_law_row", none)
abbrev s__law_arc : Stmt := topS 61
abbrev a__law_arc (K : PySem.W.Frag) : Addr := He.fAd K ("_law_arc", none)
abbrev s__law_grown : Stmt := topS 62
abbrev a__law_grown (K : PySem.W.Frag) : Addr := He.fAd K ("_law_grown", none)
abbrev s__law_read : Stmt := topS 63
abbrev a__law_read (K : PySem.W.Frag) : Addr := He.fAd K ("_law_read", none)
abbrev s__law_is_whole : Stmt := topS 64
abbrev a__law_is_whole (K : PySem.W.Frag) : Addr := He.fAd K ("_law_is_whole", none)
abbrev s__law_order : Stmt := topS 65
abbrev a__law_order (K : PySem.W.Frag) : Addr := He.fAd K ("_law_order", none)
abbrev s__law_is_count : Stmt := topS 66
abbrev a__law_is_count (K : PySem.W.Frag) : Addr := He.fAd K ("_law_is_count", none)
abbrev s__law_is_bead : Stmt := topS 67
abbrev a__law_is_bead (K : PySem.W.Frag) : Addr := He.fAd K ("_law_is_bead", none)
abbrev s__law_number : Stmt := topS 68
abbrev a__law_number (K : PySem.W.Frag) : Addr := He.fAd K ("_law_number", none)
abbrev s__law_count : Stmt := topS 69
abbrev a__law_count (K : PySem.W.Frag) : Addr := He.fAd K ("_law_count", none)
abbrev s__law_word : Stmt := topS 70
abbrev a__law_word (K : PySem.W.Frag) : Addr := He.fAd K ("_law_word", none)
abbrev s__law_is_name : Stmt := topS 71
abbrev a__law_is_name (K : PySem.W.Frag) : Addr := He.fAd K ("_law_is_name", none)
abbrev s__law_first_none : Stmt := topS 72
abbrev a__law_first_none (K : PySem.W.Frag) : Addr := He.fAd K ("_law_first_none", none)
abbrev s__law_due_graft : Stmt := topS 73
abbrev a__law_due_graft (K : PySem.W.Frag) : Addr := He.fAd K ("_law_due_graft", none)
abbrev s__law_due_bud : Stmt := topS 74
abbrev a__law_due_bud (K : PySem.W.Frag) : Addr := He.fAd K ("_law_due_bud", none)
abbrev s__law_due_of_one : Stmt := topS 75
abbrev a__law_due_of_one (K : PySem.W.Frag) : Addr := He.fAd K ("_law_due_of_one", none)
abbrev s__law_due_swap : Stmt := topS 76
abbrev a__law_due_swap (K : PySem.W.Frag) : Addr := He.fAd K ("_law_due_swap", none)
abbrev s__law_due_split : Stmt := topS 77
abbrev a__law_due_split (K : PySem.W.Frag) : Addr := He.fAd K ("_law_due_split", none)
abbrev s__law_due : Stmt := topS 78
abbrev a__law_due (K : PySem.W.Frag) : Addr := He.fAd K ("_law_due", none)
abbrev s__law_drawn : Stmt := topS 79
abbrev a__law_drawn (K : PySem.W.Frag) : Addr := He.fAd K ("_law_drawn", none)
abbrev s__law_call : Stmt := topS 80
abbrev a__law_call (K : PySem.W.Frag) : Addr := He.fAd K ("_law_call", none)
abbrev s__law_said_of : Stmt := topS 81
abbrev a__law_said_of (K : PySem.W.Frag) : Addr := He.fAd K ("_law_said_of", none)
abbrev s__law_said : Stmt := topS 82
abbrev a__law_said (K : PySem.W.Frag) : Addr := He.fAd K ("_law_said", none)
abbrev s__law_state : Stmt := topS 83
abbrev a__law_state (K : PySem.W.Frag) : Addr := He.fAd K ("_law_state", none)
abbrev s__law_unmade : Stmt := topS 84
abbrev a__law_unmade (K : PySem.W.Frag) : Addr := He.fAd K ("_law_unmade", none)
abbrev s__law_none_made : Stmt := topS 85
abbrev a__law_none_made (K : PySem.W.Frag) : Addr := He.fAd K ("_law_none_made", none)
abbrev s__law_hung : Stmt := topS 86
abbrev a__law_hung (K : PySem.W.Frag) : Addr := He.fAd K ("_law_hung", none)
abbrev s__law_asked : Stmt := topS 87
abbrev a__law_asked (K : PySem.W.Frag) : Addr := He.fAd K ("_law_asked", none)
abbrev s__law_own_refused : Stmt := topS 88
abbrev a__law_own_refused (K : PySem.W.Frag) : Addr := He.fAd K ("_law_own_refused", none)
abbrev s_law : Stmt := topS 89
abbrev a_law (K : PySem.W.Frag) : Addr := He.fAd K ("law", none)
def fn0 : List He.DefD := [
  dd ("NoBead", some "__init__") "__init__" "NoBead.__init__" s_NoBeadU_initU [] [],
  dd ("Full", some "__init__") "__init__" "Full.__init__" s_FullU_initU [] [],
  dd ("is_whole", none) "is_whole" "is_whole" s_is_whole [] [],
  dd ("is_name", none) "is_name" "is_name" s_is_name [] [],
  dd ("is_bead", none) "is_bead" "is_bead" s_is_bead [] [],
  dd ("is_row", none) "is_row" "is_row" s_is_row [] [],
  dd ("want_row", none) "want_row" "want_row" s_want_row [] [],
  dd ("trees_of", none) "trees_of" "trees_of" s_trees_of [] [],
  dd ("begun_at", none) "begun_at" "begun_at" s_begun_at [] [],
  dd ("least", none) "least" "least" s_least [] [],
  dd ("are_one_ring", none) "are_one_ring" "are_one_ring" s_are_one_ring [] [],
  dd ("is_place", none) "is_place" "is_place" s_is_place [] [],
  dd ("want_place", none) "want_place" "want_place" s_want_place [] [],
  dd ("wants_from", none) "wants_from" "wants_from" s_wants_from [] [],
  dd ("arc_from", none) "arc_from" "arc_from" s_arc_from [] [],
  dd ("arc_arcs", none) "arc" "arc" s_arc_arcs [] [],
  dd ("children_of", none) "children_of" "children_of" s_children_of [] [],
  dd ("parents_of", none) "parents_of" "parents_of" s_parents_of [] [],
  dd ("children_kin", none) "children" "children" s_children_kin [] [],
  dd ("parents", none) "parents" "parents" s_parents [] [],
  dd ("row_text", none) "row_text" "row_text" s_row_text [] [],
  dd ("is_count", none) "is_count" "is_count" s_is_count [] [],
  dd ("moves_between", none) "moves_between" "moves_between" s_moves_between [] [],
  dd ("Ring", some "__init__") "__init__" "Ring.__init__" s_RingU_initU [] [("most", .int 100)],
  dd ("Ring", some "__str__") "__str__" "Ring.__str__" s_RingU_strU [] [],
  dd ("Ring", some "chain") "chain" "Ring.chain" s_Ring_chain [] [],
  dd ("Ring", some "place") "place" "Ring.place" s_Ring_place [] [],
  dd ("Ring", some "kin") "kin" "Ring.kin" s_Ring_kin [] [],
  dd ("Ring", some "numbers") "numbers" "Ring.numbers" s_Ring_numbers [] [],
  dd ("Ring", some "bead") "bead" "Ring.bead" s_Ring_bead [] []]
def fn1 : List He.DefD := [
  dd ("Ring", some "row") "row" "Ring.row" s_Ring_row [] [("first", .non)],
  dd ("Ring", some "trees") "trees" "Ring.trees" s_Ring_trees [] [],
  dd ("Ring", some "parent") "parent" "Ring.parent" s_Ring_parent [] [],
  dd ("Ring", some "children") "children" "Ring.children" s_Ring_children [] [],
  dd ("Ring", some "arc") "arc" "Ring.arc" s_Ring_arc [] [],
  dd ("Ring", some "deeds") "deeds" "Ring.deeds" s_Ring_deeds [] [],
  dd ("Ring", some "limit") "limit" "Ring.limit" s_Ring_limit [] [],
  dd ("Ring", some "done") "done" "Ring.done" s_Ring_done [] [],
  dd ("Ring", some "exchange") "exchange" "Ring.exchange" s_Ring_exchange [] [],
  dd ("Ring", some "run_of") "run_of" "Ring.run_of" s_Ring_run_of [] [],
  dd ("Ring", some "slide") "slide" "Ring.slide" s_Ring_slide [] [("turned", .bl false)],
  dd ("Ring", some "with_arms") "with_arms" "Ring.with_arms" s_Ring_with_arms [] [],
  dd ("Ring", some "loosen") "loosen" "Ring.loosen" s_Ring_loosen [] [],
  dd ("Ring", some "bind") "bind" "Ring.bind" s_Ring_bind [] [],
  dd ("Ring", some "take") "take" "Ring.take" s_Ring_take [] [],
  dd ("Ring", some "put") "put" "Ring.put" s_Ring_put [.int 0] [],
  dd ("without", none) "without" "without" s_without [] [],
  dd ("put_behind", none) "put_behind" "put_behind" s_put_behind [] [],
  dd ("Grove", some "with_arm_moved") "with_arm_moved" "Grove.with_arm_moved" s_Grove_with_arm_moved [] [],
  dd ("Grove", some "top_of") "top_of" "Grove.top_of" s_Grove_top_of [] [],
  dd ("Grove", some "ahead_of_child") "ahead_of_child" "Grove.ahead_of_child" s_Grove_ahead_of_child [] [],
  dd ("Grove", some "graft") "graft" "Grove.graft" s_Grove_graft [] [],
  dd ("Grove", some "uproot") "uproot" "Grove.uproot" s_Grove_uproot [] [],
  dd ("Grove", some "bud") "bud" "Grove.bud" s_Grove_bud [] [],
  dd ("Grove", some "nip") "nip" "Grove.nip" s_Grove_nip [] [],
  dd ("Grove", some "swap") "swap" "Grove.swap" s_Grove_swap [] [],
  dd ("row_from", none) "row_from" "row_from" s_row_from [] [],
  dd ("row_behind", none) "row_behind" "row_behind" s_row_behind [] [],
  dd ("joined", none) "joined" "joined" s_joined [] [],
  dd ("split", none) "split" "split" s_split [] []]
def fn2 : List He.DefD := [
  dd ("_law_pot", none) "_law_pot" "_law_pot" s__law_pot [] [],
  dd ("_law_draw", none) "_law_draw" "_law_draw" s__law_draw [] [],
  dd ("_law_trees", none) "_law_trees" "_law_trees" s__law_trees [] [],
  dd ("_law_name", none) "_law_name" "_law_name" s__law_name [] [],
  dd ("_law_row", none) "_law_row" "_law_row" s__law_row [] [],
  dd ("_law_arc", none) "_law_arc" "_law_arc" s__law_arc [] [],
  dd ("_law_grown", none) "_law_grown" "_law_grown" s__law_grown [] [],
  dd ("_law_read", none) "_law_read" "_law_read" s__law_read [] [],
  dd ("_law_is_whole", none) "_law_is_whole" "_law_is_whole" s__law_is_whole [] [],
  dd ("_law_order", none) "_law_order" "_law_order" s__law_order [] [],
  dd ("_law_is_count", none) "_law_is_count" "_law_is_count" s__law_is_count [] [],
  dd ("_law_is_bead", none) "_law_is_bead" "_law_is_bead" s__law_is_bead [] [],
  dd ("_law_number", none) "_law_number" "_law_number" s__law_number [] [],
  dd ("_law_count", none) "_law_count" "_law_count" s__law_count [] [],
  dd ("_law_word", none) "_law_word" "_law_word" s__law_word [] [],
  dd ("_law_is_name", none) "_law_is_name" "_law_is_name" s__law_is_name [] [],
  dd ("_law_first_none", none) "_law_first_none" "_law_first_none" s__law_first_none [] [],
  dd ("_law_due_graft", none) "_law_due_graft" "_law_due_graft" s__law_due_graft [] [],
  dd ("_law_due_bud", none) "_law_due_bud" "_law_due_bud" s__law_due_bud [] [],
  dd ("_law_due_of_one", none) "_law_due_of_one" "_law_due_of_one" s__law_due_of_one [] [],
  dd ("_law_due_swap", none) "_law_due_swap" "_law_due_swap" s__law_due_swap [] [],
  dd ("_law_due_split", none) "_law_due_split" "_law_due_split" s__law_due_split [] [],
  dd ("_law_due", none) "_law_due" "_law_due" s__law_due [] [],
  dd ("_law_drawn", none) "_law_drawn" "_law_drawn" s__law_drawn [] [],
  dd ("_law_call", none) "_law_call" "_law_call" s__law_call [] [],
  dd ("_law_said_of", none) "_law_said_of" "_law_said_of" s__law_said_of [] [],
  dd ("_law_said", none) "_law_said" "_law_said" s__law_said [] [],
  dd ("_law_state", none) "_law_state" "_law_state" s__law_state [] [],
  dd ("_law_unmade", none) "_law_unmade" "_law_unmade" s__law_unmade [] [],
  dd ("_law_none_made", none) "_law_none_made" "_law_none_made" s__law_none_made [] []]
def fn3 : List He.DefD := [
  dd ("_law_hung", none) "_law_hung" "_law_hung" s__law_hung [] [],
  dd ("_law_asked", none) "_law_asked" "_law_asked" s__law_asked [] [],
  dd ("_law_own_refused", none) "_law_own_refused" "_law_own_refused" s__law_own_refused [] [],
  dd ("law", none) "law" "law" s_law [] []]
def fn : List He.DefD := fn0 ++ (fn1 ++ (fn2 ++ (fn3)))
def gloL0 : List PySem.Str := ["BeadError", "NoRow", "NoPlace", "NoNumber", "NoName", "NoRun", "NoArm", "NoTree", "Within", "NoParent", "HasArms", "NoBead", "Full", "is_whole", "is_name", "is_bead", "is_row", "want_row", "trees_of", "begun_at", "least", "are_one_ring", "is_place", "want_place", "wants_from", "arc_from", "arc", "arc_arcs", "children_of", "parents_of"]
def gloL1 : List PySem.Str := ["children", "children_kin", "parents", "row_text", "is_count", "moves_between", "Ring", "without", "put_behind", "Grove", "row_from", "row_behind", "joined", "split", "_law_pot", "_law_draw", "_law_trees", "_law_name", "_law_row", "_law_arc", "_law_grown", "_law_read", "_law_is_whole", "_law_order", "_law_is_count", "_law_is_bead", "_law_number", "_law_count", "_law_word", "_law_is_name"]
def gloL2 : List PySem.Str := ["_law_first_none", "_law_due_graft", "_law_due_bud", "_law_due_of_one", "_law_due_swap", "_law_due_split", "_law_due", "_law_drawn", "_law_call", "_law_said_of", "_law_said", "_law_state", "_law_unmade", "_law_none_made", "_law_hung", "_law_asked", "_law_own_refused", "law"]
def gloL : List PySem.Str := gloL0 ++ (gloL1 ++ (gloL2))
def freeL0 : List PySem.Str := ["ValueError", "all", "bool", "dict", "divmod", "enumerate", "int", "isinstance", "len", "list", "max", "min", "range", "repr", "sorted", "str", "sum", "tuple", "zip"]
def freeL : List PySem.Str := freeL0
def rmethL0 : List PySem.Str := ["__str__", "chain", "place", "kin", "numbers", "bead", "row", "trees", "parent", "children", "arc", "deeds", "limit", "done", "exchange", "run_of", "slide", "with_arms", "loosen", "bind", "take", "put"]
def rmethL : List PySem.Str := rmethL0
def gmethL0 : List PySem.Str := ["with_arm_moved", "top_of", "ahead_of_child", "graft", "uproot", "bud", "nip", "swap"]
def gmethL : List PySem.Str := gmethL0
def excL0 : List PySem.Str := ["NoRow", "NoPlace", "NoNumber", "NoName", "NoRun", "NoArm", "NoTree", "Within", "NoParent", "HasArms"]
def excL : List PySem.Str := excL0
def exL0 : List PySem.Str := ["NoRow", "NoPlace", "NoNumber", "NoName", "NoRun", "NoArm", "NoTree", "Within", "NoParent", "HasArms", "NoBead", "Full"]
def exL : List PySem.Str := exL0
def ownL0 : List PySem.Str := ["NoBead", "Full"]
def ownL : List PySem.Str := ownL0
def attrL0 : List PySem.Str := ["order", "held", "coming", "history", "room"]
def attrL : List PySem.Str := attrL0
def IsRing (K : PySem.W.Frag) (C : Addr) : Prop := C = He.ga K "Ring" ∨ C = He.ga K "Grove"

/-- what the top leaves, as the walks lean on it -/
structure Txt (K : PySem.W.Frag) (mg : Str → Option Value) : Prop where
  fns : ∀ d ∈ fn, ∃ fd, FunD K d.name d.qual d.params d.body d.scope (d.dvs K) (d.kws K) (He.fAd K d.at_) fd
  glo : ∀ x ∈ gloL, mg x = some (.ref (He.ga K x))
  free : ∀ x ∈ freeL, mg x = none
  letters : ∃ t, mg "LETTERS" = some (.str "abcdefghijklmnopqrstuvwxyz" t)
  most : ∃ t, mg "MOST" = some (.int 100 t)
  exc : ∀ x ∈ excL, PySem.W.excIn K (He.ga K x) He.veBase "ValueError.__new__" = true ∧ PySem.W.keepIn K (.ref (He.ga K x)) = true ∧ PySem.W.subIn K (.ref (He.ga K x)) (.type "BaseException") = some true ∧ PySem.W.typeIn K (.ref (He.ga K x)) = some (.type "type")
  cls : ∀ {C : Addr}, IsRing K C → Cls K C
  nat : ∀ {C : Addr}, IsRing K C → ∀ f ∈ attrL, NoAttr K C f
  mt : ∀ {C : Addr}, IsRing K C → ∀ m ∈ rmethL, Meth K C m (He.fAd K ("Ring", some m))
  mg : ∀ m ∈ gmethL, Meth K (He.ga K "Grove") m (He.fAd K ("Grove", some m))
  mkR : Mk K (He.ga K "Ring") (a_RingU_initU K)
  mkG : Mk K (He.ga K "Grove") (a_RingU_initU K)
  own : ∀ x ∈ ownL, OexC K (He.ga K x) ∧ PySem.W.findIn K (.ref (He.ga K x)) "__init__" = some (some (.ref (He.fAd K (x, some "__init__")))) ∧ PySem.W.typeIn K (.ref (He.fAd K (x, some "__init__"))) = some (.type "function")
  fth : PySem.W.findIn K (.ref (He.ga K "NoBead")) "thing" = some none
  fmo : PySem.W.findIn K (.ref (He.ga K "Full")) "most" = some none
  exf : ∀ x ∈ exL, ExcC K (He.ga K x)
  exm : ∀ x ∈ exL, PySem.W.exmOne K (.ref (He.ga K x)) (.ref (He.ga K "BeadError")) = some true
  exo : ∀ x ∈ exL, ∀ y ∈ exL, PySem.W.kitOne K (.ref (He.ga K x)) (.ref (He.ga K y)) = some (decide (x = y))
  exv : ∀ x ∈ exL, PySem.W.kitOne K (.ref (He.ga K x)) (.type "ValueError") = some true
  er1 : PySem.W.exmOne K (.ref (He.ga K "NoRow")) (.ref (He.ga K "NoRow")) = some true
  er2 : PySem.W.exmOne K (.ref (He.ga K "NoNumber")) (.ref (He.ga K "NoRow")) = some false
  er3 : PySem.W.exmOne K (.ref (He.ga K "NoNumber")) (.ref (He.ga K "NoNumber")) = some true
  be1 : PySem.W.findCls K (.ref (He.ga K "BeadError")) (.type "type") "__init__" = some (.val (.builtin "ValueError.__init__"))
  be2 : PySem.W.readsIn K (He.ga K "BeadError") (.type "type") = true
  be3 : PySem.W.specialIn K (.ref (He.ga K "BeadError")) "__getattribute__" = some (some (.builtin "type.__getattribute__"))
  xf1 : XfC K (He.ga K "NoBead")
  xf2 : XfC K (He.ga K "Full")
section
variable {K : PySem.W.Frag} {mg : Str → Option Value}
theorem Txt.d_NoBeadU_initU (T : Txt K mg) : FunD K "__init__" "NoBead.__init__" (defArgs s_NoBeadU_initU) (defBody s_NoBeadU_initU) (defScope s_NoBeadU_initU) [] [] (a_NoBeadU_initU K) (fdAt K (a_NoBeadU_initU K)) := fdAt_eq (T.fns _ (List.mem_of_getElem? (i := 0) (show fn[0]? = some (dd ("NoBead", some "__init__") "__init__" "NoBead.__init__" s_NoBeadU_initU [] []) from rfl)))
theorem sc_NoBeadU_initU : FnScope ["self", "thing"] ["self", "thing"] (defScope s_NoBeadU_initU) := ⟨rfl, rfl, rfl, by decide +kernel, rfl, by decide +kernel, by decide +kernel⟩
theorem Txt.b_NoBeadU_initU (T : Txt K mg) : Binds K (fdAt K (a_NoBeadU_initU K)) ["self", "thing"] [] := T.d_NoBeadU_initU.bindsN fun _ _ _ _ _ _ us hl => match us, hl with | [_, _], _ => rfl
theorem Txt.d_FullU_initU (T : Txt K mg) : FunD K "__init__" "Full.__init__" (defArgs s_FullU_initU) (defBody s_FullU_initU) (defScope s_FullU_initU) [] [] (a_FullU_initU K) (fdAt K (a_FullU_initU K)) := fdAt_eq (T.fns _ (List.mem_of_getElem? (i := 1) (show fn[1]? = some (dd ("Full", some "__init__") "__init__" "Full.__init__" s_FullU_initU [] []) from rfl)))
theorem sc_FullU_initU : FnScope ["self", "most"] ["self", "most"] (defScope s_FullU_initU) := ⟨rfl, rfl, rfl, by decide +kernel, rfl, by decide +kernel, by decide +kernel⟩
theorem Txt.b_FullU_initU (T : Txt K mg) : Binds K (fdAt K (a_FullU_initU K)) ["self", "most"] [] := T.d_FullU_initU.bindsN fun _ _ _ _ _ _ us hl => match us, hl with | [_, _], _ => rfl
theorem Txt.d_is_whole (T : Txt K mg) : FunD K "is_whole" "is_whole" (defArgs s_is_whole) (defBody s_is_whole) (defScope s_is_whole) [] [] (a_is_whole K) (fdAt K (a_is_whole K)) := fdAt_eq (T.fns _ (List.mem_of_getElem? (i := 2) (show fn[2]? = some (dd ("is_whole", none) "is_whole" "is_whole" s_is_whole [] []) from rfl)))
theorem sc_is_whole : FnScope ["thing"] ["thing"] (defScope s_is_whole) := ⟨rfl, rfl, rfl, by decide +kernel, rfl, by decide +kernel, by decide +kernel⟩
theorem Txt.b_is_whole (T : Txt K mg) : Binds K (fdAt K (a_is_whole K)) ["thing"] [] := T.d_is_whole.bindsN fun _ _ _ _ _ _ us hl => match us, hl with | [_], _ => rfl
theorem Txt.d_is_name (T : Txt K mg) : FunD K "is_name" "is_name" (defArgs s_is_name) (defBody s_is_name) (defScope s_is_name) [] [] (a_is_name K) (fdAt K (a_is_name K)) := fdAt_eq (T.fns _ (List.mem_of_getElem? (i := 3) (show fn[3]? = some (dd ("is_name", none) "is_name" "is_name" s_is_name [] []) from rfl)))
theorem sc_is_name : FnScope ["thing", "sign"] ["thing"] (defScope s_is_name) := ⟨rfl, rfl, rfl, by decide +kernel, rfl, by decide +kernel, by decide +kernel⟩
theorem Txt.b_is_name (T : Txt K mg) : Binds K (fdAt K (a_is_name K)) ["thing"] [] := T.d_is_name.bindsN fun _ _ _ _ _ _ us hl => match us, hl with | [_], _ => rfl
theorem Txt.d_is_bead (T : Txt K mg) : FunD K "is_bead" "is_bead" (defArgs s_is_bead) (defBody s_is_bead) (defScope s_is_bead) [] [] (a_is_bead K) (fdAt K (a_is_bead K)) := fdAt_eq (T.fns _ (List.mem_of_getElem? (i := 4) (show fn[4]? = some (dd ("is_bead", none) "is_bead" "is_bead" s_is_bead [] []) from rfl)))
theorem sc_is_bead : FnScope ["thing", "name", "many"] ["thing"] (defScope s_is_bead) := ⟨rfl, rfl, rfl, by decide +kernel, rfl, by decide +kernel, by decide +kernel⟩
theorem Txt.b_is_bead (T : Txt K mg) : Binds K (fdAt K (a_is_bead K)) ["thing"] [] := T.d_is_bead.bindsN fun _ _ _ _ _ _ us hl => match us, hl with | [_], _ => rfl
theorem Txt.d_is_row (T : Txt K mg) : FunD K "is_row" "is_row" (defArgs s_is_row) (defBody s_is_row) (defScope s_is_row) [] [] (a_is_row K) (fdAt K (a_is_row K)) := fdAt_eq (T.fns _ (List.mem_of_getElem? (i := 5) (show fn[5]? = some (dd ("is_row", none) "is_row" "is_row" s_is_row [] []) from rfl)))
theorem sc_is_row : FnScope ["thing", "bead", "name", "many"] ["thing"] (defScope s_is_row) := ⟨rfl, rfl, rfl, by decide +kernel, rfl, by decide +kernel, by decide +kernel⟩
theorem Txt.b_is_row (T : Txt K mg) : Binds K (fdAt K (a_is_row K)) ["thing"] [] := T.d_is_row.bindsN fun _ _ _ _ _ _ us hl => match us, hl with | [_], _ => rfl
theorem Txt.d_want_row (T : Txt K mg) : FunD K "want_row" "want_row" (defArgs s_want_row) (defBody s_want_row) (defScope s_want_row) [] [] (a_want_row K) (fdAt K (a_want_row K)) := fdAt_eq (T.fns _ (List.mem_of_getElem? (i := 6) (show fn[6]? = some (dd ("want_row", none) "want_row" "want_row" s_want_row [] []) from rfl)))
theorem sc_want_row : FnScope ["thing"] ["thing"] (defScope s_want_row) := ⟨rfl, rfl, rfl, by decide +kernel, rfl, by decide +kernel, by decide +kernel⟩
theorem Txt.b_want_row (T : Txt K mg) : Binds K (fdAt K (a_want_row K)) ["thing"] [] := T.d_want_row.bindsN fun _ _ _ _ _ _ us hl => match us, hl with | [_], _ => rfl
theorem Txt.d_trees_of (T : Txt K mg) : FunD K "trees_of" "trees_of" (defArgs s_trees_of) (defBody s_trees_of) (defScope s_trees_of) [] [] (a_trees_of K) (fdAt K (a_trees_of K)) := fdAt_eq (T.fns _ (List.mem_of_getElem? (i := 7) (show fn[7]? = some (dd ("trees_of", none) "trees_of" "trees_of" s_trees_of [] []) from rfl)))
theorem sc_trees_of : FnScope ["row", "beads", "name", "many"] ["row"] (defScope s_trees_of) := ⟨rfl, rfl, rfl, by decide +kernel, rfl, by decide +kernel, by decide +kernel⟩
theorem Txt.b_trees_of (T : Txt K mg) : Binds K (fdAt K (a_trees_of K)) ["row"] [] := T.d_trees_of.bindsN fun _ _ _ _ _ _ us hl => match us, hl with | [_], _ => rfl
theorem Txt.d_begun_at (T : Txt K mg) : FunD K "begun_at" "begun_at" (defArgs s_begun_at) (defBody s_begun_at) (defScope s_begun_at) [] [] (a_begun_at K) (fdAt K (a_begun_at K)) := fdAt_eq (T.fns _ (List.mem_of_getElem? (i := 8) (show fn[8]? = some (dd ("begun_at", none) "begun_at" "begun_at" s_begun_at [] []) from rfl)))
theorem sc_begun_at : FnScope ["beads", "place"] ["beads", "place"] (defScope s_begun_at) := ⟨rfl, rfl, rfl, by decide +kernel, rfl, by decide +kernel, by decide +kernel⟩
theorem Txt.b_begun_at (T : Txt K mg) : Binds K (fdAt K (a_begun_at K)) ["beads", "place"] [] := T.d_begun_at.bindsN fun _ _ _ _ _ _ us hl => match us, hl with | [_, _], _ => rfl
theorem Txt.d_least (T : Txt K mg) : FunD K "least" "least" (defArgs s_least) (defBody s_least) (defScope s_least) [] [] (a_least K) (fdAt K (a_least K)) := fdAt_eq (T.fns _ (List.mem_of_getElem? (i := 9) (show fn[9]? = some (dd ("least", none) "least" "least" s_least [] []) from rfl)))
theorem sc_least : FnScope ["row", "beads", "place"] ["row"] (defScope s_least) := ⟨rfl, rfl, rfl, by decide +kernel, rfl, by decide +kernel, by decide +kernel⟩
theorem Txt.b_least (T : Txt K mg) : Binds K (fdAt K (a_least K)) ["row"] [] := T.d_least.bindsN fun _ _ _ _ _ _ us hl => match us, hl with | [_], _ => rfl
theorem Txt.d_are_one_ring (T : Txt K mg) : FunD K "are_one_ring" "are_one_ring" (defArgs s_are_one_ring) (defBody s_are_one_ring) (defScope s_are_one_ring) [] [] (a_are_one_ring K) (fdAt K (a_are_one_ring K)) := fdAt_eq (T.fns _ (List.mem_of_getElem? (i := 10) (show fn[10]? = some (dd ("are_one_ring", none) "are_one_ring" "are_one_ring" s_are_one_ring [] []) from rfl)))
theorem sc_are_one_ring : FnScope ["one", "other", "beads", "others"] ["one", "other"] (defScope s_are_one_ring) := ⟨rfl, rfl, rfl, by decide +kernel, rfl, by decide +kernel, by decide +kernel⟩
theorem Txt.b_are_one_ring (T : Txt K mg) : Binds K (fdAt K (a_are_one_ring K)) ["one", "other"] [] := T.d_are_one_ring.bindsN fun _ _ _ _ _ _ us hl => match us, hl with | [_, _], _ => rfl
theorem Txt.d_is_place (T : Txt K mg) : FunD K "is_place" "is_place" (defArgs s_is_place) (defBody s_is_place) (defScope s_is_place) [] [] (a_is_place K) (fdAt K (a_is_place K)) := fdAt_eq (T.fns _ (List.mem_of_getElem? (i := 11) (show fn[11]? = some (dd ("is_place", none) "is_place" "is_place" s_is_place [] []) from rfl)))
theorem sc_is_place : FnScope ["beads", "thing"] ["beads", "thing"] (defScope s_is_place) := ⟨rfl, rfl, rfl, by decide +kernel, rfl, by decide +kernel, by decide +kernel⟩
theorem Txt.b_is_place (T : Txt K mg) : Binds K (fdAt K (a_is_place K)) ["beads", "thing"] [] := T.d_is_place.bindsN fun _ _ _ _ _ _ us hl => match us, hl with | [_, _], _ => rfl
theorem Txt.d_want_place (T : Txt K mg) : FunD K "want_place" "want_place" (defArgs s_want_place) (defBody s_want_place) (defScope s_want_place) [] [] (a_want_place K) (fdAt K (a_want_place K)) := fdAt_eq (T.fns _ (List.mem_of_getElem? (i := 12) (show fn[12]? = some (dd ("want_place", none) "want_place" "want_place" s_want_place [] []) from rfl)))
theorem sc_want_place : FnScope ["beads", "place"] ["beads", "place"] (defScope s_want_place) := ⟨rfl, rfl, rfl, by decide +kernel, rfl, by decide +kernel, by decide +kernel⟩
theorem Txt.b_want_place (T : Txt K mg) : Binds K (fdAt K (a_want_place K)) ["beads", "place"] [] := T.d_want_place.bindsN fun _ _ _ _ _ _ us hl => match us, hl with | [_, _], _ => rfl
theorem Txt.d_wants_from (T : Txt K mg) : FunD K "wants_from" "wants_from" (defArgs s_wants_from) (defBody s_wants_from) (defScope s_wants_from) [] [] (a_wants_from K) (fdAt K (a_wants_from K)) := fdAt_eq (T.fns _ (List.mem_of_getElem? (i := 13) (show fn[13]? = some (dd ("wants_from", none) "wants_from" "wants_from" s_wants_from [] []) from rfl)))
theorem sc_wants_from : FnScope ["beads", "place", "wants", "k"] ["beads", "place"] (defScope s_wants_from) := ⟨rfl, rfl, rfl, by decide +kernel, rfl, by decide +kernel, by decide +kernel⟩
theorem Txt.b_wants_from (T : Txt K mg) : Binds K (fdAt K (a_wants_from K)) ["beads", "place"] [] := T.d_wants_from.bindsN fun _ _ _ _ _ _ us hl => match us, hl with | [_, _], _ => rfl
theorem Txt.d_arc_from (T : Txt K mg) : FunD K "arc_from" "arc_from" (defArgs s_arc_from) (defBody s_arc_from) (defScope s_arc_from) [] [] (a_arc_from K) (fdAt K (a_arc_from K)) := fdAt_eq (T.fns _ (List.mem_of_getElem? (i := 14) (show fn[14]? = some (dd ("arc_from", none) "arc_from" "arc_from" s_arc_from [] []) from rfl)))
theorem sc_arc_from : FnScope ["beads", "place", "k"] ["beads", "place"] (defScope s_arc_from) := ⟨rfl, rfl, rfl, by decide +kernel, rfl, by decide +kernel, by decide +kernel⟩
theorem Txt.b_arc_from (T : Txt K mg) : Binds K (fdAt K (a_arc_from K)) ["beads", "place"] [] := T.d_arc_from.bindsN fun _ _ _ _ _ _ us hl => match us, hl with | [_, _], _ => rfl
theorem Txt.d_arc_arcs (T : Txt K mg) : FunD K "arc" "arc" (defArgs s_arc_arcs) (defBody s_arc_arcs) (defScope s_arc_arcs) [] [] (a_arc_arcs K) (fdAt K (a_arc_arcs K)) := fdAt_eq (T.fns _ (List.mem_of_getElem? (i := 15) (show fn[15]? = some (dd ("arc_arcs", none) "arc" "arc" s_arc_arcs [] []) from rfl)))
theorem sc_arc_arcs : FnScope ["row", "place", "beads"] ["row", "place"] (defScope s_arc_arcs) := ⟨rfl, rfl, rfl, by decide +kernel, rfl, by decide +kernel, by decide +kernel⟩
theorem Txt.b_arc_arcs (T : Txt K mg) : Binds K (fdAt K (a_arc_arcs K)) ["row", "place"] [] := T.d_arc_arcs.bindsN fun _ _ _ _ _ _ us hl => match us, hl with | [_, _], _ => rfl
theorem Txt.d_children_of (T : Txt K mg) : FunD K "children_of" "children_of" (defArgs s_children_of) (defBody s_children_of) (defScope s_children_of) [] [] (a_children_of K) (fdAt K (a_children_of K)) := fdAt_eq (T.fns _ (List.mem_of_getElem? (i := 16) (show fn[16]? = some (dd ("children_of", none) "children_of" "children_of" s_children_of [] []) from rfl)))
theorem sc_children_of : FnScope ["beads", "place", "found", "here", "k"] ["beads", "place"] (defScope s_children_of) := ⟨rfl, rfl, rfl, by decide +kernel, rfl, by decide +kernel, by decide +kernel⟩
theorem Txt.b_children_of (T : Txt K mg) : Binds K (fdAt K (a_children_of K)) ["beads", "place"] [] := T.d_children_of.bindsN fun _ _ _ _ _ _ us hl => match us, hl with | [_, _], _ => rfl
theorem Txt.d_parents_of (T : Txt K mg) : FunD K "parents_of" "parents_of" (defArgs s_parents_of) (defBody s_parents_of) (defScope s_parents_of) [] [] (a_parents_of K) (fdAt K (a_parents_of K)) := fdAt_eq (T.fns _ (List.mem_of_getElem? (i := 17) (show fn[17]? = some (dd ("parents_of", none) "parents_of" "parents_of" s_parents_of [] []) from rfl)))
theorem sc_parents_of : FnScope ["beads", "found", "place", "child"] ["beads"] (defScope s_parents_of) := ⟨rfl, rfl, rfl, by decide +kernel, rfl, by decide +kernel, by decide +kernel⟩
theorem Txt.b_parents_of (T : Txt K mg) : Binds K (fdAt K (a_parents_of K)) ["beads"] [] := T.d_parents_of.bindsN fun _ _ _ _ _ _ us hl => match us, hl with | [_], _ => rfl
theorem Txt.d_children_kin (T : Txt K mg) : FunD K "children" "children" (defArgs s_children_kin) (defBody s_children_kin) (defScope s_children_kin) [] [] (a_children_kin K) (fdAt K (a_children_kin K)) := fdAt_eq (T.fns _ (List.mem_of_getElem? (i := 18) (show fn[18]? = some (dd ("children_kin", none) "children" "children" s_children_kin [] []) from rfl)))
theorem sc_children_kin : FnScope ["row", "place", "beads"] ["row", "place"] (defScope s_children_kin) := ⟨rfl, rfl, rfl, by decide +kernel, rfl, by decide +kernel, by decide +kernel⟩
theorem Txt.b_children_kin (T : Txt K mg) : Binds K (fdAt K (a_children_kin K)) ["row", "place"] [] := T.d_children_kin.bindsN fun _ _ _ _ _ _ us hl => match us, hl with | [_, _], _ => rfl
theorem Txt.d_parents (T : Txt K mg) : FunD K "parents" "parents" (defArgs s_parents) (defBody s_parents) (defScope s_parents) [] [] (a_parents K) (fdAt K (a_parents K)) := fdAt_eq (T.fns _ (List.mem_of_getElem? (i := 19) (show fn[19]? = some (dd ("parents", none) "parents" "parents" s_parents [] []) from rfl)))
theorem sc_parents : FnScope ["row"] ["row"] (defScope s_parents) := ⟨rfl, rfl, rfl, by decide +kernel, rfl, by decide +kernel, by decide +kernel⟩
theorem Txt.b_parents (T : Txt K mg) : Binds K (fdAt K (a_parents K)) ["row"] [] := T.d_parents.bindsN fun _ _ _ _ _ _ us hl => match us, hl with | [_], _ => rfl
theorem Txt.d_row_text (T : Txt K mg) : FunD K "row_text" "row_text" (defArgs s_row_text) (defBody s_row_text) (defScope s_row_text) [] [] (a_row_text K) (fdAt K (a_row_text K)) := fdAt_eq (T.fns _ (List.mem_of_getElem? (i := 20) (show fn[20]? = some (dd ("row_text", none) "row_text" "row_text" s_row_text [] []) from rfl)))
theorem sc_row_text : FnScope ["row", "name", "many"] ["row"] (defScope s_row_text) := ⟨rfl, rfl, rfl, by decide +kernel, rfl, by decide +kernel, by decide +kernel⟩
theorem Txt.b_row_text (T : Txt K mg) : Binds K (fdAt K (a_row_text K)) ["row"] [] := T.d_row_text.bindsN fun _ _ _ _ _ _ us hl => match us, hl with | [_], _ => rfl
theorem Txt.d_is_count (T : Txt K mg) : FunD K "is_count" "is_count" (defArgs s_is_count) (defBody s_is_count) (defScope s_is_count) [] [] (a_is_count K) (fdAt K (a_is_count K)) := fdAt_eq (T.fns _ (List.mem_of_getElem? (i := 21) (show fn[21]? = some (dd ("is_count", none) "is_count" "is_count" s_is_count [] []) from rfl)))
theorem sc_is_count : FnScope ["thing", "low", "high"] ["thing", "low", "high"] (defScope s_is_count) := ⟨rfl, rfl, rfl, by decide +kernel, rfl, by decide +kernel, by decide +kernel⟩
theorem Txt.b_is_count (T : Txt K mg) : Binds K (fdAt K (a_is_count K)) ["thing", "low", "high"] [] := T.d_is_count.bindsN fun _ _ _ _ _ _ us hl => match us, hl with | [_, _, _], _ => rfl
theorem Txt.d_moves_between (T : Txt K mg) : FunD K "moves_between" "moves_between" (defArgs s_moves_between) (defBody s_moves_between) (defScope s_moves_between) [] [] (a_moves_between K) (fdAt K (a_moves_between K)) := fdAt_eq (T.fns _ (List.mem_of_getElem? (i := 22) (show fn[22]? = some (dd ("moves_between", none) "moves_between" "moves_between" s_moves_between [] []) from rfl)))
theorem sc_moves_between : FnScope ["before", "after", "there", "number"] ["before", "after"] (defScope s_moves_between) := ⟨rfl, rfl, rfl, by decide +kernel, rfl, by decide +kernel, by decide +kernel⟩
theorem Txt.b_moves_between (T : Txt K mg) : Binds K (fdAt K (a_moves_between K)) ["before", "after"] [] := T.d_moves_between.bindsN fun _ _ _ _ _ _ us hl => match us, hl with | [_, _], _ => rfl
theorem Txt.d_RingU_initU (T : Txt K mg) : FunD K "__init__" "Ring.__init__" (defArgs s_RingU_initU) (defBody s_RingU_initU) (defScope s_RingU_initU) [] [("most", V.int 100)] (a_RingU_initU K) (fdAt K (a_RingU_initU K)) := fdAt_eq (T.fns _ (List.mem_of_getElem? (i := 23) (show fn[23]? = some (dd ("Ring", some "__init__") "__init__" "Ring.__init__" s_RingU_initU [] [("most", .int 100)]) from rfl)))
theorem sc_RingU_initU : FnScope ["self", "beads", "most"] ["self", "beads", "most"] (defScope s_RingU_initU) := ⟨rfl, rfl, rfl, by decide +kernel, rfl, by decide +kernel, by decide +kernel⟩
theorem Txt.d_RingU_strU (T : Txt K mg) : FunD K "__str__" "Ring.__str__" (defArgs s_RingU_strU) (defBody s_RingU_strU) (defScope s_RingU_strU) [] [] (a_RingU_strU K) (fdAt K (a_RingU_strU K)) := fdAt_eq (T.fns _ (List.mem_of_getElem? (i := 24) (show fn[24]? = some (dd ("Ring", some "__str__") "__str__" "Ring.__str__" s_RingU_strU [] []) from rfl)))
theorem sc_RingU_strU : FnScope ["self"] ["self"] (defScope s_RingU_strU) := ⟨rfl, rfl, rfl, by decide +kernel, rfl, by decide +kernel, by decide +kernel⟩
theorem Txt.b_RingU_strU (T : Txt K mg) : Binds K (fdAt K (a_RingU_strU K)) ["self"] [] := T.d_RingU_strU.bindsN fun _ _ _ _ _ _ us hl => match us, hl with | [_], _ => rfl
theorem Txt.d_Ring_chain (T : Txt K mg) : FunD K "chain" "Ring.chain" (defArgs s_Ring_chain) (defBody s_Ring_chain) (defScope s_Ring_chain) [] [] (a_Ring_chain K) (fdAt K (a_Ring_chain K)) := fdAt_eq (T.fns _ (List.mem_of_getElem? (i := 25) (show fn[25]? = some (dd ("Ring", some "chain") "chain" "Ring.chain" s_Ring_chain [] []) from rfl)))
theorem sc_Ring_chain : FnScope ["self", "number"] ["self"] (defScope s_Ring_chain) := ⟨rfl, rfl, rfl, by decide +kernel, rfl, by decide +kernel, by decide +kernel⟩
theorem Txt.b_Ring_chain (T : Txt K mg) : Binds K (fdAt K (a_Ring_chain K)) ["self"] [] := T.d_Ring_chain.bindsN fun _ _ _ _ _ _ us hl => match us, hl with | [_], _ => rfl
theorem Txt.d_Ring_place (T : Txt K mg) : FunD K "place" "Ring.place" (defArgs s_Ring_place) (defBody s_Ring_place) (defScope s_Ring_place) [] [] (a_Ring_place K) (fdAt K (a_Ring_place K)) := fdAt_eq (T.fns _ (List.mem_of_getElem? (i := 26) (show fn[26]? = some (dd ("Ring", some "place") "place" "Ring.place" s_Ring_place [] []) from rfl)))
theorem sc_Ring_place : FnScope ["self", "number"] ["self", "number"] (defScope s_Ring_place) := ⟨rfl, rfl, rfl, by decide +kernel, rfl, by decide +kernel, by decide +kernel⟩
theorem Txt.b_Ring_place (T : Txt K mg) : Binds K (fdAt K (a_Ring_place K)) ["self", "number"] [] := T.d_Ring_place.bindsN fun _ _ _ _ _ _ us hl => match us, hl with | [_, _], _ => rfl
theorem Txt.d_Ring_kin (T : Txt K mg) : FunD K "kin" "Ring.kin" (defArgs s_Ring_kin) (defBody s_Ring_kin) (defScope s_Ring_kin) [] [] (a_Ring_kin K) (fdAt K (a_Ring_kin K)) := fdAt_eq (T.fns _ (List.mem_of_getElem? (i := 27) (show fn[27]? = some (dd ("Ring", some "kin") "kin" "Ring.kin" s_Ring_kin [] []) from rfl)))
theorem sc_Ring_kin : FnScope ["self", "found", "number", "above"] ["self"] (defScope s_Ring_kin) := ⟨rfl, rfl, rfl, by decide +kernel, rfl, by decide +kernel, by decide +kernel⟩
theorem Txt.b_Ring_kin (T : Txt K mg) : Binds K (fdAt K (a_Ring_kin K)) ["self"] [] := T.d_Ring_kin.bindsN fun _ _ _ _ _ _ us hl => match us, hl with | [_], _ => rfl
theorem Txt.d_Ring_numbers (T : Txt K mg) : FunD K "numbers" "Ring.numbers" (defArgs s_Ring_numbers) (defBody s_Ring_numbers) (defScope s_Ring_numbers) [] [] (a_Ring_numbers K) (fdAt K (a_Ring_numbers K)) := fdAt_eq (T.fns _ (List.mem_of_getElem? (i := 28) (show fn[28]? = some (dd ("Ring", some "numbers") "numbers" "Ring.numbers" s_Ring_numbers [] []) from rfl)))
theorem sc_Ring_numbers : FnScope ["self", "at"] ["self"] (defScope s_Ring_numbers) := ⟨rfl, rfl, rfl, by decide +kernel, rfl, by decide +kernel, by decide +kernel⟩
theorem Txt.b_Ring_numbers (T : Txt K mg) : Binds K (fdAt K (a_Ring_numbers K)) ["self"] [] := T.d_Ring_numbers.bindsN fun _ _ _ _ _ _ us hl => match us, hl with | [_], _ => rfl
theorem Txt.d_Ring_bead (T : Txt K mg) : FunD K "bead" "Ring.bead" (defArgs s_Ring_bead) (defBody s_Ring_bead) (defScope s_Ring_bead) [] [] (a_Ring_bead K) (fdAt K (a_Ring_bead K)) := fdAt_eq (T.fns _ (List.mem_of_getElem? (i := 29) (show fn[29]? = some (dd ("Ring", some "bead") "bead" "Ring.bead" s_Ring_bead [] []) from rfl)))
theorem sc_Ring_bead : FnScope ["self", "number"] ["self", "number"] (defScope s_Ring_bead) := ⟨rfl, rfl, rfl, by decide +kernel, rfl, by decide +kernel, by decide +kernel⟩
theorem Txt.b_Ring_bead (T : Txt K mg) : Binds K (fdAt K (a_Ring_bead K)) ["self", "number"] [] := T.d_Ring_bead.bindsN fun _ _ _ _ _ _ us hl => match us, hl with | [_, _], _ => rfl
theorem Txt.d_Ring_row (T : Txt K mg) : FunD K "row" "Ring.row" (defArgs s_Ring_row) (defBody s_Ring_row) (defScope s_Ring_row) [] [("first", V.non)] (a_Ring_row K) (fdAt K (a_Ring_row K)) := fdAt_eq (T.fns _ (List.mem_of_getElem? (i := 30) (show fn[30]? = some (dd ("Ring", some "row") "row" "Ring.row" s_Ring_row [] [("first", .non)]) from rfl)))
theorem sc_Ring_row : FnScope ["self", "first", "begin", "at", "beads"] ["self", "first"] (defScope s_Ring_row) := ⟨rfl, rfl, rfl, by decide +kernel, rfl, by decide +kernel, by decide +kernel⟩
theorem Txt.d_Ring_trees (T : Txt K mg) : FunD K "trees" "Ring.trees" (defArgs s_Ring_trees) (defBody s_Ring_trees) (defScope s_Ring_trees) [] [] (a_Ring_trees K) (fdAt K (a_Ring_trees K)) := fdAt_eq (T.fns _ (List.mem_of_getElem? (i := 31) (show fn[31]? = some (dd ("Ring", some "trees") "trees" "Ring.trees" s_Ring_trees [] []) from rfl)))
theorem sc_Ring_trees : FnScope ["self"] ["self"] (defScope s_Ring_trees) := ⟨rfl, rfl, rfl, by decide +kernel, rfl, by decide +kernel, by decide +kernel⟩
theorem Txt.b_Ring_trees (T : Txt K mg) : Binds K (fdAt K (a_Ring_trees K)) ["self"] [] := T.d_Ring_trees.bindsN fun _ _ _ _ _ _ us hl => match us, hl with | [_], _ => rfl
theorem Txt.d_Ring_parent (T : Txt K mg) : FunD K "parent" "Ring.parent" (defArgs s_Ring_parent) (defBody s_Ring_parent) (defScope s_Ring_parent) [] [] (a_Ring_parent K) (fdAt K (a_Ring_parent K)) := fdAt_eq (T.fns _ (List.mem_of_getElem? (i := 32) (show fn[32]? = some (dd ("Ring", some "parent") "parent" "Ring.parent" s_Ring_parent [] []) from rfl)))
theorem sc_Ring_parent : FnScope ["self", "number"] ["self", "number"] (defScope s_Ring_parent) := ⟨rfl, rfl, rfl, by decide +kernel, rfl, by decide +kernel, by decide +kernel⟩
theorem Txt.b_Ring_parent (T : Txt K mg) : Binds K (fdAt K (a_Ring_parent K)) ["self", "number"] [] := T.d_Ring_parent.bindsN fun _ _ _ _ _ _ us hl => match us, hl with | [_, _], _ => rfl
theorem Txt.d_Ring_children (T : Txt K mg) : FunD K "children" "Ring.children" (defArgs s_Ring_children) (defBody s_Ring_children) (defScope s_Ring_children) [] [] (a_Ring_children K) (fdAt K (a_Ring_children K)) := fdAt_eq (T.fns _ (List.mem_of_getElem? (i := 33) (show fn[33]? = some (dd ("Ring", some "children") "children" "Ring.children" s_Ring_children [] []) from rfl)))
theorem sc_Ring_children : FnScope ["self", "number", "at"] ["self", "number"] (defScope s_Ring_children) := ⟨rfl, rfl, rfl, by decide +kernel, rfl, by decide +kernel, by decide +kernel⟩
theorem Txt.b_Ring_children (T : Txt K mg) : Binds K (fdAt K (a_Ring_children K)) ["self", "number"] [] := T.d_Ring_children.bindsN fun _ _ _ _ _ _ us hl => match us, hl with | [_, _], _ => rfl
theorem Txt.d_Ring_arc (T : Txt K mg) : FunD K "arc" "Ring.arc" (defArgs s_Ring_arc) (defBody s_Ring_arc) (defScope s_Ring_arc) [] [] (a_Ring_arc K) (fdAt K (a_Ring_arc K)) := fdAt_eq (T.fns _ (List.mem_of_getElem? (i := 34) (show fn[34]? = some (dd ("Ring", some "arc") "arc" "Ring.arc" s_Ring_arc [] []) from rfl)))
theorem sc_Ring_arc : FnScope ["self", "number", "at"] ["self", "number"] (defScope s_Ring_arc) := ⟨rfl, rfl, rfl, by decide +kernel, rfl, by decide +kernel, by decide +kernel⟩
theorem Txt.b_Ring_arc (T : Txt K mg) : Binds K (fdAt K (a_Ring_arc K)) ["self", "number"] [] := T.d_Ring_arc.bindsN fun _ _ _ _ _ _ us hl => match us, hl with | [_, _], _ => rfl
theorem Txt.d_Ring_deeds (T : Txt K mg) : FunD K "deeds" "Ring.deeds" (defArgs s_Ring_deeds) (defBody s_Ring_deeds) (defScope s_Ring_deeds) [] [] (a_Ring_deeds K) (fdAt K (a_Ring_deeds K)) := fdAt_eq (T.fns _ (List.mem_of_getElem? (i := 35) (show fn[35]? = some (dd ("Ring", some "deeds") "deeds" "Ring.deeds" s_Ring_deeds [] []) from rfl)))
theorem sc_Ring_deeds : FnScope ["self"] ["self"] (defScope s_Ring_deeds) := ⟨rfl, rfl, rfl, by decide +kernel, rfl, by decide +kernel, by decide +kernel⟩
theorem Txt.b_Ring_deeds (T : Txt K mg) : Binds K (fdAt K (a_Ring_deeds K)) ["self"] [] := T.d_Ring_deeds.bindsN fun _ _ _ _ _ _ us hl => match us, hl with | [_], _ => rfl
theorem Txt.d_Ring_limit (T : Txt K mg) : FunD K "limit" "Ring.limit" (defArgs s_Ring_limit) (defBody s_Ring_limit) (defScope s_Ring_limit) [] [] (a_Ring_limit K) (fdAt K (a_Ring_limit K)) := fdAt_eq (T.fns _ (List.mem_of_getElem? (i := 36) (show fn[36]? = some (dd ("Ring", some "limit") "limit" "Ring.limit" s_Ring_limit [] []) from rfl)))
theorem sc_Ring_limit : FnScope ["self"] ["self"] (defScope s_Ring_limit) := ⟨rfl, rfl, rfl, by decide +kernel, rfl, by decide +kernel, by decide +kernel⟩
theorem Txt.b_Ring_limit (T : Txt K mg) : Binds K (fdAt K (a_Ring_limit K)) ["self"] [] := T.d_Ring_limit.bindsN fun _ _ _ _ _ _ us hl => match us, hl with | [_], _ => rfl
theorem Txt.d_Ring_done (T : Txt K mg) : FunD K "done" "Ring.done" (defArgs s_Ring_done) (defBody s_Ring_done) (defScope s_Ring_done) [] [] (a_Ring_done K) (fdAt K (a_Ring_done K)) := fdAt_eq (T.fns _ (List.mem_of_getElem? (i := 37) (show fn[37]? = some (dd ("Ring", some "done") "done" "Ring.done" s_Ring_done [] []) from rfl)))
theorem sc_Ring_done : FnScope ["self", "order", "held", "coming", "before"] ["self", "order", "held", "coming"] (defScope s_Ring_done) := ⟨rfl, rfl, rfl, by decide +kernel, rfl, by decide +kernel, by decide +kernel⟩
theorem Txt.b_Ring_done (T : Txt K mg) : Binds K (fdAt K (a_Ring_done K)) ["self", "order", "held", "coming"] [] := T.d_Ring_done.bindsN fun _ _ _ _ _ _ us hl => match us, hl with | [_, _, _, _], _ => rfl
theorem Txt.d_Ring_exchange (T : Txt K mg) : FunD K "exchange" "Ring.exchange" (defArgs s_Ring_exchange) (defBody s_Ring_exchange) (defScope s_Ring_exchange) [] [] (a_Ring_exchange K) (fdAt K (a_Ring_exchange K)) := fdAt_eq (T.fns _ (List.mem_of_getElem? (i := 38) (show fn[38]? = some (dd ("Ring", some "exchange") "exchange" "Ring.exchange" s_Ring_exchange [] []) from rfl)))
theorem sc_Ring_exchange : FnScope ["self", "a", "b", "one", "other", "order"] ["self", "a", "b"] (defScope s_Ring_exchange) := ⟨rfl, rfl, rfl, by decide +kernel, rfl, by decide +kernel, by decide +kernel⟩
theorem Txt.b_Ring_exchange (T : Txt K mg) : Binds K (fdAt K (a_Ring_exchange K)) ["self", "a", "b"] [] := T.d_Ring_exchange.bindsN fun _ _ _ _ _ _ us hl => match us, hl with | [_, _, _], _ => rfl
theorem Txt.d_Ring_run_of (T : Txt K mg) : FunD K "run_of" "Ring.run_of" (defArgs s_Ring_run_of) (defBody s_Ring_run_of) (defScope s_Ring_run_of) [] [] (a_Ring_run_of K) (fdAt K (a_Ring_run_of K)) := fdAt_eq (T.fns _ (List.mem_of_getElem? (i := 39) (show fn[39]? = some (dd ("Ring", some "run_of") "run_of" "Ring.run_of" s_Ring_run_of [] []) from rfl)))
theorem sc_Ring_run_of : FnScope ["self", "first", "many", "at", "turned"] ["self", "first", "many"] (defScope s_Ring_run_of) := ⟨rfl, rfl, rfl, by decide +kernel, rfl, by decide +kernel, by decide +kernel⟩
theorem Txt.b_Ring_run_of (T : Txt K mg) : Binds K (fdAt K (a_Ring_run_of K)) ["self", "first", "many"] [] := T.d_Ring_run_of.bindsN fun _ _ _ _ _ _ us hl => match us, hl with | [_, _, _], _ => rfl
theorem Txt.d_Ring_slide (T : Txt K mg) : FunD K "slide" "Ring.slide" (defArgs s_Ring_slide) (defBody s_Ring_slide) (defScope s_Ring_slide) [] [("turned", V.bl false)] (a_Ring_slide K) (fdAt K (a_Ring_slide K)) := fdAt_eq (T.fns _ (List.mem_of_getElem? (i := 40) (show fn[40]? = some (dd ("Ring", some "slide") "slide" "Ring.slide" s_Ring_slide [] [("turned", .bl false)]) from rfl)))
theorem sc_Ring_slide : FnScope ["self", "first", "many", "behind", "turned", "run", "rest", "at"] ["self", "first", "many", "behind", "turned"] (defScope s_Ring_slide) := ⟨rfl, rfl, rfl, by decide +kernel, rfl, by decide +kernel, by decide +kernel⟩
theorem Txt.d_Ring_with_arms (T : Txt K mg) : FunD K "with_arms" "Ring.with_arms" (defArgs s_Ring_with_arms) (defBody s_Ring_with_arms) (defScope s_Ring_with_arms) [] [] (a_Ring_with_arms K) (fdAt K (a_Ring_with_arms K)) := fdAt_eq (T.fns _ (List.mem_of_getElem? (i := 41) (show fn[41]? = some (dd ("Ring", some "with_arms") "with_arms" "Ring.with_arms" s_Ring_with_arms [] []) from rfl)))
theorem sc_Ring_with_arms : FnScope ["self", "number", "more", "held", "name", "arms"] ["self", "number", "more"] (defScope s_Ring_with_arms) := ⟨rfl, rfl, rfl, by decide +kernel, rfl, by decide +kernel, by decide +kernel⟩
theorem Txt.b_Ring_with_arms (T : Txt K mg) : Binds K (fdAt K (a_Ring_with_arms K)) ["self", "number", "more"] [] := T.d_Ring_with_arms.bindsN fun _ _ _ _ _ _ us hl => match us, hl with | [_, _, _], _ => rfl
theorem Txt.d_Ring_loosen (T : Txt K mg) : FunD K "loosen" "Ring.loosen" (defArgs s_Ring_loosen) (defBody s_Ring_loosen) (defScope s_Ring_loosen) [] [] (a_Ring_loosen K) (fdAt K (a_Ring_loosen K)) := fdAt_eq (T.fns _ (List.mem_of_getElem? (i := 42) (show fn[42]? = some (dd ("Ring", some "loosen") "loosen" "Ring.loosen" s_Ring_loosen [] []) from rfl)))
theorem sc_Ring_loosen : FnScope ["self", "a"] ["self", "a"] (defScope s_Ring_loosen) := ⟨rfl, rfl, rfl, by decide +kernel, rfl, by decide +kernel, by decide +kernel⟩
theorem Txt.b_Ring_loosen (T : Txt K mg) : Binds K (fdAt K (a_Ring_loosen K)) ["self", "a"] [] := T.d_Ring_loosen.bindsN fun _ _ _ _ _ _ us hl => match us, hl with | [_, _], _ => rfl
theorem Txt.d_Ring_bind (T : Txt K mg) : FunD K "bind" "Ring.bind" (defArgs s_Ring_bind) (defBody s_Ring_bind) (defScope s_Ring_bind) [] [] (a_Ring_bind K) (fdAt K (a_Ring_bind K)) := fdAt_eq (T.fns _ (List.mem_of_getElem? (i := 43) (show fn[43]? = some (dd ("Ring", some "bind") "bind" "Ring.bind" s_Ring_bind [] []) from rfl)))
theorem sc_Ring_bind : FnScope ["self", "a"] ["self", "a"] (defScope s_Ring_bind) := ⟨rfl, rfl, rfl, by decide +kernel, rfl, by decide +kernel, by decide +kernel⟩
theorem Txt.b_Ring_bind (T : Txt K mg) : Binds K (fdAt K (a_Ring_bind K)) ["self", "a"] [] := T.d_Ring_bind.bindsN fun _ _ _ _ _ _ us hl => match us, hl with | [_, _], _ => rfl
theorem Txt.d_Ring_take (T : Txt K mg) : FunD K "take" "Ring.take" (defArgs s_Ring_take) (defBody s_Ring_take) (defScope s_Ring_take) [] [] (a_Ring_take K) (fdAt K (a_Ring_take K)) := fdAt_eq (T.fns _ (List.mem_of_getElem? (i := 44) (show fn[44]? = some (dd ("Ring", some "take") "take" "Ring.take" s_Ring_take [] []) from rfl)))
theorem sc_Ring_take : FnScope ["self", "a", "at", "held"] ["self", "a"] (defScope s_Ring_take) := ⟨rfl, rfl, rfl, by decide +kernel, rfl, by decide +kernel, by decide +kernel⟩
theorem Txt.b_Ring_take (T : Txt K mg) : Binds K (fdAt K (a_Ring_take K)) ["self", "a"] [] := T.d_Ring_take.bindsN fun _ _ _ _ _ _ us hl => match us, hl with | [_, _], _ => rfl
theorem Txt.d_Ring_put (T : Txt K mg) : FunD K "put" "Ring.put" (defArgs s_Ring_put) (defBody s_Ring_put) (defScope s_Ring_put) [.int 0] [] (a_Ring_put K) (fdAt K (a_Ring_put K)) := fdAt_eq (T.fns _ (List.mem_of_getElem? (i := 45) (show fn[45]? = some (dd ("Ring", some "put") "put" "Ring.put" s_Ring_put [.int 0] []) from rfl)))
theorem sc_Ring_put : FnScope ["self", "name", "arms", "behind", "at", "held", "number"] ["self", "name", "arms", "behind"] (defScope s_Ring_put) := ⟨rfl, rfl, rfl, by decide +kernel, rfl, by decide +kernel, by decide +kernel⟩
theorem Txt.d_without (T : Txt K mg) : FunD K "without" "without" (defArgs s_without) (defBody s_without) (defScope s_without) [] [] (a_without K) (fdAt K (a_without K)) := fdAt_eq (T.fns _ (List.mem_of_getElem? (i := 46) (show fn[46]? = some (dd ("without", none) "without" "without" s_without [] []) from rfl)))
theorem sc_without : FnScope ["numbers", "gone", "number"] ["numbers", "gone"] (defScope s_without) := ⟨rfl, rfl, rfl, by decide +kernel, rfl, by decide +kernel, by decide +kernel⟩
theorem Txt.b_without (T : Txt K mg) : Binds K (fdAt K (a_without K)) ["numbers", "gone"] [] := T.d_without.bindsN fun _ _ _ _ _ _ us hl => match us, hl with | [_, _], _ => rfl
theorem Txt.d_put_behind (T : Txt K mg) : FunD K "put_behind" "put_behind" (defArgs s_put_behind) (defBody s_put_behind) (defScope s_put_behind) [] [] (a_put_behind K) (fdAt K (a_put_behind K)) := fdAt_eq (T.fns _ (List.mem_of_getElem? (i := 47) (show fn[47]? = some (dd ("put_behind", none) "put_behind" "put_behind" s_put_behind [] []) from rfl)))
theorem sc_put_behind : FnScope ["numbers", "ahead", "more", "at"] ["numbers", "ahead", "more"] (defScope s_put_behind) := ⟨rfl, rfl, rfl, by decide +kernel, rfl, by decide +kernel, by decide +kernel⟩
theorem Txt.b_put_behind (T : Txt K mg) : Binds K (fdAt K (a_put_behind K)) ["numbers", "ahead", "more"] [] := T.d_put_behind.bindsN fun _ _ _ _ _ _ us hl => match us, hl with | [_, _, _], _ => rfl
theorem Txt.d_Grove_with_arm_moved (T : Txt K mg) : FunD K "with_arm_moved" "Grove.with_arm_moved" (defArgs s_Grove_with_arm_moved) (defBody s_Grove_with_arm_moved) (defScope s_Grove_with_arm_moved) [] [] (a_Grove_with_arm_moved K) (fdAt K (a_Grove_with_arm_moved K)) := fdAt_eq (T.fns _ (List.mem_of_getElem? (i := 48) (show fn[48]? = some (dd ("Grove", some "with_arm_moved") "with_arm_moved" "Grove.with_arm_moved" s_Grove_with_arm_moved [] []) from rfl)))
theorem sc_Grove_with_arm_moved : FnScope ["self", "old", "new", "held", "number", "more", "name", "arms"] ["self", "old", "new"] (defScope s_Grove_with_arm_moved) := ⟨rfl, rfl, rfl, by decide +kernel, rfl, by decide +kernel, by decide +kernel⟩
theorem Txt.b_Grove_with_arm_moved (T : Txt K mg) : Binds K (fdAt K (a_Grove_with_arm_moved K)) ["self", "old", "new"] [] := T.d_Grove_with_arm_moved.bindsN fun _ _ _ _ _ _ us hl => match us, hl with | [_, _, _], _ => rfl
theorem Txt.d_Grove_top_of (T : Txt K mg) : FunD K "top_of" "Grove.top_of" (defArgs s_Grove_top_of) (defBody s_Grove_top_of) (defScope s_Grove_top_of) [] [] (a_Grove_top_of K) (fdAt K (a_Grove_top_of K)) := fdAt_eq (T.fns _ (List.mem_of_getElem? (i := 49) (show fn[49]? = some (dd ("Grove", some "top_of") "top_of" "Grove.top_of" s_Grove_top_of [] []) from rfl)))
theorem sc_Grove_top_of : FnScope ["self", "number", "above", "here"] ["self", "number"] (defScope s_Grove_top_of) := ⟨rfl, rfl, rfl, by decide +kernel, rfl, by decide +kernel, by decide +kernel⟩
theorem Txt.b_Grove_top_of (T : Txt K mg) : Binds K (fdAt K (a_Grove_top_of K)) ["self", "number"] [] := T.d_Grove_top_of.bindsN fun _ _ _ _ _ _ us hl => match us, hl with | [_, _], _ => rfl
theorem Txt.d_Grove_ahead_of_child (T : Txt K mg) : FunD K "ahead_of_child" "Grove.ahead_of_child" (defArgs s_Grove_ahead_of_child) (defBody s_Grove_ahead_of_child) (defScope s_Grove_ahead_of_child) [] [] (a_Grove_ahead_of_child K) (fdAt K (a_Grove_ahead_of_child K)) := fdAt_eq (T.fns _ (List.mem_of_getElem? (i := 50) (show fn[50]? = some (dd ("Grove", some "ahead_of_child") "ahead_of_child" "Grove.ahead_of_child" s_Grove_ahead_of_child [] []) from rfl)))
theorem sc_Grove_ahead_of_child : FnScope ["self", "parent", "others", "at", "moving"] ["self", "parent", "others", "at", "moving"] (defScope s_Grove_ahead_of_child) := ⟨rfl, rfl, rfl, by decide +kernel, rfl, by decide +kernel, by decide +kernel⟩
theorem Txt.b_Grove_ahead_of_child (T : Txt K mg) : Binds K (fdAt K (a_Grove_ahead_of_child K)) ["self", "parent", "others", "at", "moving"] [] := T.d_Grove_ahead_of_child.bindsN fun _ _ _ _ _ _ us hl => match us, hl with | [_, _, _, _, _], _ => rfl
theorem Txt.d_Grove_graft (T : Txt K mg) : FunD K "graft" "Grove.graft" (defArgs s_Grove_graft) (defBody s_Grove_graft) (defScope s_Grove_graft) [] [] (a_Grove_graft K) (fdAt K (a_Grove_graft K)) := fdAt_eq (T.fns _ (List.mem_of_getElem? (i := 51) (show fn[51]? = some (dd ("Grove", some "graft") "graft" "Grove.graft" s_Grove_graft [] []) from rfl)))
theorem sc_Grove_graft : FnScope ["self", "number", "parent", "at", "above", "moving", "others", "ahead", "order"] ["self", "number", "parent", "at"] (defScope s_Grove_graft) := ⟨rfl, rfl, rfl, by decide +kernel, rfl, by decide +kernel, by decide +kernel⟩
theorem Txt.b_Grove_graft (T : Txt K mg) : Binds K (fdAt K (a_Grove_graft K)) ["self", "number", "parent", "at"] [] := T.d_Grove_graft.bindsN fun _ _ _ _ _ _ us hl => match us, hl with | [_, _, _, _], _ => rfl
theorem Txt.d_Grove_uproot (T : Txt K mg) : FunD K "uproot" "Grove.uproot" (defArgs s_Grove_uproot) (defBody s_Grove_uproot) (defScope s_Grove_uproot) [] [] (a_Grove_uproot K) (fdAt K (a_Grove_uproot K)) := fdAt_eq (T.fns _ (List.mem_of_getElem? (i := 52) (show fn[52]? = some (dd ("Grove", some "uproot") "uproot" "Grove.uproot" s_Grove_uproot [] []) from rfl)))
theorem sc_Grove_uproot : FnScope ["self", "number", "above", "moving", "ahead", "order"] ["self", "number"] (defScope s_Grove_uproot) := ⟨rfl, rfl, rfl, by decide +kernel, rfl, by decide +kernel, by decide +kernel⟩
theorem Txt.b_Grove_uproot (T : Txt K mg) : Binds K (fdAt K (a_Grove_uproot K)) ["self", "number"] [] := T.d_Grove_uproot.bindsN fun _ _ _ _ _ _ us hl => match us, hl with | [_, _], _ => rfl
theorem Txt.d_Grove_bud (T : Txt K mg) : FunD K "bud" "Grove.bud" (defArgs s_Grove_bud) (defBody s_Grove_bud) (defScope s_Grove_bud) [] [] (a_Grove_bud K) (fdAt K (a_Grove_bud K)) := fdAt_eq (T.fns _ (List.mem_of_getElem? (i := 53) (show fn[53]? = some (dd ("Grove", some "bud") "bud" "Grove.bud" s_Grove_bud [] []) from rfl)))
theorem sc_Grove_bud : FnScope ["self", "name", "parent", "at", "below", "number", "held", "ahead"] ["self", "name", "parent", "at"] (defScope s_Grove_bud) := ⟨rfl, rfl, rfl, by decide +kernel, rfl, by decide +kernel, by decide +kernel⟩
theorem Txt.b_Grove_bud (T : Txt K mg) : Binds K (fdAt K (a_Grove_bud K)) ["self", "name", "parent", "at"] [] := T.d_Grove_bud.bindsN fun _ _ _ _ _ _ us hl => match us, hl with | [_, _, _, _], _ => rfl
theorem Txt.d_Grove_nip (T : Txt K mg) : FunD K "nip" "Grove.nip" (defArgs s_Grove_nip) (defBody s_Grove_nip) (defScope s_Grove_nip) [] [] (a_Grove_nip K) (fdAt K (a_Grove_nip K)) := fdAt_eq (T.fns _ (List.mem_of_getElem? (i := 54) (show fn[54]? = some (dd ("Grove", some "nip") "nip" "Grove.nip" s_Grove_nip [] []) from rfl)))
theorem sc_Grove_nip : FnScope ["self", "number", "above", "held"] ["self", "number"] (defScope s_Grove_nip) := ⟨rfl, rfl, rfl, by decide +kernel, rfl, by decide +kernel, by decide +kernel⟩
theorem Txt.b_Grove_nip (T : Txt K mg) : Binds K (fdAt K (a_Grove_nip K)) ["self", "number"] [] := T.d_Grove_nip.bindsN fun _ _ _ _ _ _ us hl => match us, hl with | [_, _], _ => rfl
theorem Txt.d_Grove_swap (T : Txt K mg) : FunD K "swap" "Grove.swap" (defArgs s_Grove_swap) (defBody s_Grove_swap) (defScope s_Grove_swap) [] [] (a_Grove_swap K) (fdAt K (a_Grove_swap K)) := fdAt_eq (T.fns _ (List.mem_of_getElem? (i := 55) (show fn[55]? = some (dd ("Grove", some "swap") "swap" "Grove.swap" s_Grove_swap [] []) from rfl)))
theorem sc_Grove_swap : FnScope ["self", "a", "b", "one", "other", "at", "turned", "there", "order"] ["self", "a", "b"] (defScope s_Grove_swap) := ⟨rfl, rfl, rfl, by decide +kernel, rfl, by decide +kernel, by decide +kernel⟩
theorem Txt.b_Grove_swap (T : Txt K mg) : Binds K (fdAt K (a_Grove_swap K)) ["self", "a", "b"] [] := T.d_Grove_swap.bindsN fun _ _ _ _ _ _ us hl => match us, hl with | [_, _, _], _ => rfl
theorem Txt.d_row_from (T : Txt K mg) : FunD K "row_from" "row_from" (defArgs s_row_from) (defBody s_row_from) (defScope s_row_from) [] [] (a_row_from K) (fdAt K (a_row_from K)) := fdAt_eq (T.fns _ (List.mem_of_getElem? (i := 56) (show fn[56]? = some (dd ("row_from", none) "row_from" "row_from" s_row_from [] []) from rfl)))
theorem sc_row_from : FnScope ["ring", "number"] ["ring", "number"] (defScope s_row_from) := ⟨rfl, rfl, rfl, by decide +kernel, rfl, by decide +kernel, by decide +kernel⟩
theorem Txt.b_row_from (T : Txt K mg) : Binds K (fdAt K (a_row_from K)) ["ring", "number"] [] := T.d_row_from.bindsN fun _ _ _ _ _ _ us hl => match us, hl with | [_, _], _ => rfl
theorem Txt.d_row_behind (T : Txt K mg) : FunD K "row_behind" "row_behind" (defArgs s_row_behind) (defBody s_row_behind) (defScope s_row_behind) [] [] (a_row_behind K) (fdAt K (a_row_behind K)) := fdAt_eq (T.fns _ (List.mem_of_getElem? (i := 57) (show fn[57]? = some (dd ("row_behind", none) "row_behind" "row_behind" s_row_behind [] []) from rfl)))
theorem sc_row_behind : FnScope ["ring", "number", "beads"] ["ring", "number"] (defScope s_row_behind) := ⟨rfl, rfl, rfl, by decide +kernel, rfl, by decide +kernel, by decide +kernel⟩
theorem Txt.b_row_behind (T : Txt K mg) : Binds K (fdAt K (a_row_behind K)) ["ring", "number"] [] := T.d_row_behind.bindsN fun _ _ _ _ _ _ us hl => match us, hl with | [_, _], _ => rfl
theorem Txt.d_joined (T : Txt K mg) : FunD K "joined" "joined" (defArgs s_joined) (defBody s_joined) (defScope s_joined) [] [] (a_joined K) (fdAt K (a_joined K)) := fdAt_eq (T.fns _ (List.mem_of_getElem? (i := 58) (show fn[58]? = some (dd ("joined", none) "joined" "joined" s_joined [] []) from rfl)))
theorem sc_joined : FnScope ["one", "a", "other", "b", "first", "second"] ["one", "a", "other", "b"] (defScope s_joined) := ⟨rfl, rfl, rfl, by decide +kernel, rfl, by decide +kernel, by decide +kernel⟩
theorem Txt.b_joined (T : Txt K mg) : Binds K (fdAt K (a_joined K)) ["one", "a", "other", "b"] [] := T.d_joined.bindsN fun _ _ _ _ _ _ us hl => match us, hl with | [_, _, _, _], _ => rfl
theorem Txt.d_split (T : Txt K mg) : FunD K "split" "split" (defArgs s_split) (defBody s_split) (defScope s_split) [] [] (a_split K) (fdAt K (a_split K)) := fdAt_eq (T.fns _ (List.mem_of_getElem? (i := 59) (show fn[59]? = some (dd ("split", none) "split" "split" s_split [] []) from rfl)))
theorem sc_split : FnScope ["ring", "first", "many", "beads", "run", "rest"] ["ring", "first", "many"] (defScope s_split) := ⟨rfl, rfl, rfl, by decide +kernel, rfl, by decide +kernel, by decide +kernel⟩
theorem Txt.b_split (T : Txt K mg) : Binds K (fdAt K (a_split K)) ["ring", "first", "many"] [] := T.d_split.bindsN fun _ _ _ _ _ _ us hl => match us, hl with | [_, _, _], _ => rfl
theorem Txt.d__law_pot (T : Txt K mg) : FunD K "_law_pot" "_law_pot" (defArgs s__law_pot) (defBody s__law_pot) (defScope s__law_pot) [] [] (a__law_pot K) (fdAt K (a__law_pot K)) := fdAt_eq (T.fns _ (List.mem_of_getElem? (i := 60) (show fn[60]? = some (dd ("_law_pot", none) "_law_pot" "_law_pot" s__law_pot [] []) from rfl)))
theorem sc__law_pot : FnScope ["_law_script", "_law_k", "_law_cell"] ["_law_script", "_law_k"] (defScope s__law_pot) := ⟨rfl, rfl, rfl, by decide +kernel, rfl, by decide +kernel, by decide +kernel⟩
theorem Txt.b__law_pot (T : Txt K mg) : Binds K (fdAt K (a__law_pot K)) ["_law_script", "_law_k"] [] := T.d__law_pot.bindsN fun _ _ _ _ _ _ us hl => match us, hl with | [_, _], _ => rfl
theorem Txt.d__law_draw (T : Txt K mg) : FunD K "_law_draw" "_law_draw" (defArgs s__law_draw) (defBody s__law_draw) (defScope s__law_draw) [] [] (a__law_draw K) (fdAt K (a__law_draw K)) := fdAt_eq (T.fns _ (List.mem_of_getElem? (i := 61) (show fn[61]? = some (dd ("_law_draw", none) "_law_draw" "_law_draw" s__law_draw [] []) from rfl)))
theorem sc__law_draw : FnScope ["_law_pot_here", "_law_many", "_law_digit"] ["_law_pot_here", "_law_many"] (defScope s__law_draw) := ⟨rfl, rfl, rfl, by decide +kernel, rfl, by decide +kernel, by decide +kernel⟩
theorem Txt.b__law_draw (T : Txt K mg) : Binds K (fdAt K (a__law_draw K)) ["_law_pot_here", "_law_many"] [] := T.d__law_draw.bindsN fun _ _ _ _ _ _ us hl => match us, hl with | [_, _], _ => rfl
theorem Txt.d__law_trees (T : Txt K mg) : FunD K "_law_trees" "_law_trees" (defArgs s__law_trees) (defBody s__law_trees) (defScope s__law_trees) [] [] (a__law_trees K) (fdAt K (a__law_trees K)) := fdAt_eq (T.fns _ (List.mem_of_getElem? (i := 62) (show fn[62]? = some (dd ("_law_trees", none) "_law_trees" "_law_trees" s__law_trees [] []) from rfl)))
theorem sc__law_trees : FnScope ["_law_pot_here", "_law_count_here", "_law_way"] ["_law_pot_here", "_law_count_here"] (defScope s__law_trees) := ⟨rfl, rfl, rfl, by decide +kernel, rfl, by decide +kernel, by decide +kernel⟩
theorem Txt.b__law_trees (T : Txt K mg) : Binds K (fdAt K (a__law_trees K)) ["_law_pot_here", "_law_count_here"] [] := T.d__law_trees.bindsN fun _ _ _ _ _ _ us hl => match us, hl with | [_, _], _ => rfl
theorem Txt.d__law_name (T : Txt K mg) : FunD K "_law_name" "_law_name" (defArgs s__law_name) (defBody s__law_name) (defScope s__law_name) [] [] (a__law_name K) (fdAt K (a__law_name K)) := fdAt_eq (T.fns _ (List.mem_of_getElem? (i := 63) (show fn[63]? = some (dd ("_law_name", none) "_law_name" "_law_name" s__law_name [] []) from rfl)))
theorem sc__law_name : FnScope ["_law_pot_here", "_law_letters", "_law_k"] ["_law_pot_here"] (defScope s__law_name) := ⟨rfl, rfl, rfl, by decide +kernel, rfl, by decide +kernel, by decide +kernel⟩
theorem Txt.b__law_name (T : Txt K mg) : Binds K (fdAt K (a__law_name K)) ["_law_pot_here"] [] := T.d__law_name.bindsN fun _ _ _ _ _ _ us hl => match us, hl with | [_], _ => rfl
theorem Txt.d__law_row (T : Txt K mg) : FunD K "_law_row" "_law_row" (defArgs s__law_row) (defBody s__law_row) (defScope s__law_row) [] [] (a__law_row K) (fdAt K (a__law_row K)) := fdAt_eq (T.fns _ (List.mem_of_getElem? (i := 64) (show fn[64]? = some (dd ("_law_row", none) "_law_row" "_law_row" s__law_row [] []) from rfl)))
theorem sc__law_row : FnScope ["_law_pot_here", "_law_count_here", "_law_arms", "_law_manner", "_law_place", "_law_k", "_law_many"] ["_law_pot_here"] (defScope s__law_row) := ⟨rfl, rfl, rfl, by decide +kernel, rfl, by decide +kernel, by decide +kernel⟩
theorem Txt.b__law_row (T : Txt K mg) : Binds K (fdAt K (a__law_row K)) ["_law_pot_here"] [] := T.d__law_row.bindsN fun _ _ _ _ _ _ us hl => match us, hl with | [_], _ => rfl
theorem Txt.d__law_arc (T : Txt K mg) : FunD K "_law_arc" "_law_arc" (defArgs s__law_arc) (defBody s__law_arc) (defScope s__law_arc) [] [] (a__law_arc K) (fdAt K (a__law_arc K)) := fdAt_eq (T.fns _ (List.mem_of_getElem? (i := 65) (show fn[65]? = some (dd ("_law_arc", none) "_law_arc" "_law_arc" s__law_arc [] []) from rfl)))
theorem sc__law_arc : FnScope ["_law_row_here", "_law_place", "_law_found", "_law_wanted", "_law_k", "_law_here"] ["_law_row_here", "_law_place"] (defScope s__law_arc) := ⟨rfl, rfl, rfl, by decide +kernel, rfl, by decide +kernel, by decide +kernel⟩
theorem Txt.b__law_arc (T : Txt K mg) : Binds K (fdAt K (a__law_arc K)) ["_law_row_here", "_law_place"] [] := T.d__law_arc.bindsN fun _ _ _ _ _ _ us hl => match us, hl with | [_, _], _ => rfl
theorem Txt.d__law_grown (T : Txt K mg) : FunD K "_law_grown" "_law_grown" (defArgs s__law_grown) (defBody s__law_grown) (defScope s__law_grown) [] [] (a__law_grown K) (fdAt K (a__law_grown K)) := fdAt_eq (T.fns _ (List.mem_of_getElem? (i := 66) (show fn[66]? = some (dd ("_law_grown", none) "_law_grown" "_law_grown" s__law_grown [] []) from rfl)))
theorem sc__law_grown : FnScope ["_law_numbers", "_law_row_here", "_law_arcs", "_law_place", "_law_inside", "_law_kids", "_law_number_here", "_law_here", "_law_k", "_law_names", "_law_bead"] ["_law_numbers", "_law_row_here"] (defScope s__law_grown) := ⟨rfl, rfl, rfl, by decide +kernel, rfl, by decide +kernel, by decide +kernel⟩
theorem Txt.b__law_grown (T : Txt K mg) : Binds K (fdAt K (a__law_grown K)) ["_law_numbers", "_law_row_here"] [] := T.d__law_grown.bindsN fun _ _ _ _ _ _ us hl => match us, hl with | [_, _], _ => rfl
theorem Txt.d__law_read (T : Txt K mg) : FunD K "_law_read" "_law_read" (defArgs s__law_read) (defBody s__law_read) (defScope s__law_read) [] [] (a__law_read K) (fdAt K (a__law_read K)) := fdAt_eq (T.fns _ (List.mem_of_getElem? (i := 67) (show fn[67]? = some (dd ("_law_read", none) "_law_read" "_law_read" s__law_read [] []) from rfl)))
theorem sc__law_read : FnScope ["_law_model", "_law_tops", "_law_found", "_law_waiting", "_law_number_here"] ["_law_model", "_law_tops"] (defScope s__law_read) := ⟨rfl, rfl, rfl, by decide +kernel, rfl, by decide +kernel, by decide +kernel⟩
theorem Txt.b__law_read (T : Txt K mg) : Binds K (fdAt K (a__law_read K)) ["_law_model", "_law_tops"] [] := T.d__law_read.bindsN fun _ _ _ _ _ _ us hl => match us, hl with | [_, _], _ => rfl
theorem Txt.d__law_is_whole (T : Txt K mg) : FunD K "_law_is_whole" "_law_is_whole" (defArgs s__law_is_whole) (defBody s__law_is_whole) (defScope s__law_is_whole) [] [] (a__law_is_whole K) (fdAt K (a__law_is_whole K)) := fdAt_eq (T.fns _ (List.mem_of_getElem? (i := 68) (show fn[68]? = some (dd ("_law_is_whole", none) "_law_is_whole" "_law_is_whole" s__law_is_whole [] []) from rfl)))
theorem sc__law_is_whole : FnScope ["_law_thing"] ["_law_thing"] (defScope s__law_is_whole) := ⟨rfl, rfl, rfl, by decide +kernel, rfl, by decide +kernel, by decide +kernel⟩
theorem Txt.b__law_is_whole (T : Txt K mg) : Binds K (fdAt K (a__law_is_whole K)) ["_law_thing"] [] := T.d__law_is_whole.bindsN fun _ _ _ _ _ _ us hl => match us, hl with | [_], _ => rfl
theorem Txt.d__law_order (T : Txt K mg) : FunD K "_law_order" "_law_order" (defArgs s__law_order) (defBody s__law_order) (defScope s__law_order) [] [] (a__law_order K) (fdAt K (a__law_order K)) := fdAt_eq (T.fns _ (List.mem_of_getElem? (i := 69) (show fn[69]? = some (dd ("_law_order", none) "_law_order" "_law_order" s__law_order [] []) from rfl)))
theorem sc__law_order : FnScope ["_law_model", "_law_order_here", "_law_at"] ["_law_model"] (defScope s__law_order) := ⟨rfl, rfl, rfl, by decide +kernel, rfl, by decide +kernel, by decide +kernel⟩
theorem Txt.b__law_order (T : Txt K mg) : Binds K (fdAt K (a__law_order K)) ["_law_model"] [] := T.d__law_order.bindsN fun _ _ _ _ _ _ us hl => match us, hl with | [_], _ => rfl
theorem Txt.d__law_is_count (T : Txt K mg) : FunD K "_law_is_count" "_law_is_count" (defArgs s__law_is_count) (defBody s__law_is_count) (defScope s__law_is_count) [] [] (a__law_is_count K) (fdAt K (a__law_is_count K)) := fdAt_eq (T.fns _ (List.mem_of_getElem? (i := 70) (show fn[70]? = some (dd ("_law_is_count", none) "_law_is_count" "_law_is_count" s__law_is_count [] []) from rfl)))
theorem sc__law_is_count : FnScope ["_law_thing", "_law_low", "_law_high"] ["_law_thing", "_law_low", "_law_high"] (defScope s__law_is_count) := ⟨rfl, rfl, rfl, by decide +kernel, rfl, by decide +kernel, by decide +kernel⟩
theorem Txt.b__law_is_count (T : Txt K mg) : Binds K (fdAt K (a__law_is_count K)) ["_law_thing", "_law_low", "_law_high"] [] := T.d__law_is_count.bindsN fun _ _ _ _ _ _ us hl => match us, hl with | [_, _, _], _ => rfl
theorem Txt.d__law_is_bead (T : Txt K mg) : FunD K "_law_is_bead" "_law_is_bead" (defArgs s__law_is_bead) (defBody s__law_is_bead) (defScope s__law_is_bead) [] [] (a__law_is_bead K) (fdAt K (a__law_is_bead K)) := fdAt_eq (T.fns _ (List.mem_of_getElem? (i := 71) (show fn[71]? = some (dd ("_law_is_bead", none) "_law_is_bead" "_law_is_bead" s__law_is_bead [] []) from rfl)))
theorem sc__law_is_bead : FnScope ["_law_model", "_law_thing"] ["_law_model", "_law_thing"] (defScope s__law_is_bead) := ⟨rfl, rfl, rfl, by decide +kernel, rfl, by decide +kernel, by decide +kernel⟩
theorem Txt.b__law_is_bead (T : Txt K mg) : Binds K (fdAt K (a__law_is_bead K)) ["_law_model", "_law_thing"] [] := T.d__law_is_bead.bindsN fun _ _ _ _ _ _ us hl => match us, hl with | [_, _], _ => rfl
theorem Txt.d__law_number (T : Txt K mg) : FunD K "_law_number" "_law_number" (defArgs s__law_number) (defBody s__law_number) (defScope s__law_number) [] [] (a__law_number K) (fdAt K (a__law_number K)) := fdAt_eq (T.fns _ (List.mem_of_getElem? (i := 72) (show fn[72]? = some (dd ("_law_number", none) "_law_number" "_law_number" s__law_number [] []) from rfl)))
theorem sc__law_number : FnScope ["_law_pot_here", "_law_model", "_law_gone", "_law_numbers", "_law_far", "_law_some"] ["_law_pot_here", "_law_model", "_law_gone"] (defScope s__law_number) := ⟨rfl, rfl, rfl, by decide +kernel, rfl, by decide +kernel, by decide +kernel⟩
theorem Txt.b__law_number (T : Txt K mg) : Binds K (fdAt K (a__law_number K)) ["_law_pot_here", "_law_model", "_law_gone"] [] := T.d__law_number.bindsN fun _ _ _ _ _ _ us hl => match us, hl with | [_, _, _], _ => rfl
theorem Txt.d__law_count (T : Txt K mg) : FunD K "_law_count" "_law_count" (defArgs s__law_count) (defBody s__law_count) (defScope s__law_count) [] [] (a__law_count K) (fdAt K (a__law_count K)) := fdAt_eq (T.fns _ (List.mem_of_getElem? (i := 73) (show fn[73]? = some (dd ("_law_count", none) "_law_count" "_law_count" s__law_count [] []) from rfl)))
theorem sc__law_count : FnScope ["_law_pot_here", "_law_high", "_law_far"] ["_law_pot_here", "_law_high"] (defScope s__law_count) := ⟨rfl, rfl, rfl, by decide +kernel, rfl, by decide +kernel, by decide +kernel⟩
theorem Txt.b__law_count (T : Txt K mg) : Binds K (fdAt K (a__law_count K)) ["_law_pot_here", "_law_high"] [] := T.d__law_count.bindsN fun _ _ _ _ _ _ us hl => match us, hl with | [_, _], _ => rfl
theorem Txt.d__law_word (T : Txt K mg) : FunD K "_law_word" "_law_word" (defArgs s__law_word) (defBody s__law_word) (defScope s__law_word) [] [] (a__law_word K) (fdAt K (a__law_word K)) := fdAt_eq (T.fns _ (List.mem_of_getElem? (i := 74) (show fn[74]? = some (dd ("_law_word", none) "_law_word" "_law_word" s__law_word [] []) from rfl)))
theorem sc__law_word : FnScope ["_law_pot_here"] ["_law_pot_here"] (defScope s__law_word) := ⟨rfl, rfl, rfl, by decide +kernel, rfl, by decide +kernel, by decide +kernel⟩
theorem Txt.b__law_word (T : Txt K mg) : Binds K (fdAt K (a__law_word K)) ["_law_pot_here"] [] := T.d__law_word.bindsN fun _ _ _ _ _ _ us hl => match us, hl with | [_], _ => rfl
theorem Txt.d__law_is_name (T : Txt K mg) : FunD K "_law_is_name" "_law_is_name" (defArgs s__law_is_name) (defBody s__law_is_name) (defScope s__law_is_name) [] [] (a__law_is_name K) (fdAt K (a__law_is_name K)) := fdAt_eq (T.fns _ (List.mem_of_getElem? (i := 75) (show fn[75]? = some (dd ("_law_is_name", none) "_law_is_name" "_law_is_name" s__law_is_name [] []) from rfl)))
theorem sc__law_is_name : FnScope ["_law_thing", "_law_sign"] ["_law_thing"] (defScope s__law_is_name) := ⟨rfl, rfl, rfl, by decide +kernel, rfl, by decide +kernel, by decide +kernel⟩
theorem Txt.b__law_is_name (T : Txt K mg) : Binds K (fdAt K (a__law_is_name K)) ["_law_thing"] [] := T.d__law_is_name.bindsN fun _ _ _ _ _ _ us hl => match us, hl with | [_], _ => rfl
theorem Txt.d__law_first_none (T : Txt K mg) : FunD K "_law_first_none" "_law_first_none" (defArgs s__law_first_none) (defBody s__law_first_none) (defScope s__law_first_none) [] [] (a__law_first_none K) (fdAt K (a__law_first_none K)) := fdAt_eq (T.fns _ (List.mem_of_getElem? (i := 76) (show fn[76]? = some (dd ("_law_first_none", none) "_law_first_none" "_law_first_none" s__law_first_none [] []) from rfl)))
theorem sc__law_first_none : FnScope ["_law_model", "_law_some", "_law_thing"] ["_law_model", "_law_some"] (defScope s__law_first_none) := ⟨rfl, rfl, rfl, by decide +kernel, rfl, by decide +kernel, by decide +kernel⟩
theorem Txt.b__law_first_none (T : Txt K mg) : Binds K (fdAt K (a__law_first_none K)) ["_law_model", "_law_some"] [] := T.d__law_first_none.bindsN fun _ _ _ _ _ _ us hl => match us, hl with | [_, _], _ => rfl
theorem Txt.d__law_due_graft (T : Txt K mg) : FunD K "_law_due_graft" "_law_due_graft" (defArgs s__law_due_graft) (defBody s__law_due_graft) (defScope s__law_due_graft) [] [] (a__law_due_graft K) (fdAt K (a__law_due_graft K)) := fdAt_eq (T.fns _ (List.mem_of_getElem? (i := 77) (show fn[77]? = some (dd ("_law_due_graft", none) "_law_due_graft" "_law_due_graft" s__law_due_graft [] []) from rfl)))
theorem sc__law_due_graft : FnScope ["_law_model", "_law_some", "_law_due_here", "_law_others", "_law_one"] ["_law_model", "_law_some"] (defScope s__law_due_graft) := ⟨rfl, rfl, rfl, by decide +kernel, rfl, by decide +kernel, by decide +kernel⟩
theorem Txt.b__law_due_graft (T : Txt K mg) : Binds K (fdAt K (a__law_due_graft K)) ["_law_model", "_law_some"] [] := T.d__law_due_graft.bindsN fun _ _ _ _ _ _ us hl => match us, hl with | [_, _], _ => rfl
theorem Txt.d__law_due_bud (T : Txt K mg) : FunD K "_law_due_bud" "_law_due_bud" (defArgs s__law_due_bud) (defBody s__law_due_bud) (defScope s__law_due_bud) [] [] (a__law_due_bud K) (fdAt K (a__law_due_bud K)) := fdAt_eq (T.fns _ (List.mem_of_getElem? (i := 78) (show fn[78]? = some (dd ("_law_due_bud", none) "_law_due_bud" "_law_due_bud" s__law_due_bud [] []) from rfl)))
theorem sc__law_due_bud : FnScope ["_law_model", "_law_some", "_law_room", "_law_due_here"] ["_law_model", "_law_some", "_law_room"] (defScope s__law_due_bud) := ⟨rfl, rfl, rfl, by decide +kernel, rfl, by decide +kernel, by decide +kernel⟩
theorem Txt.b__law_due_bud (T : Txt K mg) : Binds K (fdAt K (a__law_due_bud K)) ["_law_model", "_law_some", "_law_room"] [] := T.d__law_due_bud.bindsN fun _ _ _ _ _ _ us hl => match us, hl with | [_, _, _], _ => rfl
theorem Txt.d__law_due_of_one (T : Txt K mg) : FunD K "_law_due_of_one" "_law_due_of_one" (defArgs s__law_due_of_one) (defBody s__law_due_of_one) (defScope s__law_due_of_one) [] [] (a__law_due_of_one K) (fdAt K (a__law_due_of_one K)) := fdAt_eq (T.fns _ (List.mem_of_getElem? (i := 79) (show fn[79]? = some (dd ("_law_due_of_one", none) "_law_due_of_one" "_law_due_of_one" s__law_due_of_one [] []) from rfl)))
theorem sc__law_due_of_one : FnScope ["_law_model", "_law_door", "_law_some", "_law_due_here"] ["_law_model", "_law_door", "_law_some"] (defScope s__law_due_of_one) := ⟨rfl, rfl, rfl, by decide +kernel, rfl, by decide +kernel, by decide +kernel⟩
theorem Txt.b__law_due_of_one (T : Txt K mg) : Binds K (fdAt K (a__law_due_of_one K)) ["_law_model", "_law_door", "_law_some"] [] := T.d__law_due_of_one.bindsN fun _ _ _ _ _ _ us hl => match us, hl with | [_, _, _], _ => rfl
theorem Txt.d__law_due_swap (T : Txt K mg) : FunD K "_law_due_swap" "_law_due_swap" (defArgs s__law_due_swap) (defBody s__law_due_swap) (defScope s__law_due_swap) [] [] (a__law_due_swap K) (fdAt K (a__law_due_swap K)) := fdAt_eq (T.fns _ (List.mem_of_getElem? (i := 80) (show fn[80]? = some (dd ("_law_due_swap", none) "_law_due_swap" "_law_due_swap" s__law_due_swap [] []) from rfl)))
theorem sc__law_due_swap : FnScope ["_law_model", "_law_some", "_law_due_here", "_law_one", "_law_second"] ["_law_model", "_law_some"] (defScope s__law_due_swap) := ⟨rfl, rfl, rfl, by decide +kernel, rfl, by decide +kernel, by decide +kernel⟩
theorem Txt.b__law_due_swap (T : Txt K mg) : Binds K (fdAt K (a__law_due_swap K)) ["_law_model", "_law_some"] [] := T.d__law_due_swap.bindsN fun _ _ _ _ _ _ us hl => match us, hl with | [_, _], _ => rfl
theorem Txt.d__law_due_split (T : Txt K mg) : FunD K "_law_due_split" "_law_due_split" (defArgs s__law_due_split) (defBody s__law_due_split) (defScope s__law_due_split) [] [] (a__law_due_split K) (fdAt K (a__law_due_split K)) := fdAt_eq (T.fns _ (List.mem_of_getElem? (i := 81) (show fn[81]? = some (dd ("_law_due_split", none) "_law_due_split" "_law_due_split" s__law_due_split [] []) from rfl)))
theorem sc__law_due_split : FnScope ["_law_model", "_law_some", "_law_due_here", "_law_order_here", "_law_at", "_law_arms", "_law_run", "_law_rest", "_law_number_here"] ["_law_model", "_law_some"] (defScope s__law_due_split) := ⟨rfl, rfl, rfl, by decide +kernel, rfl, by decide +kernel, by decide +kernel⟩
theorem Txt.b__law_due_split (T : Txt K mg) : Binds K (fdAt K (a__law_due_split K)) ["_law_model", "_law_some"] [] := T.d__law_due_split.bindsN fun _ _ _ _ _ _ us hl => match us, hl with | [_, _], _ => rfl
theorem Txt.d__law_due (T : Txt K mg) : FunD K "_law_due" "_law_due" (defArgs s__law_due) (defBody s__law_due) (defScope s__law_due) [] [] (a__law_due K) (fdAt K (a__law_due K)) := fdAt_eq (T.fns _ (List.mem_of_getElem? (i := 82) (show fn[82]? = some (dd ("_law_due", none) "_law_due" "_law_due" s__law_due [] []) from rfl)))
theorem sc__law_due : FnScope ["_law_model", "_law_other", "_law_door", "_law_some", "_law_room", "_law_due_here"] ["_law_model", "_law_other", "_law_door", "_law_some", "_law_room"] (defScope s__law_due) := ⟨rfl, rfl, rfl, by decide +kernel, rfl, by decide +kernel, by decide +kernel⟩
theorem Txt.b__law_due (T : Txt K mg) : Binds K (fdAt K (a__law_due K)) ["_law_model", "_law_other", "_law_door", "_law_some", "_law_room"] [] := T.d__law_due.bindsN fun _ _ _ _ _ _ us hl => match us, hl with | [_, _, _, _, _], _ => rfl
theorem Txt.d__law_drawn (T : Txt K mg) : FunD K "_law_drawn" "_law_drawn" (defArgs s__law_drawn) (defBody s__law_drawn) (defScope s__law_drawn) [] [] (a__law_drawn K) (fdAt K (a__law_drawn K)) := fdAt_eq (T.fns _ (List.mem_of_getElem? (i := 83) (show fn[83]? = some (dd ("_law_drawn", none) "_law_drawn" "_law_drawn" s__law_drawn [] []) from rfl)))
theorem sc__law_drawn : FnScope ["_law_pot_here", "_law_model", "_law_other", "_law_door", "_law_gone"] ["_law_pot_here", "_law_model", "_law_other", "_law_door", "_law_gone"] (defScope s__law_drawn) := ⟨rfl, rfl, rfl, by decide +kernel, rfl, by decide +kernel, by decide +kernel⟩
theorem Txt.b__law_drawn (T : Txt K mg) : Binds K (fdAt K (a__law_drawn K)) ["_law_pot_here", "_law_model", "_law_other", "_law_door", "_law_gone"] [] := T.d__law_drawn.bindsN fun _ _ _ _ _ _ us hl => match us, hl with | [_, _, _, _, _], _ => rfl
theorem Txt.d__law_call (T : Txt K mg) : FunD K "_law_call" "_law_call" (defArgs s__law_call) (defBody s__law_call) (defScope s__law_call) [] [] (a__law_call K) (fdAt K (a__law_call K)) := fdAt_eq (T.fns _ (List.mem_of_getElem? (i := 84) (show fn[84]? = some (dd ("_law_call", none) "_law_call" "_law_call" s__law_call [] []) from rfl)))
theorem sc__law_call : FnScope ["_law_grove", "_law_ring", "_law_door", "_law_some"] ["_law_grove", "_law_ring", "_law_door", "_law_some"] (defScope s__law_call) := ⟨rfl, rfl, rfl, by decide +kernel, rfl, by decide +kernel, by decide +kernel⟩
theorem Txt.b__law_call (T : Txt K mg) : Binds K (fdAt K (a__law_call K)) ["_law_grove", "_law_ring", "_law_door", "_law_some"] [] := T.d__law_call.bindsN fun _ _ _ _ _ _ us hl => match us, hl with | [_, _, _, _], _ => rfl
theorem Txt.d__law_said_of (T : Txt K mg) : FunD K "_law_said_of" "_law_said_of" (defArgs s__law_said_of) (defBody s__law_said_of) (defScope s__law_said_of) [] [] (a__law_said_of K) (fdAt K (a__law_said_of K)) := fdAt_eq (T.fns _ (List.mem_of_getElem? (i := 85) (show fn[85]? = some (dd ("_law_said_of", none) "_law_said_of" "_law_said_of" s__law_said_of [] []) from rfl)))
theorem sc__law_said_of : FnScope ["_law_e", "_law_kinds"] ["_law_e"] (defScope s__law_said_of) := ⟨rfl, rfl, rfl, by decide +kernel, rfl, by decide +kernel, by decide +kernel⟩
theorem Txt.b__law_said_of (T : Txt K mg) : Binds K (fdAt K (a__law_said_of K)) ["_law_e"] [] := T.d__law_said_of.bindsN fun _ _ _ _ _ _ us hl => match us, hl with | [_], _ => rfl
theorem Txt.d__law_said (T : Txt K mg) : FunD K "_law_said" "_law_said" (defArgs s__law_said) (defBody s__law_said) (defScope s__law_said) [] [] (a__law_said K) (fdAt K (a__law_said K)) := fdAt_eq (T.fns _ (List.mem_of_getElem? (i := 86) (show fn[86]? = some (dd ("_law_said", none) "_law_said" "_law_said" s__law_said [] []) from rfl)))
theorem sc__law_said : FnScope ["_law_grove", "_law_ring", "_law_door", "_law_some", "_law_told", "_law_e"] ["_law_grove", "_law_ring", "_law_door", "_law_some"] (defScope s__law_said) := ⟨rfl, rfl, rfl, by decide +kernel, rfl, by decide +kernel, by decide +kernel⟩
theorem Txt.b__law_said (T : Txt K mg) : Binds K (fdAt K (a__law_said K)) ["_law_grove", "_law_ring", "_law_door", "_law_some"] [] := T.d__law_said.bindsN fun _ _ _ _ _ _ us hl => match us, hl with | [_, _, _, _], _ => rfl
theorem Txt.d__law_state (T : Txt K mg) : FunD K "_law_state" "_law_state" (defArgs s__law_state) (defBody s__law_state) (defScope s__law_state) [] [] (a__law_state K) (fdAt K (a__law_state K)) := fdAt_eq (T.fns _ (List.mem_of_getElem? (i := 87) (show fn[87]? = some (dd ("_law_state", none) "_law_state" "_law_state" s__law_state [] []) from rfl)))
theorem sc__law_state : FnScope ["_law_grove", "_law_ring"] ["_law_grove", "_law_ring"] (defScope s__law_state) := ⟨rfl, rfl, rfl, by decide +kernel, rfl, by decide +kernel, by decide +kernel⟩
theorem Txt.b__law_state (T : Txt K mg) : Binds K (fdAt K (a__law_state K)) ["_law_grove", "_law_ring"] [] := T.d__law_state.bindsN fun _ _ _ _ _ _ us hl => match us, hl with | [_, _], _ => rfl
theorem Txt.d__law_unmade (T : Txt K mg) : FunD K "_law_unmade" "_law_unmade" (defArgs s__law_unmade) (defBody s__law_unmade) (defScope s__law_unmade) [] [] (a__law_unmade K) (fdAt K (a__law_unmade K)) := fdAt_eq (T.fns _ (List.mem_of_getElem? (i := 88) (show fn[88]? = some (dd ("_law_unmade", none) "_law_unmade" "_law_unmade" s__law_unmade [] []) from rfl)))
theorem sc__law_unmade : FnScope ["_law_beads", "_law_bound", "_law_told", "_law_e"] ["_law_beads", "_law_bound"] (defScope s__law_unmade) := ⟨rfl, rfl, rfl, by decide +kernel, rfl, by decide +kernel, by decide +kernel⟩
theorem Txt.b__law_unmade (T : Txt K mg) : Binds K (fdAt K (a__law_unmade K)) ["_law_beads", "_law_bound"] [] := T.d__law_unmade.bindsN fun _ _ _ _ _ _ us hl => match us, hl with | [_, _], _ => rfl
theorem Txt.d__law_none_made (T : Txt K mg) : FunD K "_law_none_made" "_law_none_made" (defArgs s__law_none_made) (defBody s__law_none_made) (defScope s__law_none_made) [] [] (a__law_none_made K) (fdAt K (a__law_none_made K)) := fdAt_eq (T.fns _ (List.mem_of_getElem? (i := 89) (show fn[89]? = some (dd ("_law_none_made", none) "_law_none_made" "_law_none_made" s__law_none_made [] []) from rfl)))
theorem sc__law_none_made : FnScope ["_law_pot_here", "_law_row_here", "_law_count_here", "_law_none", "_law_beads", "_law_far", "_law_bound"] ["_law_pot_here", "_law_row_here"] (defScope s__law_none_made) := ⟨rfl, rfl, rfl, by decide +kernel, rfl, by decide +kernel, by decide +kernel⟩
theorem Txt.b__law_none_made (T : Txt K mg) : Binds K (fdAt K (a__law_none_made K)) ["_law_pot_here", "_law_row_here"] [] := T.d__law_none_made.bindsN fun _ _ _ _ _ _ us hl => match us, hl with | [_, _], _ => rfl
theorem Txt.d__law_hung (T : Txt K mg) : FunD K "_law_hung" "_law_hung" (defArgs s__law_hung) (defBody s__law_hung) (defScope s__law_hung) [] [] (a__law_hung K) (fdAt K (a__law_hung K)) := fdAt_eq (T.fns _ (List.mem_of_getElem? (i := 90) (show fn[90]? = some (dd ("_law_hung", none) "_law_hung" "_law_hung" s__law_hung [] []) from rfl)))
theorem sc__law_hung : FnScope ["_law_grove", "_law_way", "_law_odd", "_law_here"] ["_law_grove", "_law_way", "_law_odd", "_law_here"] (defScope s__law_hung) := ⟨rfl, rfl, rfl, by decide +kernel, rfl, by decide +kernel, by decide +kernel⟩
theorem Txt.b__law_hung (T : Txt K mg) : Binds K (fdAt K (a__law_hung K)) ["_law_grove", "_law_way", "_law_odd", "_law_here"] [] := T.d__law_hung.bindsN fun _ _ _ _ _ _ us hl => match us, hl with | [_, _, _, _], _ => rfl
theorem Txt.d__law_asked (T : Txt K mg) : FunD K "_law_asked" "_law_asked" (defArgs s__law_asked) (defBody s__law_asked) (defScope s__law_asked) [] [] (a__law_asked K) (fdAt K (a__law_asked K)) := fdAt_eq (T.fns _ (List.mem_of_getElem? (i := 91) (show fn[91]? = some (dd ("_law_asked", none) "_law_asked" "_law_asked" s__law_asked [] []) from rfl)))
theorem sc__law_asked : FnScope ["_law_grove", "_law_way", "_law_odd"] ["_law_grove", "_law_way", "_law_odd"] (defScope s__law_asked) := ⟨rfl, rfl, rfl, by decide +kernel, rfl, by decide +kernel, by decide +kernel⟩
theorem Txt.b__law_asked (T : Txt K mg) : Binds K (fdAt K (a__law_asked K)) ["_law_grove", "_law_way", "_law_odd"] [] := T.d__law_asked.bindsN fun _ _ _ _ _ _ us hl => match us, hl with | [_, _, _], _ => rfl
theorem Txt.d__law_own_refused (T : Txt K mg) : FunD K "_law_own_refused" "_law_own_refused" (defArgs s__law_own_refused) (defBody s__law_own_refused) (defScope s__law_own_refused) [] [] (a__law_own_refused K) (fdAt K (a__law_own_refused K)) := fdAt_eq (T.fns _ (List.mem_of_getElem? (i := 92) (show fn[92]? = some (dd ("_law_own_refused", none) "_law_own_refused" "_law_own_refused" s__law_own_refused [] []) from rfl)))
theorem sc__law_own_refused : FnScope ["_law_grove", "_law_ring", "_law_odd", "_law_kept", "_law_way", "_law_due_here", "_law_told", "_law_e"] ["_law_grove", "_law_ring", "_law_odd"] (defScope s__law_own_refused) := ⟨rfl, rfl, rfl, by decide +kernel, rfl, by decide +kernel, by decide +kernel⟩
theorem Txt.b__law_own_refused (T : Txt K mg) : Binds K (fdAt K (a__law_own_refused K)) ["_law_grove", "_law_ring", "_law_odd"] [] := T.d__law_own_refused.bindsN fun _ _ _ _ _ _ us hl => match us, hl with | [_, _, _], _ => rfl
theorem Txt.d_law (T : Txt K mg) : FunD K "law" "law" (defArgs s_law) (defBody s_law) (defScope s_law) [] [] (a_law K) (fdAt K (a_law K)) := fdAt_eq (T.fns _ (List.mem_of_getElem? (i := 93) (show fn[93]? = some (dd ("law", none) "law" "law" s_law [] []) from rfl)))
theorem sc_law : FnScope ["_law_script", "_law_pot_here", "_law_room", "_law_row_here", "_law_bound", "_law_grove", "_law_gone", "_law_beads", "_law_k", "_law_ring", "_law_model", "_law_other", "_law_odd", "_law_door", "_law_some", "_law_due_here", "_law_kept", "_law_turn"] ["_law_script"] (defScope s_law) := ⟨rfl, rfl, rfl, by decide +kernel, rfl, by decide +kernel, by decide +kernel⟩
theorem Txt.b_law (T : Txt K mg) : Binds K (fdAt K (a_law K)) ["_law_script"] [] := T.d_law.bindsN fun _ _ _ _ _ _ us hl => match us, hl with | [_], _ => rfl
theorem Txt.g_BeadError (T : Txt K mg) : mg "BeadError" = some (.ref (He.ga K "BeadError")) := T.glo _ (List.mem_of_getElem? (i := 0) rfl)
theorem Txt.g_NoRow (T : Txt K mg) : mg "NoRow" = some (.ref (He.ga K "NoRow")) := T.glo _ (List.mem_of_getElem? (i := 1) rfl)
theorem Txt.g_NoPlace (T : Txt K mg) : mg "NoPlace" = some (.ref (He.ga K "NoPlace")) := T.glo _ (List.mem_of_getElem? (i := 2) rfl)
theorem Txt.g_NoNumber (T : Txt K mg) : mg "NoNumber" = some (.ref (He.ga K "NoNumber")) := T.glo _ (List.mem_of_getElem? (i := 3) rfl)
theorem Txt.g_NoName (T : Txt K mg) : mg "NoName" = some (.ref (He.ga K "NoName")) := T.glo _ (List.mem_of_getElem? (i := 4) rfl)
theorem Txt.g_NoRun (T : Txt K mg) : mg "NoRun" = some (.ref (He.ga K "NoRun")) := T.glo _ (List.mem_of_getElem? (i := 5) rfl)
theorem Txt.g_NoArm (T : Txt K mg) : mg "NoArm" = some (.ref (He.ga K "NoArm")) := T.glo _ (List.mem_of_getElem? (i := 6) rfl)
theorem Txt.g_NoTree (T : Txt K mg) : mg "NoTree" = some (.ref (He.ga K "NoTree")) := T.glo _ (List.mem_of_getElem? (i := 7) rfl)
theorem Txt.g_Within (T : Txt K mg) : mg "Within" = some (.ref (He.ga K "Within")) := T.glo _ (List.mem_of_getElem? (i := 8) rfl)
theorem Txt.g_NoParent (T : Txt K mg) : mg "NoParent" = some (.ref (He.ga K "NoParent")) := T.glo _ (List.mem_of_getElem? (i := 9) rfl)
theorem Txt.g_HasArms (T : Txt K mg) : mg "HasArms" = some (.ref (He.ga K "HasArms")) := T.glo _ (List.mem_of_getElem? (i := 10) rfl)
theorem Txt.g_NoBead (T : Txt K mg) : mg "NoBead" = some (.ref (He.ga K "NoBead")) := T.glo _ (List.mem_of_getElem? (i := 11) rfl)
theorem Txt.g_Full (T : Txt K mg) : mg "Full" = some (.ref (He.ga K "Full")) := T.glo _ (List.mem_of_getElem? (i := 12) rfl)
theorem Txt.g_is_whole (T : Txt K mg) : mg "is_whole" = some (.ref (He.ga K "is_whole")) := T.glo _ (List.mem_of_getElem? (i := 13) rfl)
theorem Txt.g_is_name (T : Txt K mg) : mg "is_name" = some (.ref (He.ga K "is_name")) := T.glo _ (List.mem_of_getElem? (i := 14) rfl)
theorem Txt.g_is_bead (T : Txt K mg) : mg "is_bead" = some (.ref (He.ga K "is_bead")) := T.glo _ (List.mem_of_getElem? (i := 15) rfl)
theorem Txt.g_is_row (T : Txt K mg) : mg "is_row" = some (.ref (He.ga K "is_row")) := T.glo _ (List.mem_of_getElem? (i := 16) rfl)
theorem Txt.g_want_row (T : Txt K mg) : mg "want_row" = some (.ref (He.ga K "want_row")) := T.glo _ (List.mem_of_getElem? (i := 17) rfl)
theorem Txt.g_trees_of (T : Txt K mg) : mg "trees_of" = some (.ref (He.ga K "trees_of")) := T.glo _ (List.mem_of_getElem? (i := 18) rfl)
theorem Txt.g_begun_at (T : Txt K mg) : mg "begun_at" = some (.ref (He.ga K "begun_at")) := T.glo _ (List.mem_of_getElem? (i := 19) rfl)
theorem Txt.g_least (T : Txt K mg) : mg "least" = some (.ref (He.ga K "least")) := T.glo _ (List.mem_of_getElem? (i := 20) rfl)
theorem Txt.g_are_one_ring (T : Txt K mg) : mg "are_one_ring" = some (.ref (He.ga K "are_one_ring")) := T.glo _ (List.mem_of_getElem? (i := 21) rfl)
theorem Txt.g_is_place (T : Txt K mg) : mg "is_place" = some (.ref (He.ga K "is_place")) := T.glo _ (List.mem_of_getElem? (i := 22) rfl)
theorem Txt.g_want_place (T : Txt K mg) : mg "want_place" = some (.ref (He.ga K "want_place")) := T.glo _ (List.mem_of_getElem? (i := 23) rfl)
theorem Txt.g_wants_from (T : Txt K mg) : mg "wants_from" = some (.ref (He.ga K "wants_from")) := T.glo _ (List.mem_of_getElem? (i := 24) rfl)
theorem Txt.g_arc_from (T : Txt K mg) : mg "arc_from" = some (.ref (He.ga K "arc_from")) := T.glo _ (List.mem_of_getElem? (i := 25) rfl)
theorem Txt.g_arc (T : Txt K mg) : mg "arc" = some (.ref (He.ga K "arc")) := T.glo _ (List.mem_of_getElem? (i := 26) rfl)
theorem Txt.g_arc_arcs (T : Txt K mg) : mg "arc_arcs" = some (.ref (He.ga K "arc_arcs")) := T.glo _ (List.mem_of_getElem? (i := 27) rfl)
theorem Txt.g_children_of (T : Txt K mg) : mg "children_of" = some (.ref (He.ga K "children_of")) := T.glo _ (List.mem_of_getElem? (i := 28) rfl)
theorem Txt.g_parents_of (T : Txt K mg) : mg "parents_of" = some (.ref (He.ga K "parents_of")) := T.glo _ (List.mem_of_getElem? (i := 29) rfl)
theorem Txt.g_children (T : Txt K mg) : mg "children" = some (.ref (He.ga K "children")) := T.glo _ (List.mem_of_getElem? (i := 30) rfl)
theorem Txt.g_children_kin (T : Txt K mg) : mg "children_kin" = some (.ref (He.ga K "children_kin")) := T.glo _ (List.mem_of_getElem? (i := 31) rfl)
theorem Txt.g_parents (T : Txt K mg) : mg "parents" = some (.ref (He.ga K "parents")) := T.glo _ (List.mem_of_getElem? (i := 32) rfl)
theorem Txt.g_row_text (T : Txt K mg) : mg "row_text" = some (.ref (He.ga K "row_text")) := T.glo _ (List.mem_of_getElem? (i := 33) rfl)
theorem Txt.g_is_count (T : Txt K mg) : mg "is_count" = some (.ref (He.ga K "is_count")) := T.glo _ (List.mem_of_getElem? (i := 34) rfl)
theorem Txt.g_moves_between (T : Txt K mg) : mg "moves_between" = some (.ref (He.ga K "moves_between")) := T.glo _ (List.mem_of_getElem? (i := 35) rfl)
theorem Txt.g_Ring (T : Txt K mg) : mg "Ring" = some (.ref (He.ga K "Ring")) := T.glo _ (List.mem_of_getElem? (i := 36) rfl)
theorem Txt.g_without (T : Txt K mg) : mg "without" = some (.ref (He.ga K "without")) := T.glo _ (List.mem_of_getElem? (i := 37) rfl)
theorem Txt.g_put_behind (T : Txt K mg) : mg "put_behind" = some (.ref (He.ga K "put_behind")) := T.glo _ (List.mem_of_getElem? (i := 38) rfl)
theorem Txt.g_Grove (T : Txt K mg) : mg "Grove" = some (.ref (He.ga K "Grove")) := T.glo _ (List.mem_of_getElem? (i := 39) rfl)
theorem Txt.g_row_from (T : Txt K mg) : mg "row_from" = some (.ref (He.ga K "row_from")) := T.glo _ (List.mem_of_getElem? (i := 40) rfl)
theorem Txt.g_row_behind (T : Txt K mg) : mg "row_behind" = some (.ref (He.ga K "row_behind")) := T.glo _ (List.mem_of_getElem? (i := 41) rfl)
theorem Txt.g_joined (T : Txt K mg) : mg "joined" = some (.ref (He.ga K "joined")) := T.glo _ (List.mem_of_getElem? (i := 42) rfl)
theorem Txt.g_split (T : Txt K mg) : mg "split" = some (.ref (He.ga K "split")) := T.glo _ (List.mem_of_getElem? (i := 43) rfl)
theorem Txt.g__law_pot (T : Txt K mg) : mg "_law_pot" = some (.ref (He.ga K "_law_pot")) := T.glo _ (List.mem_of_getElem? (i := 44) rfl)
theorem Txt.g__law_draw (T : Txt K mg) : mg "_law_draw" = some (.ref (He.ga K "_law_draw")) := T.glo _ (List.mem_of_getElem? (i := 45) rfl)
theorem Txt.g__law_trees (T : Txt K mg) : mg "_law_trees" = some (.ref (He.ga K "_law_trees")) := T.glo _ (List.mem_of_getElem? (i := 46) rfl)
theorem Txt.g__law_name (T : Txt K mg) : mg "_law_name" = some (.ref (He.ga K "_law_name")) := T.glo _ (List.mem_of_getElem? (i := 47) rfl)
theorem Txt.g__law_row (T : Txt K mg) : mg "_law_row" = some (.ref (He.ga K "_law_row")) := T.glo _ (List.mem_of_getElem? (i := 48) rfl)
theorem Txt.g__law_arc (T : Txt K mg) : mg "_law_arc" = some (.ref (He.ga K "_law_arc")) := T.glo _ (List.mem_of_getElem? (i := 49) rfl)
theorem Txt.g__law_grown (T : Txt K mg) : mg "_law_grown" = some (.ref (He.ga K "_law_grown")) := T.glo _ (List.mem_of_getElem? (i := 50) rfl)
theorem Txt.g__law_read (T : Txt K mg) : mg "_law_read" = some (.ref (He.ga K "_law_read")) := T.glo _ (List.mem_of_getElem? (i := 51) rfl)
theorem Txt.g__law_is_whole (T : Txt K mg) : mg "_law_is_whole" = some (.ref (He.ga K "_law_is_whole")) := T.glo _ (List.mem_of_getElem? (i := 52) rfl)
theorem Txt.g__law_order (T : Txt K mg) : mg "_law_order" = some (.ref (He.ga K "_law_order")) := T.glo _ (List.mem_of_getElem? (i := 53) rfl)
theorem Txt.g__law_is_count (T : Txt K mg) : mg "_law_is_count" = some (.ref (He.ga K "_law_is_count")) := T.glo _ (List.mem_of_getElem? (i := 54) rfl)
theorem Txt.g__law_is_bead (T : Txt K mg) : mg "_law_is_bead" = some (.ref (He.ga K "_law_is_bead")) := T.glo _ (List.mem_of_getElem? (i := 55) rfl)
theorem Txt.g__law_number (T : Txt K mg) : mg "_law_number" = some (.ref (He.ga K "_law_number")) := T.glo _ (List.mem_of_getElem? (i := 56) rfl)
theorem Txt.g__law_count (T : Txt K mg) : mg "_law_count" = some (.ref (He.ga K "_law_count")) := T.glo _ (List.mem_of_getElem? (i := 57) rfl)
theorem Txt.g__law_word (T : Txt K mg) : mg "_law_word" = some (.ref (He.ga K "_law_word")) := T.glo _ (List.mem_of_getElem? (i := 58) rfl)
theorem Txt.g__law_is_name (T : Txt K mg) : mg "_law_is_name" = some (.ref (He.ga K "_law_is_name")) := T.glo _ (List.mem_of_getElem? (i := 59) rfl)
theorem Txt.g__law_first_none (T : Txt K mg) : mg "_law_first_none" = some (.ref (He.ga K "_law_first_none")) := T.glo _ (List.mem_of_getElem? (i := 60) rfl)
theorem Txt.g__law_due_graft (T : Txt K mg) : mg "_law_due_graft" = some (.ref (He.ga K "_law_due_graft")) := T.glo _ (List.mem_of_getElem? (i := 61) rfl)
theorem Txt.g__law_due_bud (T : Txt K mg) : mg "_law_due_bud" = some (.ref (He.ga K "_law_due_bud")) := T.glo _ (List.mem_of_getElem? (i := 62) rfl)
theorem Txt.g__law_due_of_one (T : Txt K mg) : mg "_law_due_of_one" = some (.ref (He.ga K "_law_due_of_one")) := T.glo _ (List.mem_of_getElem? (i := 63) rfl)
theorem Txt.g__law_due_swap (T : Txt K mg) : mg "_law_due_swap" = some (.ref (He.ga K "_law_due_swap")) := T.glo _ (List.mem_of_getElem? (i := 64) rfl)
theorem Txt.g__law_due_split (T : Txt K mg) : mg "_law_due_split" = some (.ref (He.ga K "_law_due_split")) := T.glo _ (List.mem_of_getElem? (i := 65) rfl)
theorem Txt.g__law_due (T : Txt K mg) : mg "_law_due" = some (.ref (He.ga K "_law_due")) := T.glo _ (List.mem_of_getElem? (i := 66) rfl)
theorem Txt.g__law_drawn (T : Txt K mg) : mg "_law_drawn" = some (.ref (He.ga K "_law_drawn")) := T.glo _ (List.mem_of_getElem? (i := 67) rfl)
theorem Txt.g__law_call (T : Txt K mg) : mg "_law_call" = some (.ref (He.ga K "_law_call")) := T.glo _ (List.mem_of_getElem? (i := 68) rfl)
theorem Txt.g__law_said_of (T : Txt K mg) : mg "_law_said_of" = some (.ref (He.ga K "_law_said_of")) := T.glo _ (List.mem_of_getElem? (i := 69) rfl)
theorem Txt.g__law_said (T : Txt K mg) : mg "_law_said" = some (.ref (He.ga K "_law_said")) := T.glo _ (List.mem_of_getElem? (i := 70) rfl)
theorem Txt.g__law_state (T : Txt K mg) : mg "_law_state" = some (.ref (He.ga K "_law_state")) := T.glo _ (List.mem_of_getElem? (i := 71) rfl)
theorem Txt.g__law_unmade (T : Txt K mg) : mg "_law_unmade" = some (.ref (He.ga K "_law_unmade")) := T.glo _ (List.mem_of_getElem? (i := 72) rfl)
theorem Txt.g__law_none_made (T : Txt K mg) : mg "_law_none_made" = some (.ref (He.ga K "_law_none_made")) := T.glo _ (List.mem_of_getElem? (i := 73) rfl)
theorem Txt.g__law_hung (T : Txt K mg) : mg "_law_hung" = some (.ref (He.ga K "_law_hung")) := T.glo _ (List.mem_of_getElem? (i := 74) rfl)
theorem Txt.g__law_asked (T : Txt K mg) : mg "_law_asked" = some (.ref (He.ga K "_law_asked")) := T.glo _ (List.mem_of_getElem? (i := 75) rfl)
theorem Txt.g__law_own_refused (T : Txt K mg) : mg "_law_own_refused" = some (.ref (He.ga K "_law_own_refused")) := T.glo _ (List.mem_of_getElem? (i := 76) rfl)
theorem Txt.g_law (T : Txt K mg) : mg "law" = some (.ref (He.ga K "law")) := T.glo _ (List.mem_of_getElem? (i := 77) rfl)
theorem Txt.f_ValueError (T : Txt K mg) : mg "ValueError" = none := T.free _ (List.mem_of_getElem? (i := 0) rfl)
theorem Txt.f_all (T : Txt K mg) : mg "all" = none := T.free _ (List.mem_of_getElem? (i := 1) rfl)
theorem Txt.f_bool (T : Txt K mg) : mg "bool" = none := T.free _ (List.mem_of_getElem? (i := 2) rfl)
theorem Txt.f_dict (T : Txt K mg) : mg "dict" = none := T.free _ (List.mem_of_getElem? (i := 3) rfl)
theorem Txt.f_divmod (T : Txt K mg) : mg "divmod" = none := T.free _ (List.mem_of_getElem? (i := 4) rfl)
theorem Txt.f_enumerate (T : Txt K mg) : mg "enumerate" = none := T.free _ (List.mem_of_getElem? (i := 5) rfl)
theorem Txt.f_int (T : Txt K mg) : mg "int" = none := T.free _ (List.mem_of_getElem? (i := 6) rfl)
theorem Txt.f_isinstance (T : Txt K mg) : mg "isinstance" = none := T.free _ (List.mem_of_getElem? (i := 7) rfl)
theorem Txt.f_len (T : Txt K mg) : mg "len" = none := T.free _ (List.mem_of_getElem? (i := 8) rfl)
theorem Txt.f_list (T : Txt K mg) : mg "list" = none := T.free _ (List.mem_of_getElem? (i := 9) rfl)
theorem Txt.f_max (T : Txt K mg) : mg "max" = none := T.free _ (List.mem_of_getElem? (i := 10) rfl)
theorem Txt.f_min (T : Txt K mg) : mg "min" = none := T.free _ (List.mem_of_getElem? (i := 11) rfl)
theorem Txt.f_range (T : Txt K mg) : mg "range" = none := T.free _ (List.mem_of_getElem? (i := 12) rfl)
theorem Txt.f_repr (T : Txt K mg) : mg "repr" = none := T.free _ (List.mem_of_getElem? (i := 13) rfl)
theorem Txt.f_sorted (T : Txt K mg) : mg "sorted" = none := T.free _ (List.mem_of_getElem? (i := 14) rfl)
theorem Txt.f_str (T : Txt K mg) : mg "str" = none := T.free _ (List.mem_of_getElem? (i := 15) rfl)
theorem Txt.f_sum (T : Txt K mg) : mg "sum" = none := T.free _ (List.mem_of_getElem? (i := 16) rfl)
theorem Txt.f_tuple (T : Txt K mg) : mg "tuple" = none := T.free _ (List.mem_of_getElem? (i := 17) rfl)
theorem Txt.f_zip (T : Txt K mg) : mg "zip" = none := T.free _ (List.mem_of_getElem? (i := 18) rfl)
theorem Txt.x_NoRow (T : Txt K mg) : PySem.W.excIn K (He.ga K "NoRow") He.veBase "ValueError.__new__" = true := (T.exc "NoRow" (List.mem_of_getElem? (i := 0) rfl)).1
theorem Txt.xk_NoRow (T : Txt K mg) : PySem.W.keepIn K (.ref (He.ga K "NoRow")) = true := (T.exc "NoRow" (List.mem_of_getElem? (i := 0) rfl)).2.1
theorem Txt.xs_NoRow (T : Txt K mg) : PySem.W.subIn K (.ref (He.ga K "NoRow")) (.type "BaseException") = some true := (T.exc "NoRow" (List.mem_of_getElem? (i := 0) rfl)).2.2.1
theorem Txt.xt_NoRow (T : Txt K mg) : PySem.W.typeIn K (.ref (He.ga K "NoRow")) = some (.type "type") := (T.exc "NoRow" (List.mem_of_getElem? (i := 0) rfl)).2.2.2
theorem Txt.x_NoPlace (T : Txt K mg) : PySem.W.excIn K (He.ga K "NoPlace") He.veBase "ValueError.__new__" = true := (T.exc "NoPlace" (List.mem_of_getElem? (i := 1) rfl)).1
theorem Txt.xk_NoPlace (T : Txt K mg) : PySem.W.keepIn K (.ref (He.ga K "NoPlace")) = true := (T.exc "NoPlace" (List.mem_of_getElem? (i := 1) rfl)).2.1
theorem Txt.xs_NoPlace (T : Txt K mg) : PySem.W.subIn K (.ref (He.ga K "NoPlace")) (.type "BaseException") = some true := (T.exc "NoPlace" (List.mem_of_getElem? (i := 1) rfl)).2.2.1
theorem Txt.xt_NoPlace (T : Txt K mg) : PySem.W.typeIn K (.ref (He.ga K "NoPlace")) = some (.type "type") := (T.exc "NoPlace" (List.mem_of_getElem? (i := 1) rfl)).2.2.2
theorem Txt.x_NoNumber (T : Txt K mg) : PySem.W.excIn K (He.ga K "NoNumber") He.veBase "ValueError.__new__" = true := (T.exc "NoNumber" (List.mem_of_getElem? (i := 2) rfl)).1
theorem Txt.xk_NoNumber (T : Txt K mg) : PySem.W.keepIn K (.ref (He.ga K "NoNumber")) = true := (T.exc "NoNumber" (List.mem_of_getElem? (i := 2) rfl)).2.1
theorem Txt.xs_NoNumber (T : Txt K mg) : PySem.W.subIn K (.ref (He.ga K "NoNumber")) (.type "BaseException") = some true := (T.exc "NoNumber" (List.mem_of_getElem? (i := 2) rfl)).2.2.1
theorem Txt.xt_NoNumber (T : Txt K mg) : PySem.W.typeIn K (.ref (He.ga K "NoNumber")) = some (.type "type") := (T.exc "NoNumber" (List.mem_of_getElem? (i := 2) rfl)).2.2.2
theorem Txt.x_NoName (T : Txt K mg) : PySem.W.excIn K (He.ga K "NoName") He.veBase "ValueError.__new__" = true := (T.exc "NoName" (List.mem_of_getElem? (i := 3) rfl)).1
theorem Txt.xk_NoName (T : Txt K mg) : PySem.W.keepIn K (.ref (He.ga K "NoName")) = true := (T.exc "NoName" (List.mem_of_getElem? (i := 3) rfl)).2.1
theorem Txt.xs_NoName (T : Txt K mg) : PySem.W.subIn K (.ref (He.ga K "NoName")) (.type "BaseException") = some true := (T.exc "NoName" (List.mem_of_getElem? (i := 3) rfl)).2.2.1
theorem Txt.xt_NoName (T : Txt K mg) : PySem.W.typeIn K (.ref (He.ga K "NoName")) = some (.type "type") := (T.exc "NoName" (List.mem_of_getElem? (i := 3) rfl)).2.2.2
theorem Txt.x_NoRun (T : Txt K mg) : PySem.W.excIn K (He.ga K "NoRun") He.veBase "ValueError.__new__" = true := (T.exc "NoRun" (List.mem_of_getElem? (i := 4) rfl)).1
theorem Txt.xk_NoRun (T : Txt K mg) : PySem.W.keepIn K (.ref (He.ga K "NoRun")) = true := (T.exc "NoRun" (List.mem_of_getElem? (i := 4) rfl)).2.1
theorem Txt.xs_NoRun (T : Txt K mg) : PySem.W.subIn K (.ref (He.ga K "NoRun")) (.type "BaseException") = some true := (T.exc "NoRun" (List.mem_of_getElem? (i := 4) rfl)).2.2.1
theorem Txt.xt_NoRun (T : Txt K mg) : PySem.W.typeIn K (.ref (He.ga K "NoRun")) = some (.type "type") := (T.exc "NoRun" (List.mem_of_getElem? (i := 4) rfl)).2.2.2
theorem Txt.x_NoArm (T : Txt K mg) : PySem.W.excIn K (He.ga K "NoArm") He.veBase "ValueError.__new__" = true := (T.exc "NoArm" (List.mem_of_getElem? (i := 5) rfl)).1
theorem Txt.xk_NoArm (T : Txt K mg) : PySem.W.keepIn K (.ref (He.ga K "NoArm")) = true := (T.exc "NoArm" (List.mem_of_getElem? (i := 5) rfl)).2.1
theorem Txt.xs_NoArm (T : Txt K mg) : PySem.W.subIn K (.ref (He.ga K "NoArm")) (.type "BaseException") = some true := (T.exc "NoArm" (List.mem_of_getElem? (i := 5) rfl)).2.2.1
theorem Txt.xt_NoArm (T : Txt K mg) : PySem.W.typeIn K (.ref (He.ga K "NoArm")) = some (.type "type") := (T.exc "NoArm" (List.mem_of_getElem? (i := 5) rfl)).2.2.2
theorem Txt.x_NoTree (T : Txt K mg) : PySem.W.excIn K (He.ga K "NoTree") He.veBase "ValueError.__new__" = true := (T.exc "NoTree" (List.mem_of_getElem? (i := 6) rfl)).1
theorem Txt.xk_NoTree (T : Txt K mg) : PySem.W.keepIn K (.ref (He.ga K "NoTree")) = true := (T.exc "NoTree" (List.mem_of_getElem? (i := 6) rfl)).2.1
theorem Txt.xs_NoTree (T : Txt K mg) : PySem.W.subIn K (.ref (He.ga K "NoTree")) (.type "BaseException") = some true := (T.exc "NoTree" (List.mem_of_getElem? (i := 6) rfl)).2.2.1
theorem Txt.xt_NoTree (T : Txt K mg) : PySem.W.typeIn K (.ref (He.ga K "NoTree")) = some (.type "type") := (T.exc "NoTree" (List.mem_of_getElem? (i := 6) rfl)).2.2.2
theorem Txt.x_Within (T : Txt K mg) : PySem.W.excIn K (He.ga K "Within") He.veBase "ValueError.__new__" = true := (T.exc "Within" (List.mem_of_getElem? (i := 7) rfl)).1
theorem Txt.xk_Within (T : Txt K mg) : PySem.W.keepIn K (.ref (He.ga K "Within")) = true := (T.exc "Within" (List.mem_of_getElem? (i := 7) rfl)).2.1
theorem Txt.xs_Within (T : Txt K mg) : PySem.W.subIn K (.ref (He.ga K "Within")) (.type "BaseException") = some true := (T.exc "Within" (List.mem_of_getElem? (i := 7) rfl)).2.2.1
theorem Txt.xt_Within (T : Txt K mg) : PySem.W.typeIn K (.ref (He.ga K "Within")) = some (.type "type") := (T.exc "Within" (List.mem_of_getElem? (i := 7) rfl)).2.2.2
theorem Txt.x_NoParent (T : Txt K mg) : PySem.W.excIn K (He.ga K "NoParent") He.veBase "ValueError.__new__" = true := (T.exc "NoParent" (List.mem_of_getElem? (i := 8) rfl)).1
theorem Txt.xk_NoParent (T : Txt K mg) : PySem.W.keepIn K (.ref (He.ga K "NoParent")) = true := (T.exc "NoParent" (List.mem_of_getElem? (i := 8) rfl)).2.1
theorem Txt.xs_NoParent (T : Txt K mg) : PySem.W.subIn K (.ref (He.ga K "NoParent")) (.type "BaseException") = some true := (T.exc "NoParent" (List.mem_of_getElem? (i := 8) rfl)).2.2.1
theorem Txt.xt_NoParent (T : Txt K mg) : PySem.W.typeIn K (.ref (He.ga K "NoParent")) = some (.type "type") := (T.exc "NoParent" (List.mem_of_getElem? (i := 8) rfl)).2.2.2
theorem Txt.x_HasArms (T : Txt K mg) : PySem.W.excIn K (He.ga K "HasArms") He.veBase "ValueError.__new__" = true := (T.exc "HasArms" (List.mem_of_getElem? (i := 9) rfl)).1
theorem Txt.xk_HasArms (T : Txt K mg) : PySem.W.keepIn K (.ref (He.ga K "HasArms")) = true := (T.exc "HasArms" (List.mem_of_getElem? (i := 9) rfl)).2.1
theorem Txt.xs_HasArms (T : Txt K mg) : PySem.W.subIn K (.ref (He.ga K "HasArms")) (.type "BaseException") = some true := (T.exc "HasArms" (List.mem_of_getElem? (i := 9) rfl)).2.2.1
theorem Txt.xt_HasArms (T : Txt K mg) : PySem.W.typeIn K (.ref (He.ga K "HasArms")) = some (.type "type") := (T.exc "HasArms" (List.mem_of_getElem? (i := 9) rfl)).2.2.2
theorem Txt.ox_NoBead (T : Txt K mg) : OexC K (He.ga K "NoBead") := (T.own "NoBead" (List.mem_of_getElem? (i := 0) rfl)).1
theorem Txt.oi_NoBead (T : Txt K mg) : PySem.W.findIn K (.ref (He.ga K "NoBead")) "__init__" = some (some (.ref (a_NoBeadU_initU K))) := (T.own "NoBead" (List.mem_of_getElem? (i := 0) rfl)).2.1
theorem Txt.ot_NoBead (T : Txt K mg) : PySem.W.typeIn K (.ref (a_NoBeadU_initU K)) = some (.type "function") := (T.own "NoBead" (List.mem_of_getElem? (i := 0) rfl)).2.2
theorem Txt.ox_Full (T : Txt K mg) : OexC K (He.ga K "Full") := (T.own "Full" (List.mem_of_getElem? (i := 1) rfl)).1
theorem Txt.oi_Full (T : Txt K mg) : PySem.W.findIn K (.ref (He.ga K "Full")) "__init__" = some (some (.ref (a_FullU_initU K))) := (T.own "Full" (List.mem_of_getElem? (i := 1) rfl)).2.1
theorem Txt.ot_Full (T : Txt K mg) : PySem.W.typeIn K (.ref (a_FullU_initU K)) = some (.type "function") := (T.own "Full" (List.mem_of_getElem? (i := 1) rfl)).2.2
theorem Txt.mt___str__ (T : Txt K mg) {C : Addr} (hC : IsRing K C) : Meth K C "__str__" (a_RingU_strU K) := T.mt hC _ (List.mem_of_getElem? (i := 0) rfl)
theorem Txt.mt_chain (T : Txt K mg) {C : Addr} (hC : IsRing K C) : Meth K C "chain" (a_Ring_chain K) := T.mt hC _ (List.mem_of_getElem? (i := 1) rfl)
theorem Txt.mt_place (T : Txt K mg) {C : Addr} (hC : IsRing K C) : Meth K C "place" (a_Ring_place K) := T.mt hC _ (List.mem_of_getElem? (i := 2) rfl)
theorem Txt.mt_kin (T : Txt K mg) {C : Addr} (hC : IsRing K C) : Meth K C "kin" (a_Ring_kin K) := T.mt hC _ (List.mem_of_getElem? (i := 3) rfl)
theorem Txt.mt_numbers (T : Txt K mg) {C : Addr} (hC : IsRing K C) : Meth K C "numbers" (a_Ring_numbers K) := T.mt hC _ (List.mem_of_getElem? (i := 4) rfl)
theorem Txt.mt_bead (T : Txt K mg) {C : Addr} (hC : IsRing K C) : Meth K C "bead" (a_Ring_bead K) := T.mt hC _ (List.mem_of_getElem? (i := 5) rfl)
theorem Txt.mt_row (T : Txt K mg) {C : Addr} (hC : IsRing K C) : Meth K C "row" (a_Ring_row K) := T.mt hC _ (List.mem_of_getElem? (i := 6) rfl)
theorem Txt.mt_trees (T : Txt K mg) {C : Addr} (hC : IsRing K C) : Meth K C "trees" (a_Ring_trees K) := T.mt hC _ (List.mem_of_getElem? (i := 7) rfl)
theorem Txt.mt_parent (T : Txt K mg) {C : Addr} (hC : IsRing K C) : Meth K C "parent" (a_Ring_parent K) := T.mt hC _ (List.mem_of_getElem? (i := 8) rfl)
theorem Txt.mt_children (T : Txt K mg) {C : Addr} (hC : IsRing K C) : Meth K C "children" (a_Ring_children K) := T.mt hC _ (List.mem_of_getElem? (i := 9) rfl)
theorem Txt.mt_arc (T : Txt K mg) {C : Addr} (hC : IsRing K C) : Meth K C "arc" (a_Ring_arc K) := T.mt hC _ (List.mem_of_getElem? (i := 10) rfl)
theorem Txt.mt_deeds (T : Txt K mg) {C : Addr} (hC : IsRing K C) : Meth K C "deeds" (a_Ring_deeds K) := T.mt hC _ (List.mem_of_getElem? (i := 11) rfl)
theorem Txt.mt_limit (T : Txt K mg) {C : Addr} (hC : IsRing K C) : Meth K C "limit" (a_Ring_limit K) := T.mt hC _ (List.mem_of_getElem? (i := 12) rfl)
theorem Txt.mt_done (T : Txt K mg) {C : Addr} (hC : IsRing K C) : Meth K C "done" (a_Ring_done K) := T.mt hC _ (List.mem_of_getElem? (i := 13) rfl)
theorem Txt.mt_exchange (T : Txt K mg) {C : Addr} (hC : IsRing K C) : Meth K C "exchange" (a_Ring_exchange K) := T.mt hC _ (List.mem_of_getElem? (i := 14) rfl)
theorem Txt.mt_run_of (T : Txt K mg) {C : Addr} (hC : IsRing K C) : Meth K C "run_of" (a_Ring_run_of K) := T.mt hC _ (List.mem_of_getElem? (i := 15) rfl)
theorem Txt.mt_slide (T : Txt K mg) {C : Addr} (hC : IsRing K C) : Meth K C "slide" (a_Ring_slide K) := T.mt hC _ (List.mem_of_getElem? (i := 16) rfl)
theorem Txt.mt_with_arms (T : Txt K mg) {C : Addr} (hC : IsRing K C) : Meth K C "with_arms" (a_Ring_with_arms K) := T.mt hC _ (List.mem_of_getElem? (i := 17) rfl)
theorem Txt.mt_loosen (T : Txt K mg) {C : Addr} (hC : IsRing K C) : Meth K C "loosen" (a_Ring_loosen K) := T.mt hC _ (List.mem_of_getElem? (i := 18) rfl)
theorem Txt.mt_bind (T : Txt K mg) {C : Addr} (hC : IsRing K C) : Meth K C "bind" (a_Ring_bind K) := T.mt hC _ (List.mem_of_getElem? (i := 19) rfl)
theorem Txt.mt_take (T : Txt K mg) {C : Addr} (hC : IsRing K C) : Meth K C "take" (a_Ring_take K) := T.mt hC _ (List.mem_of_getElem? (i := 20) rfl)
theorem Txt.mt_put (T : Txt K mg) {C : Addr} (hC : IsRing K C) : Meth K C "put" (a_Ring_put K) := T.mt hC _ (List.mem_of_getElem? (i := 21) rfl)
theorem Txt.mg_with_arm_moved (T : Txt K mg) {C : Addr} (hC : C = He.ga K "Grove") : Meth K C "with_arm_moved" (a_Grove_with_arm_moved K) := by rw [hC]; exact T.mg _ (List.mem_of_getElem? (i := 0) rfl)
theorem Txt.mg_top_of (T : Txt K mg) {C : Addr} (hC : C = He.ga K "Grove") : Meth K C "top_of" (a_Grove_top_of K) := by rw [hC]; exact T.mg _ (List.mem_of_getElem? (i := 1) rfl)
theorem Txt.mg_ahead_of_child (T : Txt K mg) {C : Addr} (hC : C = He.ga K "Grove") : Meth K C "ahead_of_child" (a_Grove_ahead_of_child K) := by rw [hC]; exact T.mg _ (List.mem_of_getElem? (i := 2) rfl)
theorem Txt.mg_graft (T : Txt K mg) {C : Addr} (hC : C = He.ga K "Grove") : Meth K C "graft" (a_Grove_graft K) := by rw [hC]; exact T.mg _ (List.mem_of_getElem? (i := 3) rfl)
theorem Txt.mg_uproot (T : Txt K mg) {C : Addr} (hC : C = He.ga K "Grove") : Meth K C "uproot" (a_Grove_uproot K) := by rw [hC]; exact T.mg _ (List.mem_of_getElem? (i := 4) rfl)
theorem Txt.mg_bud (T : Txt K mg) {C : Addr} (hC : C = He.ga K "Grove") : Meth K C "bud" (a_Grove_bud K) := by rw [hC]; exact T.mg _ (List.mem_of_getElem? (i := 5) rfl)
theorem Txt.mg_nip (T : Txt K mg) {C : Addr} (hC : C = He.ga K "Grove") : Meth K C "nip" (a_Grove_nip K) := by rw [hC]; exact T.mg _ (List.mem_of_getElem? (i := 6) rfl)
theorem Txt.mg_swap (T : Txt K mg) {C : Addr} (hC : C = He.ga K "Grove") : Meth K C "swap" (a_Grove_swap K) := by rw [hC]; exact T.mg _ (List.mem_of_getElem? (i := 7) rfl)
theorem Txt.n_order (T : Txt K mg) {C : Addr} (hC : IsRing K C) : NoAttr K C "order" := T.nat hC _ (List.mem_of_getElem? (i := 0) rfl)
theorem Txt.n_held (T : Txt K mg) {C : Addr} (hC : IsRing K C) : NoAttr K C "held" := T.nat hC _ (List.mem_of_getElem? (i := 1) rfl)
theorem Txt.n_coming (T : Txt K mg) {C : Addr} (hC : IsRing K C) : NoAttr K C "coming" := T.nat hC _ (List.mem_of_getElem? (i := 2) rfl)
theorem Txt.n_history (T : Txt K mg) {C : Addr} (hC : IsRing K C) : NoAttr K C "history" := T.nat hC _ (List.mem_of_getElem? (i := 3) rfl)
theorem Txt.n_room (T : Txt K mg) {C : Addr} (hC : IsRing K C) : NoAttr K C "room" := T.nat hC _ (List.mem_of_getElem? (i := 4) rfl)
end
end Bt
namespace Bt
open PySem PySem.Spec PyProof.Rows L2
/-! ### the head: what the top leaves, asked of a part of the heap -/
def ringB (K : PySem.W.Frag) (x : Str) : Bool := (He.Fa.cls x).ok K && ((He.Fa.mkr x).ok K && ((attrL.all fun f => (He.Fa.noat x f).ok K) && rmethL.all fun m => (He.Fa.meth x m).ok K))
def sameB (K : PySem.W.Frag) : Bool := (rmethL.all fun m => decide (He.ma K (He.ga K "Grove") m = He.ma K (He.ga K "Ring") m)) && decide (He.ma K (He.ga K "Grove") "__init__" = He.ma K (He.ga K "Ring") "__init__")
def oexB (K : PySem.W.Frag) (C : Addr) : Bool := match K.lookup C with
  | some ⟨.type t, _, .cls cd, sl⟩ => decide (t = "type") && (match cd.mro, sl.toList with
    | .ref C' :: bm, [_, _, _, _, some (.builtin n), _] => decide (C' = C) && (decide (n = "ValueError.__new__") && (cd.hasDict && (!cd.hasDel && PySem.HandSPX.refsVE bm)))
    | _, _ => false)
  | _ => false
def ownB (K : PySem.W.Frag) (x : Str) : Bool := oexB K (He.ga K x) && (He.eqO (PySem.W.findIn K (.ref (He.ga K x)) "__setattr__") (some (some (.builtin "object.__setattr__"))) && (decide (PySem.W.subIn K (.ref (He.ga K x)) (.type "BaseException") = some true) && (decide (PySem.W.typeIn K (.ref (He.ga K x)) = some (.type "type")) && (PySem.W.keepIn K (.ref (He.ga K x)) &&
  (He.eqO (PySem.W.findIn K (.ref (He.ga K x)) "__init__") (some (some (.ref (He.fAd K (x, some "__init__"))))) && decide (PySem.W.typeIn K (.ref (He.fAd K (x, some "__init__"))) = some (.type "function")))))))
def excB (K : PySem.W.Frag) (D : Addr) : Bool := He.eqO (PySem.W.findIn K (.ref D) "__getattribute__") (some (some (.builtin "BaseException.__getattribute__"))) && (He.eqO (PySem.W.findIn K (.ref D) "__getattr__") (some none) && (decide (PySem.W.subIn K (.ref D) (.type "BaseException") = some true) && (PySem.W.hasDictIn K D &&
  (He.eqO (PySem.W.findIn K (.ref D) "__class__") (some (some (.builtin "object.__class__"))) && (He.eqO (PySem.W.specialIn K (.builtin "object.__class__") "__get__") (some (some (.builtin "getset_descriptor.__get__"))) && (decide (PySem.W.takesIn K (.builtin "object.__class__") = some true) && decide (PySem.W.mroIn K D (.type "object") = some true)))))))
def exB (K : PySem.W.Frag) (x : Str) : Bool := excB K (He.ga K x) && (decide (PySem.W.exmOne K (.ref (He.ga K x)) (.ref (He.ga K "BeadError")) = some true) && ((exL.all fun y => decide (PySem.W.kitOne K (.ref (He.ga K x)) (.ref (He.ga K y)) = some (decide (x = y)))) && decide (PySem.W.kitOne K (.ref (He.ga K x)) (.type "ValueError") = some true)))
def beB (K : PySem.W.Frag) : Bool := (match PySem.W.findCls K (.ref (He.ga K "BeadError")) (.type "type") "__init__" with
  | some (.val (.builtin n)) => decide (n = "ValueError.__init__")
  | _ => false) && (PySem.W.readsIn K (He.ga K "BeadError") (.type "type") && He.eqO (PySem.W.specialIn K (.ref (He.ga K "BeadError")) "__getattribute__") (some (some (.builtin "type.__getattribute__"))))
def erB (K : PySem.W.Frag) : Bool := decide (PySem.W.exmOne K (.ref (He.ga K "NoRow")) (.ref (He.ga K "NoRow")) = some true) && (decide (PySem.W.exmOne K (.ref (He.ga K "NoNumber")) (.ref (He.ga K "NoRow")) = some false) && decide (PySem.W.exmOne K (.ref (He.ga K "NoNumber")) (.ref (He.ga K "NoNumber")) = some true))
def xxB (K : PySem.W.Frag) : Bool := xfB K (He.ga K "NoBead") && (xfB K (He.ga K "Full") && (He.eqO (PySem.W.findIn K (.ref (He.ga K "NoBead")) "thing") (some none) && He.eqO (PySem.W.findIn K (.ref (He.ga K "Full")) "most") (some none)))
def okB (K : PySem.W.Frag) : Bool := (gloL.all fun x => (He.Fa.glo x).ok K) && ((freeL.all fun x => (He.Fa.free x).ok K) && ((He.Fa.str "LETTERS" "abcdefghijklmnopqrstuvwxyz").ok K && ((He.Fa.int "MOST" 100).ok K && ((excL.all fun x => (He.Fa.exc x).ok K) && (ringB K "Ring" && (ringB K "Grove" && (sameB K && ((gmethL.all fun m => (He.Fa.meth "Grove" m).ok K) &&
  ((ownL.all fun x => ownB K x) && ((exL.all fun x => exB K x) && (beB K && (erB K && xxB K))))))))))))
def obsB (K : PySem.W.Frag) : He.AlD := (okB K && fn.all fun d => d.ok K, fn.map fun d => He.fnW K d.at_)
abbrev R : PySem.W.OpenRow := PySem.W.OpenLaw.row PySem.Challenge.rw_beadtrees_k68_whole_refused
def lo0 : List PySem.Str := ["_wall", "__name__", "BeadError", "NoRow", "NoPlace", "NoNumber", "NoName", "NoRun", "NoArm", "NoTree", "Within", "NoParent", "HasArms", "NoBead", "Full", "LETTERS", "MOST", "is_whole", "is_name", "is_bead", "is_row", "want_row", "trees_of", "begun_at", "least", "are_one_ring", "is_place", "want_place", "wants_from", "arc_from"]
def lo1 : List PySem.Str := ["arc", "arc_arcs", "children_of", "parents_of", "children", "children_kin", "parents", "row_text", "is_count", "moves_between", "Ring", "without", "put_behind", "Grove", "row_from", "row_behind", "joined", "split", "_law_pot", "_law_draw", "_law_trees", "_law_name", "_law_row", "_law_arc", "_law_grown", "_law_read", "_law_is_whole", "_law_order", "_law_is_count", "_law_is_bead"]
def lo2 : List PySem.Str := ["_law_number", "_law_count", "_law_word", "_law_is_name", "_law_first_none", "_law_due_graft", "_law_due_bud", "_law_due_of_one", "_law_due_swap", "_law_due_split", "_law_due", "_law_drawn", "_law_call", "_law_said_of", "_law_said", "_law_state", "_law_unmade", "_law_none_made", "_law_hung", "_law_asked", "_law_own_refused"]
def loose : List PySem.Str := lo0 ++ (lo1 ++ (lo2))
def refsM (o : Obj) : List Addr := match o.data with
  | .dict es _ => es.toList.flatMap fun e => He.refV e.val
  | .func fd => He.refV fd.code ++ (He.refV fd.defaults ++ He.refV fd.kwdefaults)
  | .cls cd => [cd.ns]
  | _ => []
def lvl (g : Addr → Option Obj) (as : List Addr) : List Addr := as.flatMap fun a => match g a with
  | some o => refsM o
  | none => []
def asN (g : Addr → Option Obj) : Nat → List Addr → List Addr
  | 0, l => l
  | n + 1, l => l ++ asN g n (lvl g l)
def obM (g : Addr → Option Obj) : He.AlD := obsB (He.frG g (PySem.cStatics :: asN g 4 [mainGlobals]))
def hk : PySem.W.Hook where
  α := He.AlD
  obs := fun s => obM s.heap.get?
  val := fun _ => He.valD fn
  says := fun _ h => ∃ K : PySem.W.Frag, K.In h ∧ obsB K = He.valD fn
  of := fun _ _ e => ⟨_, He.frG_in, e⟩
  keeps := fun _ _ _ ⟨K, hK, c⟩ k => ⟨K, PySem.W.Frag.In.keeps hK k, c⟩
def ob (s : PySem.W.SharedT) : He.AlD := obM (HandSHeadRun.getT s)
theorem ob_eq (s : PySem.W.SharedT) : ob s = hk.obs s.abs := by
  have e : HandSHeadRun.getT s = s.abs.heap.get? := funext (HandSHeadRun.getT_eq s)
  show obM _ = obM _
  rw [e]
theorem run (w : World) : HandSHeadRun.RunEq R (PySem.W.view R.prog [89]) hk ob 6800 loose w := by
  intro os
  kernel_rfl
end Bt

namespace L2
open PySem PySem.Spec PyProof.Rows
/-! ### data in the abstract heap -/
section
variable {K : PySem.W.Frag} {H H' : Hp}
theorem same_rd {a : Addr} {u : HO} (S : Same H H') (h : Rd H a u) : Rd H' a u := by
  rcases h with h | ⟨o, h⟩
  · exact .inl (S _ _ h)
  · exact .inr ⟨o, S _ _ h⟩
theorem same_l {a : Addr} {xs : List V} (S : Same H H') (h : SqL K H a xs) : SqL K H' a xs := by
  rcases h with h | h
  · exact .inl (same_rd S h)
  · exact .inr h
theorem same_t {a : Addr} {xs : List V} (S : Same H H') (h : SqT K H a xs) : SqT K H' a xs := by
  rcases h with h | h
  · exact .inl (same_rd S h)
  · exact .inr h
mutual
theorem dp_mono (S : Same H H') : ∀ (d : PyData) (v : V), Dp K H v d → Dp K H' v d
  | .none, _, h => by cases h; exact .non
  | .bool b, _, h => by cases h; exact .bl b
  | .int i, _, h => by cases h; exact .int i
  | .str x, _, h => by cases h; exact .str x
  | .list ds, _, h => by
    cases h with
    | lst h1 h2 => exact .lst (same_l S h1) (dpAll_mono S ds _ h2)
  | .tuple ds, _, h => by
    cases h with
    | tup h1 h2 => exact .tup (same_t S h1) (dpAll_mono S ds _ h2)
  | .dict _, _, h => by cases h
theorem dpAll_mono (S : Same H H') : ∀ (ds : List PyData) (vs : List V), DpAll K H vs ds → DpAll K H' vs ds
  | [], _, h => by cases h; exact .nil
  | d :: ds, _, h => by
    cases h with
    | cons h1 h2 => exact .cons (dp_mono S d _ h1) (dpAll_mono S ds _ h2)
end
theorem Dp.mono {v : V} {d : PyData} (h : Dp K H v d) (S : Same H H') : Dp K H' v d := dp_mono S d v h
theorem DpAll.mono {vs : List V} {ds : List PyData} (h : DpAll K H vs ds) (S : Same H H') : DpAll K H' vs ds := dpAll_mono S ds vs h
theorem DpAll.len : ∀ {vs : List V} {ds : List PyData}, DpAll K H vs ds → vs.length = ds.length
  | _, [], h => by cases h; rfl
  | _, d :: ds, h => by
    cases h with
    | cons h1 h2 => rw [List.length_cons, List.length_cons, DpAll.len h2]
theorem DpAll.get : ∀ {vs : List V} {ds : List PyData} {i : Nat} {d : PyData}, DpAll K H vs ds → ds[i]? = some d → ∃ v, vs[i]? = some v ∧ Dp K H v d
  | _, [], i, d, h, e => by simp at e
  | _, d0 :: ds, i, d, h, e => by
    cases h with
    | cons h1 h2 =>
      cases i with
      | zero =>
        have e' : d0 = d := Option.some.inj e
        subst e'
        exact ⟨_, rfl, h1⟩
      | succ i => exact DpAll.get (i := i) h2 (by simpa using e)
theorem DpAll.get' : ∀ {vs : List V} {ds : List PyData} {i : Nat} {v : V}, DpAll K H vs ds → vs[i]? = some v → ∃ d, ds[i]? = some d ∧ Dp K H v d
  | _, [], i, d, h, e => by cases h; simp at e
  | _, d0 :: ds, i, v, h, e => by
    cases h with
    | cons h1 h2 =>
      cases i with
      | zero =>
        have e' := Option.some.inj e
        subst e'
        exact ⟨_, rfl, h1⟩
      | succ i => exact DpAll.get' (i := i) h2 (by simpa using e)
theorem DpAll.append : ∀ {vs ws : List V} {ds es : List PyData}, DpAll K H vs ds → DpAll K H ws es → DpAll K H (vs ++ ws) (ds ++ es)
  | _, _, [], _, h, g => by cases h; exact g
  | _, _, d :: ds, _, h, g => by
    cases h with
    | cons h1 h2 => exact .cons h1 (DpAll.append h2 g)
theorem DpAll.drop : ∀ {vs : List V} {ds : List PyData} (n : Nat), DpAll K H vs ds → DpAll K H (vs.drop n) (ds.drop n)
  | _, _, 0, h => h
  | _, [], n + 1, h => by cases h; exact .nil
  | _, d :: ds, n + 1, h => by
    cases h with
    | cons h1 h2 => exact DpAll.drop n h2
theorem DpAll.take : ∀ {vs : List V} {ds : List PyData} (n : Nat), DpAll K H vs ds → DpAll K H (vs.take n) (ds.take n)
  | _, _, 0, h => .nil
  | _, [], n + 1, h => by cases h; exact .nil
  | _, d :: ds, n + 1, h => by
    cases h with
    | cons h1 h2 => exact .cons h1 (DpAll.take n h2)
theorem DpAll.ints : ∀ {vs : List V} {ns : List Int}, DpAll K H vs (ns.map PyData.int) → vs = ns.map V.int
  | _, [], h => by cases h; rfl
  | _, n :: ns, h => by
    cases h with
    | cons h1 h2 => cases h1; rw [List.map_cons, DpAll.ints h2]
theorem DpAll.of_ints : ∀ {ns : List Int}, DpAll K H (ns.map V.int) (ns.map PyData.int)
  | [] => .nil
  | n :: ns => .cons (.int n) DpAll.of_ints
theorem DpAll.bls : ∀ {vs : List V} {α : Type} {f : α → Bool} {cs : List α}, DpAll K H vs (cs.map fun c => PyData.bool (f c)) → vs = cs.map fun c => V.bl (f c)
  | _, _, _, [], h => by cases h; rfl
  | _, _, _, c :: cs, h => by
    cases h with
    | cons h1 h2 => cases h1; rw [List.map_cons, DpAll.bls h2]
theorem DpAll.strs : ∀ {vs : List V} {α : Type} {f : α → Str} {cs : List α}, DpAll K H vs (cs.map fun c => PyData.str (f c)) → vs = cs.map fun c => V.str (f c)
  | _, _, _, [], h => by cases h; rfl
  | _, _, _, c :: cs, h => by
    cases h with
    | cons h1 h2 => cases h1; rw [List.map_cons, DpAll.strs h2]
theorem Dp.tupI {v : V} {ds : List PyData} (h : Dp K H v (.tuple ds)) : ∃ a xs, v = .ref a ∧ SqT K H a xs ∧ DpAll K H xs ds := by
  cases h with
  | tup h1 h2 => exact ⟨_, _, rfl, h1, h2⟩
theorem Dp.lstI {v : V} {ds : List PyData} (h : Dp K H v (.list ds)) : ∃ a xs, v = .ref a ∧ SqL K H a xs ∧ DpAll K H xs ds := by
  cases h with
  | lst h1 h2 => exact ⟨_, _, rfl, h1, h2⟩
theorem Dp.intI {v : V} {i : Int} (h : Dp K H v (.int i)) : v = .int i := by cases h; rfl
theorem Dp.strI {v : V} {i : Str} (h : Dp K H v (.str i)) : v = .str i := by cases h; rfl
end
end L2
namespace Bt
open PySem PySem.Spec PyProof.Rows L2
section
variable {K : PySem.W.Frag} {H H' : Hp}
/-- a thing: data, or an empty dict -/
def TD (K : PySem.W.Frag) (H : Hp) (v : V) (d : PyData) : Prop := Dp K H v d ∨ ∃ a, v = .ref a ∧ H a = some (.dK []) ∧ d = .dict []
theorem TD.mono {v : V} {d : PyData} (h : TD K H v d) (S : Same H H') : TD K H' v d := by
  rcases h with h | ⟨a, e, h, e2⟩
  · exact .inl (h.mono S)
  · exact .inr ⟨a, e, S _ _ h, e2⟩
def tyName : PyData → String
  | .none => "NoneType" | .bool _ => "bool" | .int _ => "int" | .str _ => "str" | .list _ => "list" | .tuple _ => "tuple" | .dict _ => "dict"
theorem ty_l {a : Addr} {xs : List V} (h : SqL K H a xs) : TyX K H (.ref a) (.type "list") := by
  rcases h with (h | ⟨o, h⟩) | ⟨o, its, n, h, hc, _⟩
  · exact .base (.lst h)
  · exact .base (.frz h)
  · exact .kList h hc
theorem ty_t {a : Addr} {xs : List V} (h : SqT K H a xs) : TyX K H (.ref a) (.type "tuple") := by
  rcases h with (h | ⟨o, h⟩) | ⟨o, its, n, h, hc, _⟩
  · exact .base (.tup h)
  · exact .fTuple h
  · exact .kTuple h hc
theorem TD.ty {v : V} {d : PyData} (h : TD K H v d) : TyX K H v (.type (tyName d)) := by
  rcases h with h | ⟨a, rfl, h, rfl⟩
  · cases h with
    | non => exact .base .non
    | bl b => exact .base (.bl b)
    | int i => exact .base (.int i)
    | str x => exact .base (.str x)
    | lst h1 h2 => exact ty_l h1
    | tup h1 h2 => exact ty_t h1
  · exact .base (.dK h)
end
/-- two ways to be walked -/
theorem pi_or {X : Cx} {tg iter : Expr} {w1 w2 : TI} (h1 : PI X tg iter w1) (h2 : PI X tg iter w2) : PI X tg iter (fun σ H R => w1 σ H R ∨ w2 σ H R) := by
  refine ⟨fun pins s σ H R I h => ?_⟩
  rcases h with h | h
  · exact h1.run pins s σ H R I h
  · exact h2.run pins s σ H R I h
/-! ### the built-in classes as values -/
section
variable {X : Cx}
theorem pe_ty {x : Str} {n : String} {pos : Pos} (hm : X.mg x = none) (hg : Gl X x := by rfl) (hv : bootBuiltins x = some (.type n) := by decide +kernel) (hn : x ≠ "__name__" := by decide) (hd : (x == ("__debug__" : Str)) = false := by decide) : PE X (.Name x pos) (tC (.ty n)) :=
  pe_bltn (v := .ty n) hg hm hv rfl hn hd
end
/-- a thing's kind, asked by isinstance -/
def isI (n : String) : PyData → Bool
  | .bool _ => n == "bool" || n == "int"
  | d => tyName d == n
theorem kit_int (K : PySem.W.Frag) (d : PyData) : PySem.W.kitOne K (.type (tyName d)) (.type "int") = some (isI "int" d) := by
  cases d with
  | none => exact kit_ty (show kitB "NoneType" "int" = some false by decide +kernel)
  | bool b => exact kit_ty (show kitB "bool" "int" = some true by decide +kernel)
  | int b => exact kit_ty (show kitB "int" "int" = some true by decide +kernel)
  | str b => exact kit_ty (show kitB "str" "int" = some false by decide +kernel)
  | list b => exact kit_ty (show kitB "list" "int" = some false by decide +kernel)
  | tuple b => exact kit_ty (show kitB "tuple" "int" = some false by decide +kernel)
  | dict b => exact kit_ty (show kitB "dict" "int" = some false by decide +kernel)
theorem kit_bool (K : PySem.W.Frag) (d : PyData) : PySem.W.kitOne K (.type (tyName d)) (.type "bool") = some (isI "bool" d) := by
  cases d with
  | none => exact kit_ty (show kitB "NoneType" "bool" = some false by decide +kernel)
  | bool b => exact kit_ty (show kitB "bool" "bool" = some true by decide +kernel)
  | int b => exact kit_ty (show kitB "int" "bool" = some false by decide +kernel)
  | str b => exact kit_ty (show kitB "str" "bool" = some false by decide +kernel)
  | list b => exact kit_ty (show kitB "list" "bool" = some false by decide +kernel)
  | tuple b => exact kit_ty (show kitB "tuple" "bool" = some false by decide +kernel)
  | dict b => exact kit_ty (show kitB "dict" "bool" = some false by decide +kernel)
theorem kit_str (K : PySem.W.Frag) (d : PyData) : PySem.W.kitOne K (.type (tyName d)) (.type "str") = some (isI "str" d) := by
  cases d with
  | none => exact kit_ty (show kitB "NoneType" "str" = some false by decide +kernel)
  | bool b => exact kit_ty (show kitB "bool" "str" = some false by decide +kernel)
  | int b => exact kit_ty (show kitB "int" "str" = some false by decide +kernel)
  | str b => exact kit_ty (show kitB "str" "str" = some true by decide +kernel)
  | list b => exact kit_ty (show kitB "list" "str" = some false by decide +kernel)
  | tuple b => exact kit_ty (show kitB "tuple" "str" = some false by decide +kernel)
  | dict b => exact kit_ty (show kitB "dict" "str" = some false by decide +kernel)
theorem kit_tuple (K : PySem.W.Frag) (d : PyData) : PySem.W.kitOne K (.type (tyName d)) (.type "tuple") = some (isI "tuple" d) := by
  cases d with
  | none => exact kit_ty (show kitB "NoneType" "tuple" = some false by decide +kernel)
  | bool b => exact kit_ty (show kitB "bool" "tuple" = some false by decide +kernel)
  | int b => exact kit_ty (show kitB "int" "tuple" = some false by decide +kernel)
  | str b => exact kit_ty (show kitB "str" "tuple" = some false by decide +kernel)
  | list b => exact kit_ty (show kitB "list" "tuple" = some false by decide +kernel)
  | tuple b => exact kit_ty (show kitB "tuple" "tuple" = some true by decide +kernel)
  | dict b => exact kit_ty (show kitB "dict" "tuple" = some false by decide +kernel)
theorem kit_list (K : PySem.W.Frag) (d : PyData) : PySem.W.kitOne K (.type (tyName d)) (.type "list") = some (isI "list" d) := by
  cases d with
  | none => exact kit_ty (show kitB "NoneType" "list" = some false by decide +kernel)
  | bool b => exact kit_ty (show kitB "bool" "list" = some false by decide +kernel)
  | int b => exact kit_ty (show kitB "int" "list" = some false by decide +kernel)
  | str b => exact kit_ty (show kitB "str" "list" = some false by decide +kernel)
  | list b => exact kit_ty (show kitB "list" "list" = some true by decide +kernel)
  | tuple b => exact kit_ty (show kitB "tuple" "list" = some false by decide +kernel)
  | dict b => exact kit_ty (show kitB "dict" "list" = some false by decide +kernel)
end Bt

namespace Bt
open PySem PySem.Spec PyProof.Rows L2
theorem passE {P : Program} {w : World} {K : PySem.W.Frag} {mg : Str → Option Value} {base : Heap} {N : List Str} {qual : Str} {scope : Scope} {f : Addr} {cd : Value} {A : Around} {outer : List Env} {s : Shared} {H : Hp} {E : XK} :
    Passes (L2.CX P w) (cxOf (L2.CX P w) P w K mg base N qual scope f cd A outer s H E) E := passes_call (takes_of rfl rfl rfl rfl) (fun _ _ _ _ h => h)
theorem pe_gint {X : Cx} {x : Str} {i : Int} {pos : Pos} (h : ∃ t, X.mg x = some (.int i t)) (hg : Gl X x := by rfl) (hd : (x == ("__debug__" : Str)) = false := by decide) : PE X (.Name x pos) (tC (.int i)) := by
  obtain ⟨t, e⟩ := h
  exact pe_glob hg e ⟨t, rfl⟩ hd
theorem pe_gstr {X : Cx} {x z : Str} {pos : Pos} (h : ∃ t, X.mg x = some (.str z t)) (hg : Gl X x := by rfl) (hd : (x == ("__debug__" : Str)) = false := by decide) : PE X (.Name x pos) (tC (.str z)) := by
  obtain ⟨t, e⟩ := h
  exact pe_glob hg e ⟨t, rfl⟩ hd
/-! ### rules that name the written part -/
def rLenK (K : PySem.W.Frag) : List V → Hp → VK → Prop := fun xs H Q => ∃ x n, xs = [x] ∧ LenV K x H n ∧ Q (.int (n : Nat)) H
theorem call_lenK {X : Cx} {K : PySem.W.Frag} (h : X.K = K := by rfl) : CallR X (.builtin "len") (rLenK K) := by
  subst h
  exact call_len
theorem pe_fldK {X : Cx} {K : PySem.W.Frag} {e : Expr} {f : Str} {pos : Pos} {ta : TE} (he : PE X e ta) (hb : attributeBase e f X.env (eval e X.env) = eval e X.env) (h : X.K = K := by rfl) : PE X (.Attribute e f pos) (tFld K ta f) := by
  subst h
  exact pe_fld he hb
theorem ix_listK {X : Cx} {K : PySem.W.Frag} (h : X.K = K := by rfl) : IxR X (rIxL K) := by
  subst h
  exact ix_list
theorem ix_tupK {X : Cx} {K : PySem.W.Frag} (h : X.K = K := by rfl) : IxR X (rIxT K) := by
  subst h
  exact ix_tup
theorem op_in_seqK {X : Cx} {K : PySem.W.Frag} (h : X.K = K := by rfl) : OpR X (compareOp .In) (rIn K false) := by
  subst h
  exact op_in_seq
theorem op_notIn_seqK {X : Cx} {K : PySem.W.Frag} (h : X.K = K := by rfl) : OpR X (compareOp .NotIn) (rIn K true) := by
  subst h
  exact op_notIn_seq
theorem le_line {n : Nat} (h : n ≤ 100000) : n ≤ sizeLine := Nat.le_trans h (by decide)
theorem lt_line {n : Nat} (h : n < 100000) : n < sizeLine := Nat.lt_of_lt_of_le h (by decide)
theorem same_new {H : Hp} {p : Addr} {o : HO} (h : H p = none) : Same H (upd H p o) := fun b u e => by rw [upd_ne (ne_of_none e h)]; exact e
theorem same_upd {H H' : Hp} {p : Addr} {o : HO} (S : Same H H') (h : H p = none) : Same H (upd H' p o) := fun b u e => by rw [upd_ne (ne_of_none e h)]; exact S b u e
/-! ### data without lists stand whatever lists grow -/
mutual
def noL : PyData → Bool
  | .list _ => false
  | .dict _ => false
  | .tuple ds => noLAll ds
  | _ => true
def noLAll : List PyData → Bool
  | [] => true
  | d :: ds => noL d && noLAll ds
end
section
variable {K : PySem.W.Frag} {H H' : Hp} {D : Addr} {acc : List V}
theorem sqt_but {a : Addr} {xs : List V} (k : ∀ b u, b ≠ D → H b = some u → H' b = some u) (hD : H D = some (.lst acc)) (h : SqT K H a xs) : SqT K H' a xs := by
  rcases h with (h | ⟨o, h⟩) | h
  · exact .inl (.inl (k _ _ (by rintro rfl; rw [hD] at h; cases h) h))
  · exact .inl (.inr ⟨o, k _ _ (by rintro rfl; rw [hD] at h; cases h) h⟩)
  · exact .inr h
mutual
theorem dp_but (k : ∀ b u, b ≠ D → H b = some u → H' b = some u) (hD : H D = some (.lst acc)) : ∀ (d : PyData) (v : V), noL d = true → Dp K H v d → Dp K H' v d
  | .none, _, _, h => by cases h; exact .non
  | .bool b, _, _, h => by cases h; exact .bl b
  | .int i, _, _, h => by cases h; exact .int i
  | .str x, _, _, h => by cases h; exact .str x
  | .list ds, _, n, h => by simp [noL] at n
  | .tuple ds, _, n, h => by
    cases h with
    | tup h1 h2 => exact .tup (sqt_but k hD h1) (dpAll_but k hD ds _ (by simpa [noL] using n) h2)
  | .dict _, _, _, h => by cases h
theorem dpAll_but (k : ∀ b u, b ≠ D → H b = some u → H' b = some u) (hD : H D = some (.lst acc)) : ∀ (ds : List PyData) (vs : List V), noLAll ds = true → DpAll K H vs ds → DpAll K H' vs ds
  | [], _, _, h => by cases h; exact .nil
  | d :: ds, _, n, h => by
    have n' : noL d = true ∧ noLAll ds = true := by simpa [noLAll] using n
    cases h with
    | cons h1 h2 => exact .cons (dp_but k hD d _ n'.1 h1) (dpAll_but k hD ds _ n'.2 h2)
end
theorem noLAll_iff : ∀ {ds : List PyData}, noLAll ds = true ↔ ∀ d ∈ ds, noL d = true
  | [] => by simp [noLAll]
  | d :: ds => by simp [noLAll, noLAll_iff (ds := ds)]
theorem dpAll_snoc {ds : List PyData} {d : PyData} {vs : List V} {v : V} (hD : H D = some (.lst acc)) (acc' : List V) (n1 : noLAll ds = true) (n2 : noL d = true) (h1 : DpAll K H vs ds) (h2 : Dp K H v d) : DpAll K (upd H D (.lst acc')) (vs ++ [v]) (ds ++ [d]) := by
  have k : ∀ b u, b ≠ D → H b = some u → upd H D (.lst acc') b = some u := fun b u hb e => by rw [upd_ne hb]; exact e
  exact DpAll.append (dpAll_but k hD ds vs n1 h1) (.cons (dp_but k hD d v n2 h2) .nil)
end
/-! ### a comprehension whose items are data (or left out) -/
theorem lcg {K : PySem.W.Frag} {J : It} {n : Nat} {G : Hp → Prop} {Y : Nat → Hp → V → Hp → Prop} (wk : Walk J n G Y) {g : TG} {tt : TT} {te : TE} {vs : List Nat} {σ : L2.St} {H1 : Hp} {D : Addr} {Qd : Hp → Prop} (es : List (Option PyData)) (hn : es.length = n) (hz : n ≤ 50000) (hD : H1 D = none)
    (hl : ∀ d, some d ∈ es → noL d = true) (hG : ∀ H, Same H1 H → G H)
    (hs : ∀ i x H H' e, es[i]? = some e → Same H1 H → Y i H x H' → Same H H' ∧ ∀ (Qn : Hp → Prop) (Qy : VK), (e = none → ∀ H4, Same H' H4 → Qn H4) → (∀ d, e = some d → ∀ y H4, Same H' H4 → Dp K H4 y d → Qy y H4) →
      g x (wipe σ vs) H' fun σ2 H2 => wipe σ2 vs = wipe σ vs ∧ tt σ2 H2 fun b H3 => if b = true then te σ2 H3 Qy else Qn H3)
    (hd : ∀ H' acc, Same H1 H' → H' D = some (.lst acc) → DpAll K H' acc (es.filterMap id) → Qd H') :
    ∃ W : Nat → Nat → Hp → Prop, (∃ m, W 0 m (upd H1 D (.lst []))) ∧ ∀ i m H, W i m H →
      (J.stop i H ∧ Qd H) ∨ (J.go i H ∧ ∃ Nx : Hp → Prop, (∀ H', Nx H' → ∃ m', m' < m ∧ W (i + 1) m' H') ∧ ∀ x H', J.yld i H x H' → g x (wipe σ vs) H' fun σ2 H2 => wipe σ2 vs = wipe σ vs ∧ tt σ2 H2 fun b H3 =>
        if b = true then te σ2 H3 fun y H4 => ∃ acc, H4 D = some (.lst acc) ∧ acc.length < sizeLine ∧ Nx (upd H4 D (.lst (acc ++ [y]))) else Nx H3) := by
  subst hn
  refine lc_it wk (fun i H => Same H1 H ∧ ∃ acc, H D = some (.lst acc) ∧ DpAll K H acc ((es.take i).filterMap id)) ⟨same_new hD, [], upd_same, ?_⟩ (fun i H _ p => hG H p.1) ?_ ?_
  · rw [List.take_zero]
    exact .nil
  · rintro i x H H' hi ⟨S, acc, hA, hP⟩ hy
    obtain ⟨S2, st⟩ := hs i x H H' es[i] (List.getElem?_eq_getElem hi) S hy
    have et : es.take (i + 1) = es.take i ++ [es[i]] := by rw [List.take_succ, List.getElem?_eq_getElem hi]; rfl
    have nl : noLAll ((es.take i).filterMap id) = true := noLAll_iff.mpr fun d hd => by
      obtain ⟨a, ha, e⟩ := List.mem_filterMap.mp hd
      have e' : a = some d := e
      subst e'
      exact hl d (List.mem_of_mem_take ha)
    refine st _ _ (fun e H4 S4 => ?_) (fun d e y H4 S4 hy4 => ?_)
    · refine ⟨(S.trans S2).trans S4, acc, S4 _ _ (S2 _ _ hA), ?_⟩
      rw [et, List.filterMap_append, e]
      show DpAll K H4 acc (_ ++ [])
      rw [List.append_nil]
      exact (hP.mono S2).mono S4
    · have hA4 : H4 D = some (.lst acc) := S4 _ _ (S2 _ _ hA)
      have hl2 : acc.length ≤ i := by
        rw [hP.len]
        refine Nat.le_trans (List.length_filterMap_le _ _) ?_
        rw [List.length_take]
        omega
      refine ⟨acc, hA4, lt_line (by omega), same_upd ((S.trans S2).trans S4) hD, acc ++ [y], upd_same, ?_⟩
      rw [et, List.filterMap_append, e]
      exact dpAll_snoc hA4 _ nl (hl d (by rw [← e]; exact List.getElem_mem hi)) ((hP.mono S2).mono S4) hy4
  · rintro H ⟨S, acc, hA, hP⟩
    rw [List.take_length] at hP
    exact hd H acc S hA hP
/-- .. of every item -/
theorem lcm {K : PySem.W.Frag} {J : It} {n : Nat} {G : Hp → Prop} {Y : Nat → Hp → V → Hp → Prop} (wk : Walk J n G Y) {g : TG} {te : TE} {vs : List Nat} {σ : L2.St} {H1 : Hp} {D : Addr} {Qd : Hp → Prop} (ds : List PyData) (hn : ds.length = n) (hz : n ≤ 50000) (hD : H1 D = none)
    (hl : ∀ d ∈ ds, noL d = true) (hG : ∀ H, Same H1 H → G H)
    (hs : ∀ i x H H' d, ds[i]? = some d → Same H1 H → Y i H x H' → Same H H' ∧ ∀ (Qy : VK), (∀ y H4, Same H' H4 → Dp K H4 y d → Qy y H4) →
      g x (wipe σ vs) H' fun σ2 H2 => wipe σ2 vs = wipe σ vs ∧ te σ2 H2 Qy)
    (hm : ∀ x σ0 H0 (R R' : L2.St → Hp → Prop), (∀ σ2 H2, R σ2 H2 → R' σ2 H2) → g x σ0 H0 R → g x σ0 H0 R')
    (hd : ∀ H' acc, Same H1 H' → H' D = some (.lst acc) → DpAll K H' acc ds → Qd H') :
    ∃ W : Nat → Nat → Hp → Prop, (∃ m, W 0 m (upd H1 D (.lst []))) ∧ ∀ i m H, W i m H →
      (J.stop i H ∧ Qd H) ∨ (J.go i H ∧ ∃ Nx : Hp → Prop, (∀ H', Nx H' → ∃ m', m' < m ∧ W (i + 1) m' H') ∧ ∀ x H', J.yld i H x H' → g x (wipe σ vs) H' fun σ2 H2 => wipe σ2 vs = wipe σ vs ∧ tYes σ2 H2 fun b H3 =>
        if b = true then te σ2 H3 fun y H4 => ∃ acc, H4 D = some (.lst acc) ∧ acc.length < sizeLine ∧ Nx (upd H4 D (.lst (acc ++ [y]))) else Nx H3) := by
  refine lcg (K := K) wk (ds.map some) (by rw [List.length_map, hn]) hz hD (fun d h => ?_) hG (fun i x H H' e he S y => ?_) (fun H' acc S hA hP => hd H' acc S hA ?_)
  · obtain ⟨a, ha, e⟩ := List.mem_map.mp h
    rw [← Option.some.inj e]
    exact hl a ha
  · rw [List.getElem?_map] at he
    cases hdi : ds[i]? with
    | none => rw [hdi] at he; cases he
    | some d =>
      rw [hdi] at he
      have e1 : some d = e := Option.some.inj he
      subst e1
      obtain ⟨S2, st⟩ := hs i x H H' d hdi S y
      refine ⟨S2, fun Qn Qy _ hy => hm _ _ _ _ _ (fun σ2 H2 r => ?_) (st Qy fun y H4 S4 d4 => hy d rfl y H4 S4 d4)⟩
      refine ⟨r.1, ?_⟩
      show (if true = true then te σ2 H2 Qy else Qn H2)
      rw [if_pos rfl]
      exact r.2
  · have e : (ds.map some).filterMap id = ds := by
      rw [List.filterMap_map]
      simp
    rw [← e]
    exact hP
theorem gname_mono {j : Nat} : ∀ x σ0 H0 (R R' : L2.St → Hp → Prop), (∀ σ2 H2, R σ2 H2 → R' σ2 H2) → gName j x σ0 H0 R → gName j x σ0 H0 R' := fun _ _ _ _ _ k h => k _ _ h
theorem gtup2_mono {K : PySem.W.Frag} {i j : Nat} : ∀ x σ0 H0 (R R' : L2.St → Hp → Prop), (∀ σ2 H2, R σ2 H2 → R' σ2 H2) → gTup K 2 (gCons (gName i) (gCons (gName j) gNil)) x σ0 H0 R → gTup K 2 (gCons (gName i) (gCons (gName j) gNil)) x σ0 H0 R' := fun _ _ _ _ _ k h => by
  obtain ⟨a, xs, e1, e2, e3, v, r, e4, v2, r2, e5, e6, h⟩ := h
  exact ⟨a, xs, e1, e2, e3, v, r, e4, v2, r2, e5, e6, k _ _ h⟩
end Bt

namespace Bt
open PySem PySem.Spec PyProof.Rows L2
/-! ### is_whole -/
def dWhole : PyData → Bool
  | .int _ => true
  | _ => false
def spWhole (K : PySem.W.Frag) : Sp := fun vs H Q _ => ∃ v d, vs = [v] ∧ TD K H v d ∧ Q (.bl (dWhole d)) H
/-! ### names -/
def letters : Str := "abcdefghijklmnopqrstuvwxyz"
def lowB (c : Nat) : Bool := decide (c ∈ letters.cps.toList)
def nameB (z : Str) : Bool := decide (1 ≤ z.length) && (decide (z.length ≤ 8) && z.cps.toList.all lowB)
def dName : PyData → Bool
  | .str z => nameB z
  | _ => false
mutual
def small : PyData → Bool
  | .str z => decide (z.length ≤ 1000)
  | .list ds => smallAll ds
  | .tuple ds => smallAll ds
  | _ => true
def smallAll : List PyData → Bool
  | [] => true
  | d :: ds => small d && smallAll ds
end
def dGe : PyData → Bool
  | .int i => decide (0 ≤ i)
  | _ => false
def dBead : PyData → Bool
  | .tuple [a, b] => dName a && (dWhole b && dGe b)
  | _ => false
def spBead (K : PySem.W.Frag) : Sp := fun vs H Q _ => ∃ v d, vs = [v] ∧ TD K H v d ∧ small d = true ∧ ∀ H', Same H H' → Q (.bl (dBead d)) H'
def dArms : PyData → Int
  | .tuple [_, .int i] => i
  | _ => 0
def rowB (ds : List PyData) : Bool := decide (1 ≤ ds.length) && (decide (ds.length ≤ 100) && (ds.all dBead && decide ((ds.map dArms).sum < (ds.length : Int))))
def dRow : PyData → Bool
  | .list ds => rowB ds
  | .tuple ds => rowB ds
  | _ => false
def spRow (K : PySem.W.Frag) : Sp := fun vs H Q _ => ∃ v d, vs = [v] ∧ TD K H v d ∧ small d = true ∧ ∀ H', Same H H' → Q (.bl (dRow d)) H'
theorem two_of {α : Type} : ∀ {l : List α}, l.length = 2 → ∃ a b, l = [a, b]
  | [a, b], _ => ⟨a, b, rfl⟩
  | [], h => by simp at h
  | [_], h => by simp at h
  | _ :: _ :: _ :: _, h => by simp at h
theorem dBead_ne : ∀ {ds : List PyData}, ¬ ds.length = 2 → dBead (.tuple ds) = false
  | [], _ => rfl
  | [_], _ => rfl
  | [_, _], h2 => absurd rfl h2
  | _ :: _ :: _ :: _, _ => rfl
theorem ne_two {n : Nat} (h : ¬ n = 2) : (!decide (V.int (n : Nat) = V.int 2)) = true := by
  have : ¬ V.int (n : Nat) = V.int 2 := fun z => h (by injection z with z; omega)
  rw [decide_eq_false this]
  rfl
theorem rowB_short {ds : List PyData} (h : ds.length < 1) : rowB ds = false := by
  unfold rowB
  rw [decide_eq_false (show ¬ 1 ≤ ds.length by omega)]
  rfl
theorem rowB_long {ds : List PyData} (h : 100 < ds.length) : rowB ds = false := by
  unfold rowB
  rw [decide_eq_false (show ¬ ds.length ≤ 100 by omega), Bool.false_and, Bool.and_false]
theorem rowB_bad {ds : List PyData} (h : ds.all dBead = false) : rowB ds = false := by
  unfold rowB
  rw [h, Bool.false_and, Bool.and_false, Bool.and_false]
theorem rowB_all {ds : List PyData} (h1 : 1 ≤ ds.length) (h2 : ds.length ≤ 100) (h : ds.all dBead = true) : rowB ds = decide ((ds.map dArms).sum < (ds.length : Int)) := by
  unfold rowB
  rw [h, decide_eq_true h1, decide_eq_true h2, Bool.true_and, Bool.true_and, Bool.true_and]
theorem dBead_inv : ∀ {d : PyData}, dBead d = true → ∃ z i, d = .tuple [.str z, .int i]
  | .tuple [a, b], h => by
    have h' : (dName a && (dWhole b && dGe b)) = true := h
    cases a with
    | str z =>
      cases b with
      | int i => exact ⟨z, i, rfl⟩
      | _ => simp [dWhole] at h'
    | _ => simp [dName] at h'
  | .tuple [], h => by simp [dBead] at h
  | .tuple [_], h => by simp [dBead] at h
  | .tuple (_ :: _ :: _ :: _), h => by simp [dBead] at h
  | .none, h => by simp [dBead] at h
  | .bool _, h => by simp [dBead] at h
  | .int _, h => by simp [dBead] at h
  | .str _, h => by simp [dBead] at h
  | .list _, h => by simp [dBead] at h
  | .dict _, h => by simp [dBead] at h
theorem smallAll_get : ∀ {ds : List PyData} {i : Nat} {d : PyData}, smallAll ds = true → ds[i]? = some d → small d = true
  | [], i, d, _, e => by simp at e
  | d0 :: ds, 0, d, h, e => by
    have e' : d0 = d := Option.some.inj e
    subst e'
    have h' : small d0 = true ∧ smallAll ds = true := by simpa [smallAll] using h
    exact h'.1
  | d0 :: ds, i + 1, d, h, e => by
    have h' : small d0 = true ∧ smallAll ds = true := by simpa [smallAll] using h
    exact smallAll_get (i := i) h'.2 (by simpa using e)
theorem kit_lt (K : PySem.W.Frag) (d : PyData) : PySem.W.kitAny K (.type (tyName d)) [.type "list", .type "tuple"] = some (isI "list" d || isI "tuple" d) := by
  refine kitAny_cons (kit_list K d) (fun h => ?_) (fun h => ?_)
  · rw [h, Bool.false_or]
    refine kitAny_cons (kit_tuple K d) (fun h => ?_) (fun h => h)
    rw [h]
    rfl
  · rw [h]
    rfl
theorem row_cases {K : PySem.W.Frag} {H : Hp} {v : V} {d : PyData} (hd : TD K H v d) (hs : small d = true) :
    (∃ a xs ds, v = .ref a ∧ (SqL K H a xs ∨ SqT K H a xs) ∧ DpAll K H xs ds ∧ smallAll ds = true ∧ dRow d = rowB ds ∧ (isI "list" d || isI "tuple" d) = true) ∨ (dRow d = false ∧ (isI "list" d || isI "tuple" d) = false) := by
  rcases hd with hd | ⟨_, _, _, rfl⟩
  · cases hd with
    | lst h1 h2 => exact .inl ⟨_, _, _, rfl, .inl h1, h2, (by simpa [small] using hs), rfl, rfl⟩
    | tup h1 h2 => exact .inl ⟨_, _, _, rfl, .inr h1, h2, (by simpa [small] using hs), rfl, rfl⟩
    | _ => exact .inr ⟨rfl, rfl⟩
  · exact .inr ⟨rfl, rfl⟩
/-- a list or a tuple is walked -/
theorem orWalk {K : PySem.W.Frag} {H : Hp} {a : Addr} {xs : List V} {te : TE} {σ : L2.St} {R : It → Hp → Prop} (ht : ∀ Q : VK, Q (.ref a) H → te σ H Q) (h : SqL K H a xs ∨ SqT K H a xs) (k : ∀ J, Walk J xs.length (fun H' => Same H H') (YAt xs) → R J H) : iList K te σ H R ∨ iTup K te σ H R := by
  rcases h with h | h
  · exact .inl (ht _ ⟨a, rfl, ⟨xs, h⟩, k _ (walk_list.mono (fun H' S => same_l S h) fun _ _ _ _ _ _ y => y)⟩)
  · exact .inr (ht _ ⟨a, rfl, ⟨xs, h⟩, k _ (walk_tup.mono (fun H' S => same_t S h) fun _ _ _ _ _ _ y => y)⟩)
def spName (K : PySem.W.Frag) : Sp := fun vs H Q _ => ∃ v d, vs = [v] ∧ TD K H v d ∧ small d = true ∧ ∀ H', Same H H' → Q (.bl (dName d)) H'
section
variable {P : Program} {w : World} {K : PySem.W.Frag} {mg : Str → Option Value} {base : Heap}
theorem ok_is_whole (T : Txt K mg) : FO P w K mg base (L2.CX P w) 1 (a_is_whole K) ["thing"] (spWhole K) := by
  refine T.d_is_whole.ok sc_is_whole (fun vs H Q E h => ?_) (fun cdv A outer s H vs Q E hr h => ?_)
  · obtain ⟨v, d, rfl, _⟩ := h
    rfl
  · obtain ⟨v, d, rfl, hd, q⟩ := h
    refine ⟨_, (pss_one (ps_ret (pe_and (pe_callB (id := "isinstance") call_isi (by rfl) T.f_isinstance (by decide +kernel) (pa_cons (pv 0) (pa_cons (pe_ty (n := "int") T.f_int) pa_nil))) (pe_one (pe_not (pe_callB (id := "isinstance") call_isi (by rfl) T.f_isinstance (by decide +kernel) (pa_cons (pv 0) (pa_cons (pe_ty (n := "bool") T.f_bool) pa_nil)))))))), ?_⟩
    refine ⟨_, rfl, _, _, _, _, _, rfl, .ty _, hd.ty, kit_int K d, _, rfl, ?_⟩
    cases d with
    | int i => exact ⟨_, rfl, _, _, _, _, _, rfl, .ty _, hd.ty, kit_bool K (.int i), _, rfl, q⟩
    | bool b => exact ⟨_, rfl, _, _, _, _, _, rfl, .ty _, hd.ty, kit_bool K (.bool b), _, rfl, q⟩
    | _ => exact q
theorem ok_is_name (T : Txt K mg) : FO P w K mg base (L2.CX P w) 1 (a_is_name K) ["thing"] (spName K) := by
  refine T.d_is_name.ok sc_is_name (fun vs H Q E h => ?_) (fun cdv A outer s H vs Q E hr h => ?_)
  · obtain ⟨v, d, rfl, _⟩ := h
    rfl
  · obtain ⟨v, d, rfl, hd, hs, q⟩ := h
    refine ⟨_, (pss_cons (ps_if (PW.pt (pw_or (pt_not (pt_val (pe_callB (id := "isinstance") call_isi (by rfl) T.f_isinstance (by decide +kernel) (pa_cons (pv 0) (pa_cons (pe_ty (n := "str") T.f_str) pa_nil))))) (pw_or (pt_cmpR op_lt (pe_callB (id := "len") call_len (by rfl) T.f_len (by decide +kernel) (pa_cons (pv 0) pa_nil)) pe_int (nomark _)) (pw_or1 (pt_cmpR op_gt (pe_callB (id := "len") call_len (by rfl) T.f_len (by decide +kernel) (pa_cons (pv 0) pa_nil)) pe_int (nomark _)))))) (pss_one (ps_ret pe_bl)) pss_nil) (pss_one (ps_ret (pe_callB (id := "all") (cr_all rfl) (by rfl) T.f_all (by decide +kernel) (pa_cons (pe_lc (own := [("sign", 1)]) (g := gName 1) rfl sc_is_name.nd (pi_str (pv 0)) (blkOk_by (own := [("sign", 1)]) (N := ["thing", "sign"]) (sc := defScope s_is_name) (by decide +kernel)) (fun _ _ _ _ _ => pg_name (i := 1) sc_is_name.nd rfl (Or.inl rfl)) (fun _ _ _ _ _ => pts_nil) (fun _ _ _ _ _ => (pe_cmpR op_in_sign (pv 1) (pe_gstr T.letters) rfl))) pa_nil))))), ?_⟩
    refine ⟨_, rfl, _, _, _, _, _, rfl, .ty _, hd.ty, kit_str K d, _, rfl, ?_⟩
    cases d with
    | str z =>
      rcases hd with hd | ⟨_, _, _, e⟩
      · cases hd
        have hz : z.length ≤ 1000 := of_decide_eq_true hs
        refine ⟨_, rfl, _, z.length, rfl, ⟨le_line (by omega), rfl⟩, _, _, rfl, rfl, _, rfl, ?_⟩
        refine ite2 (fun h1 => ?_) (fun h1 => ?_)
        · have e : dName (.str z) = false := by
            have h2 := of_decide_eq_true h1
            show nameB z = false
            unfold nameB
            rw [decide_eq_false (show ¬ 1 ≤ z.length by omega)]
            rfl
          have q2 := q _ (Same.refl _)
          rw [e] at q2
          exact q2
        refine ⟨_, rfl, _, z.length, rfl, ⟨le_line (by omega), rfl⟩, _, _, rfl, rfl, _, rfl, ?_⟩
        refine ite2 (fun h2 => ?_) (fun h2 => ?_)
        · have e : dName (.str z) = false := by
            have h3 := of_decide_eq_true h2
            show nameB z = false
            unfold nameB
            rw [decide_eq_false (show ¬ z.length ≤ 8 by omega), Bool.false_and, Bool.and_false]
          have q2 := q _ (Same.refl _)
          rw [e] at q2
          exact q2
        refine ⟨_, rfl, z, rfl, fun D hD => ?_⟩
        refine lcm (K := K) (walk_str (z := z)) (z.cps.toList.map fun c => .bool (lowB c)) (by rw [List.length_map]; simp) (by have e : z.length = z.cps.size := rfl; omega) hD (fun d h => ?_) (fun _ _ => True.intro) (fun i x H1 H1' d hi S y => ?_) gname_mono (fun H' acc S hA hP => ?_)
        · obtain ⟨c, _, rfl⟩ := List.mem_map.mp h
          rfl
        · obtain ⟨rfl, c, hc, rfl⟩ := y
          rw [List.getElem?_map, Array.getElem?_toList, hc] at hi
          have e := Option.some.inj hi
          subst e
          exact ⟨Same.refl _, fun Qy hy => ⟨rfl, _, rfl, c, letters, rfl, rfl, hy _ _ (Same.refl _) (.bl _)⟩⟩
        · have e1 : acc = (z.cps.toList.map lowB).map V.bl := by
            rw [List.map_map]
            exact DpAll.bls hP
          rw [e1] at hA
          refine ⟨D, z.cps.toList.map lowB, rfl, .inl (.inl hA), ?_⟩
          have e : (z.cps.toList.map lowB).all id = dName (.str z) := by
            show _ = nameB z
            unfold nameB
            have h3 : ¬ z.length < 1 := fun h => h1 (by rw [decide_eq_true_eq]; exact_mod_cast h)
            have h4 : ¬ 8 < z.length := fun h => h2 (by rw [decide_eq_true_eq]; exact_mod_cast h)
            rw [decide_eq_true (show 1 ≤ z.length by omega), decide_eq_true (show z.length ≤ 8 by omega), Bool.true_and, Bool.true_and, List.all_map]
            rfl
          rw [e]
          exact q _ S
      · cases e
    | _ => exact q _ (Same.refl _)
theorem ok_is_bead (T : Txt K mg) : FO P w K mg base (L2.CX P w) 2 (a_is_bead K) ["thing"] (spBead K) := by
  refine T.d_is_bead.ok sc_is_bead (fun vs H Q E h => ?_) (fun cdv A outer s H vs Q E hr h => ?_)
  · obtain ⟨v, d, rfl, _⟩ := h
    rfl
  · obtain ⟨v, d, rfl, hd, hs, q⟩ := h
    have G_is_name := ok_is_name (P := P) (w := w) (base := base) T
    have G_is_whole := ok_is_whole (P := P) (w := w) (base := base) T
    refine ⟨_, (pss_cons (ps_if (PW.pt (pw_or (pt_not (pt_val (pe_callB (id := "isinstance") call_isi (by rfl) T.f_isinstance (by decide +kernel) (pa_cons (pv 0) (pa_cons (pe_ty (n := "tuple") T.f_tuple) pa_nil))))) (pw_or1 (pt_cmpR op_ne (pe_callB (id := "len") call_len (by rfl) T.f_len (by decide +kernel) (pa_cons (pv 0) pa_nil)) pe_int (nomark _))))) (pss_one (ps_ret pe_bl)) pss_nil) (pss_cons (ps_asg (pv 0) (pg_tup rfl (pgs_cons (pg_name (i := 1) sc_is_bead.nd rfl (Or.inl rfl)) (pgs_cons (pg_name (i := 2) sc_is_bead.nd rfl (Or.inl rfl)) pgs_nil)))) (pss_one (ps_ret (pe_and (pe_call G_is_name (hr.mono (by decide)) rfl T.g_is_name T.d_is_name.kp T.b_is_name .nil passE (pa_cons (pv 1) pa_nil)) (pe_and (pe_call G_is_whole (hr.mono (by decide)) rfl T.g_is_whole T.d_is_whole.kp T.b_is_whole .nil passE (pa_cons (pv 2) pa_nil)) (pe_one (pe_cmpR op_ge (pv 2) pe_int (nomark _))))))))), ?_⟩
    refine ⟨_, rfl, _, _, _, _, _, rfl, .ty _, hd.ty, kit_tuple K d, _, rfl, ?_⟩
    cases d with
    | tuple ds =>
      rcases hd with hd | ⟨_, _, _, e⟩
      · obtain ⟨a, xs, rfl, hT, hA⟩ := hd.tupI
        refine ⟨_, rfl, _, xs.length, rfl, .inr ⟨xs, hT, rfl⟩, rfl, _, rfl, ?_⟩
        rw [hA.len]
        by_cases h2 : ds.length = 2
        · have e : (!decide (V.int (ds.length : Nat) = V.int 2)) = false := by rw [h2]; rfl
          rw [e]
          refine iteF ?_
          obtain ⟨d1, d2, rfl⟩ := two_of h2
          cases hA with
          | cons p1 r =>
            cases r with
            | cons p2 r =>
              cases r
              have hs' : small d1 = true ∧ small d2 = true := by simpa [small, smallAll] using hs
              refine ⟨_, rfl, a, _, rfl, hT, rfl, _, _, rfl, _, [], rfl, rfl, ?_⟩
              refine ⟨_, rfl, _, d1, rfl, .inl p1, hs'.1, fun H1 S1 => ⟨_, rfl, ?_⟩⟩
              cases e1 : dName d1 with
              | false =>
                refine iteF ?_
                have q2 := q H1 S1
                have e2 : dBead (.tuple [d1, d2]) = false := by show (dName d1 && (dWhole d2 && dGe d2)) = false; rw [e1]; rfl
                rw [e2] at q2
                exact q2
              | true =>
                refine iteT ?_
                refine ⟨_, rfl, _, d2, rfl, .inl (p2.mono S1), ⟨_, rfl, ?_⟩⟩
                have q2 := q H1 S1
                have e2 : dBead (.tuple [d1, d2]) = (dWhole d2 && dGe d2) := by show (dName d1 && (dWhole d2 && dGe d2)) = _; rw [e1]; rfl
                rw [e2] at q2
                cases d2 with
                | int i =>
                  cases p2
                  exact ⟨_, rfl, i, 0, rfl, rfl, q2⟩
                | _ => exact q2
        · have e : (!decide (V.int (ds.length : Nat) = V.int 2)) = true := ne_two h2
          rw [e]
          refine iteT ?_
          have q2 := q _ (Same.refl _)
          have e2 : dBead (.tuple ds) = false := dBead_ne h2
          rw [e2] at q2
          exact q2
      · cases e
    | _ => exact q _ (Same.refl _)
theorem ok_is_row (T : Txt K mg) : FO P w K mg base (L2.CX P w) 3 (a_is_row K) ["thing"] (spRow K) := by
  refine T.d_is_row.ok sc_is_row (fun vs H Q E h => ?_) (fun cdv A outer s H vs Q E hr h => ?_)
  · obtain ⟨v, d, rfl, _⟩ := h
    rfl
  · obtain ⟨v, d, rfl, hd, hs, q⟩ := h
    have G_is_bead := ok_is_bead (P := P) (w := w) (base := base) T
    refine ⟨_, (pss_cons (ps_if (PW.pt (pw_or (pt_not (pt_val (pe_callB (id := "isinstance") call_isiT (by rfl) T.f_isinstance (by decide +kernel) (pa_cons (pv 0) (pa_cons (pe_tup (pa_cons (pe_ty (n := "list") T.f_list) (pa_cons (pe_ty (n := "tuple") T.f_tuple) pa_nil))) pa_nil))))) (pw_or (pt_cmpR op_lt (pe_callB (id := "len") call_len (by rfl) T.f_len (by decide +kernel) (pa_cons (pv 0) pa_nil)) pe_int (nomark _)) (pw_or1 (pt_cmpR op_gt (pe_callB (id := "len") call_len (by rfl) T.f_len (by decide +kernel) (pa_cons (pv 0) pa_nil)) (pe_gint T.most) (nomark _)))))) (pss_one (ps_ret pe_bl)) pss_nil) (pss_cons (ps_if (pt_not (pt_val (pe_callB (id := "all") (cr_all rfl) (by rfl) T.f_all (by decide +kernel) (pa_cons (pe_lc (own := [("bead", 1)]) (g := gName 1) rfl sc_is_row.nd (pi_or (pi_list (pv 0)) (pi_tup (pv 0))) (blkOk_by (own := [("bead", 1)]) (N := ["thing", "bead", "name", "many"]) (sc := defScope s_is_row) (by decide +kernel)) (fun _ _ _ _ _ => pg_name (i := 1) sc_is_row.nd rfl (Or.inl rfl)) (fun _ _ _ _ _ => pts_nil) (fun _ _ _ _ _ => (pe_call G_is_bead (hr.mono (by decide)) rfl T.g_is_bead T.d_is_bead.kp T.b_is_bead .nil passL (pa_cons (pv 1) pa_nil)))) pa_nil)))) (pss_one (ps_ret pe_bl)) pss_nil) (pss_one (ps_ret (pe_cmpR op_lt (pe_callB (id := "sum") (cr_sum rfl) (by rfl) T.f_sum (by decide +kernel) (pa_cons (pe_lc (own := [("name", 2), ("many", 3)]) (g := gTup K 2 (gCons (gName 2) (gCons (gName 3) gNil))) rfl sc_is_row.nd (pi_or (pi_list (pv 0)) (pi_tup (pv 0))) (blkOk_by (own := [("name", 2), ("many", 3)]) (N := ["thing", "bead", "name", "many"]) (sc := defScope s_is_row) (by decide +kernel)) (fun _ _ _ _ _ => pg_tup rfl (pgs_cons (pg_name (i := 2) sc_is_row.nd rfl (Or.inl rfl)) (pgs_cons (pg_name (i := 3) sc_is_row.nd rfl (Or.inl rfl)) pgs_nil))) (fun _ _ _ _ _ => pts_nil) (fun _ _ _ _ _ => (pv 3))) pa_nil)) (pe_callB (id := "len") call_len (by rfl) T.f_len (by decide +kernel) (pa_cons (pv 0) pa_nil)) (nomark _)))))), ?_⟩
    refine ⟨_, rfl, (le_line (by decide)), fun p hp => ?_⟩
    have S1 : Same H (upd H p (.tup [.ty "list", .ty "tuple"])) := same_new hp
    generalize eH1 : upd H p (.tup [.ty "list", .ty "tuple"]) = H1 at S1
    have hp1 : H1 p = some (.tup [.ty "list", .ty "tuple"]) := by rw [← eH1, upd_same]
    refine ⟨_, p, _, _, _, _, rfl, hp1, .cons (.ty _) (.cons (.ty _) .nil), (hd.mono S1).ty, kit_lt K d, _, rfl, ?_⟩
    rcases row_cases (hd.mono S1) hs with ⟨a, xs, ds, rfl, hq, hA, hsm, ed, ei⟩ | ⟨ed, ei⟩
    · rw [ei]
      refine iteF ?_
      refine ⟨_, rfl, _, xs.length, rfl, (by rcases hq with h | h; exact .inl ⟨xs, h, rfl⟩; exact .inr ⟨xs, h, rfl⟩), _, _, rfl, rfl, _, rfl, ?_⟩
      refine ite2 (fun h1 => ?_) (fun h1 => ?_)
      · have q2 := q _ S1
        have h2 := of_decide_eq_true h1
        rw [ed, rowB_short (by rw [← hA.len]; omega)] at q2
        exact q2
      refine ⟨_, rfl, _, xs.length, rfl, (by rcases hq with h | h; exact .inl ⟨xs, h, rfl⟩; exact .inr ⟨xs, h, rfl⟩), _, _, rfl, rfl, _, rfl, ?_⟩
      refine ite2 (fun h2 => ?_) (fun h2 => ?_)
      · have q2 := q _ S1
        have h3 := of_decide_eq_true h2
        rw [ed, rowB_long (by rw [← hA.len]; omega)] at q2
        exact q2
      have l1 : 1 ≤ xs.length := by
        have : ¬ ((xs.length : Nat) : Int) < 1 := fun z => h1 (decide_eq_true z)
        omega
      have l2 : xs.length ≤ 100 := by
        have : ¬ (100 : Int) < ((xs.length : Nat) : Int) := fun z => h2 (decide_eq_true z)
        omega
      -- all([..])
      refine orWalk (fun Q q => ⟨_, rfl, q⟩) hq fun J wk D hD => ?_
      refine lcm (K := K) wk (ds.map fun d => .bool (dBead d)) (by rw [List.length_map, hA.len]) (by omega) hD (fun d h => ?_) (fun _ S => S) (fun i x H2 H2' d hi S y => ?_) gname_mono (fun H2 acc S2 hD2 hP => ?_)
      · obtain ⟨c, _, rfl⟩ := List.mem_map.mp h
        rfl
      · obtain ⟨rfl, hx⟩ := y
        obtain ⟨d', hd', hx'⟩ := hA.get' hx
        rw [List.getElem?_map, hd'] at hi
        have e := Option.some.inj hi
        subst e
        refine ⟨Same.refl _, fun Qy hy => ⟨rfl, _, rfl, x, d', rfl, .inl (hx'.mono S), smallAll_get hsm hd', fun H4 S4 => hy _ _ S4 (.bl _)⟩⟩
      · have e1 : acc = (ds.map dBead).map V.bl := by
          rw [List.map_map]
          exact DpAll.bls hP
        rw [e1] at hD2
        refine ⟨D, ds.map dBead, rfl, .inl (.inl hD2), _, rfl, ?_⟩
        have ea : (ds.map dBead).all id = ds.all dBead := by rw [List.all_map]; rfl
        rw [ea]
        have S3 := S1.trans S2
        cases e2 : ds.all dBead with
        | false =>
          refine iteT ?_
          have q2 := q _ S3
          rw [ed, rowB_bad e2] at q2
          exact q2
        | true =>
          refine iteF ?_
          have hq2 : SqL K H2 a xs ∨ SqT K H2 a xs := hq.imp (same_l S2) (same_t S2)
          have hA2 := hA.mono S2
          refine orWalk (fun Q q => ⟨_, rfl, q⟩) hq2 fun J wk D2 hD2 => ?_
          refine lcm (K := K) wk (ds.map fun d => .int (dArms d)) (by rw [List.length_map, hA.len]) (by omega) hD2 (fun d h => ?_) (fun _ S => S) (fun i x H3 H3' d hi S y => ?_) gtup2_mono (fun H3 acc S4 hD3 hP => ?_)
          · obtain ⟨c, _, rfl⟩ := List.mem_map.mp h
            rfl
          · obtain ⟨rfl, hx⟩ := y
            obtain ⟨d', hd', hx'⟩ := hA2.get' hx
            rw [List.getElem?_map, hd'] at hi
            have e := Option.some.inj hi
            subst e
            obtain ⟨z, m, ed'⟩ := dBead_inv (List.all_eq_true.mp e2 d' (List.mem_of_getElem? hd'))
            subst ed'
            obtain ⟨t, zs, rfl, hT, hZ⟩ := (hx'.mono S).tupI
            cases hZ with
            | cons z1 r =>
              cases r with
              | cons z2 r =>
                cases r
                cases z1
                cases z2
                exact ⟨Same.refl _, fun Qy hy => ⟨t, _, rfl, hT, rfl, _, _, rfl, _, _, rfl, rfl, rfl, _, rfl, hy _ _ (Same.refl _) (.int _)⟩⟩
          · have e1 : acc = (ds.map dArms).map V.int := by
              have hP' : DpAll K H3 acc ((ds.map dArms).map PyData.int) := by
                rw [List.map_map]
                exact hP
              exact hP'.ints
            rw [e1] at hD3
            refine ⟨D2, ds.map dArms, rfl, .inl (.inl hD3), ?_⟩
            refine ⟨_, rfl, _, xs.length, rfl, (by rcases hq2 with h | h; exact .inl ⟨xs, same_l S4 h, rfl⟩; exact .inr ⟨xs, same_t S4 h, rfl⟩), _, _, rfl, rfl, ?_⟩
            have q2 := q _ (S3.trans S4)
            rw [ed, rowB_all (by rw [← hA.len]; exact l1) (by rw [← hA.len]; exact l2) e2, ← hA.len] at q2
            exact q2
    · rw [ei]
      refine iteT ?_
      have q2 := q _ S1
      rw [ed] at q2
      exact q2
end
end Bt

namespace Bt
open PySem PySem.Spec PyProof.Rows L2
/-! ### rows -/
abbrev Row := List (Str × Nat)
def beadD (b : Str × Nat) : PyData := .tuple [.str b.1, .int (b.2 : Nat)]
def rowD (r : Row) : List PyData := r.map beadD
def arms (r : Row) : Nat := (r.map (·.2)).sum
structure Good (r : Row) : Prop where
  ne : 1 ≤ r.length
  le : r.length ≤ 100
  nm : ∀ b ∈ r, nameB b.1 = true
  lt : arms r < r.length
theorem rowD_len (r : Row) : (rowD r).length = r.length := List.length_map ..
theorem rowD_get {r : Row} {i : Nat} {b : Str × Nat} (h : r[i]? = some b) : (rowD r)[i]? = some (beadD b) := by
  unfold rowD
  rw [List.getElem?_map, h]
  rfl
theorem nameB_len {z : Str} (h : nameB z = true) : 1 ≤ z.length ∧ z.length ≤ 8 := by
  unfold nameB at h
  simp only [Bool.and_eq_true, decide_eq_true_eq] at h
  exact ⟨h.1, h.2.1⟩
theorem small_row : ∀ {r : Row}, (∀ b ∈ r, nameB b.1 = true) → smallAll (rowD r) = true
  | [], _ => rfl
  | b :: r, h => by
    have h1 := nameB_len (h b (List.mem_cons_self ..))
    have h2 := small_row (r := r) fun c hc => h c (List.mem_cons_of_mem _ hc)
    show (small (beadD b) && smallAll (rowD r)) = true
    rw [h2, Bool.and_true]
    show (decide (b.1.length ≤ 1000) && (true && true)) = true
    rw [decide_eq_true (by omega)]
    rfl
theorem dBead_bead {b : Str × Nat} : dBead (beadD b) = nameB b.1 := by
  show (nameB b.1 && (true && decide ((0 : Int) ≤ (b.2 : Nat)))) = nameB b.1
  rw [decide_eq_true (by omega), Bool.and_true, Bool.and_true]
theorem all_bead : ∀ {r : Row}, (∀ b ∈ r, nameB b.1 = true) → (rowD r).all dBead = true
  | [], _ => rfl
  | b :: r, h => by
    show (dBead (beadD b) && (rowD r).all dBead) = true
    rw [all_bead fun c hc => h c (List.mem_cons_of_mem _ hc), dBead_bead, h b (List.mem_cons_self ..)]
    rfl
theorem arms_sum : ∀ (r : Row), ((rowD r).map dArms).sum = (arms r : Nat)
  | [] => rfl
  | b :: r => by
    have ih := arms_sum r
    show ((b.2 : Nat) : Int) + ((rowD r).map dArms).sum = ((b.2 + (r.map (·.2)).sum : Nat) : Int)
    rw [ih]
    unfold arms
    omega
theorem rowB_iff {r : Row} (h1 : 1 ≤ r.length) (h2 : r.length ≤ 100) (h3 : ∀ b ∈ r, nameB b.1 = true) : rowB (rowD r) = decide (arms r < r.length) := by
  rw [rowB_all (by rw [rowD_len]; exact h1) (by rw [rowD_len]; exact h2) (all_bead h3), arms_sum, rowD_len]
  by_cases h : arms r < r.length
  · rw [decide_eq_true h, decide_eq_true (by omega)]
  · rw [decide_eq_false h, decide_eq_false (by omega)]
theorem Good.row {r : Row} (g : Good r) : rowB (rowD r) = true := by
  rw [rowB_iff g.ne g.le g.nm, decide_eq_true g.lt]
theorem Good.sm {r : Row} (g : Good r) : smallAll (rowD r) = true := small_row g.nm
theorem noL_bead (b : Str × Nat) : noL (beadD b) = true := rfl
theorem noL_row (r : Row) : noLAll (rowD r) = true := noLAll_iff.mpr fun d hd => by
  obtain ⟨b, _, rfl⟩ := List.mem_map.mp hd
  rfl
/-- a bead's tuple -/
theorem bead_at {K : PySem.W.Frag} {H : Hp} {v : V} {b : Str × Nat} (h : Dp K H v (beadD b)) : ∃ t, v = .ref t ∧ SqT K H t [.str b.1, .int (b.2 : Nat)] := by
  obtain ⟨t, zs, rfl, hT, hZ⟩ := h.tupI
  cases hZ with
  | cons z1 r =>
    cases r with
    | cons z2 r =>
      cases r
      cases z1
      cases z2
      exact ⟨t, rfl, hT⟩
theorem bead_mk {K : PySem.W.Frag} {H : Hp} {t : Addr} {b : Str × Nat} (h : SqT K H t [.str b.1, .int (b.2 : Nat)]) : Dp K H (.ref t) (beadD b) := .tup h (.cons (.str _) (.cons (.int _) .nil))
/-! ### slices, sums of tuples and lists, told at once -/
section
variable {K : PySem.W.Frag} {H : Hp} {a b : Addr} {xs ys : List V} {lo hi : Option Int} {Q : VK}
theorem sIx_nat {n d p : Nat} (h : p ≤ n) : HT.sIx n d (some (p : Int)) = p := by
  unfold HT.sIx
  show (if (p : Int) < 0 then _ else min (Int.toNat p) n) = p
  rw [if_neg (by omega)]
  have : Int.toNat (p : Int) = p := rfl
  rw [this]
  omega
theorem cut_drop {p : Nat} (h : p ≤ xs.length) : cutV xs (some (p : Int)) none = xs.drop p := by
  unfold cutV
  rw [sIx_nat h, HT.sIx_none]
  exact List.take_of_length_le (by rw [List.length_drop]; omega)
theorem cut_take {p : Nat} (h : p ≤ xs.length) : cutV xs none (some (p : Int)) = xs.take p := by
  unfold cutV
  rw [sIx_nat h, HT.sIx_none, List.drop_zero, Nat.sub_zero]
theorem np {σ : L2.St} {H : Hp} {Q : Option Int → Hp → Prop} (h : Q none H) : tNoPart σ H Q := h
theorem slt_go (h : SqT K H a xs) (k : ∀ b H', Same H H' → SqT K H' b (cutV xs lo hi) → Q (.ref b) H') : rSlA K (.ref a) lo hi H Q := by
  refine ⟨a, xs, rfl, h, fun w => k a H (Same.refl _) ?_, fun _ p hp => k p _ (same_new hp) (SqT.of upd_same)⟩
  have e : cutV xs lo hi = xs := by
    unfold cutV
    rw [w.1, w.2, List.drop_zero, Nat.sub_zero, List.take_length]
  rw [e]
  exact h
theorem cat_go (h1 : SqT K H a xs) (h2 : SqT K H b ys) (hz : xs.length + ys.length ≤ 100000) (k : ∀ c H', Same H H' → SqT K H' c (xs ++ ys) → Q (.ref c) H') : rCatA K (.ref a) (.ref b) H Q := by
  refine ⟨a, b, xs, ys, rfl, rfl, h1, h2, le_line hz, fun e => k b H (Same.refl _) ?_, fun _ e => k a H (Same.refl _) ?_, fun _ _ p hp => k p _ (same_new hp) (SqT.of upd_same)⟩
  · rw [e, List.nil_append]
    exact h2
  · rw [e, List.append_nil]
    exact h1
theorem sll_go (h : SqL K H a xs) (k : ∀ b H', H b = none → Same H H' → H' b = some (.lst (cutV xs lo hi)) → Q (.ref b) H') : rSlL K (.ref a) lo hi H Q :=
  ⟨a, xs, rfl, h, fun p hp => k p _ hp (same_new hp) upd_same⟩
end
theorem Str.len_app (x y : Str) : (x ++ y).length = x.length + y.length := by
  first
  | exact PySem.Str.length_append x y
  | (show (x.cps ++ y.cps).size = x.cps.size + y.cps.size; simp)
def beadT (b : Str × Nat) : Str := b.1 ++ (toString ((b.2 : Nat) : Int) : Str)
def rowT (r : Row) : Str := Txt.join " " (r.map beadT)
theorem sum_ge : ∀ {l : List Nat} {i n : Nat}, l[i]? = some n → n ≤ l.sum
  | [], i, n, h => by simp at h
  | a :: l, 0, n, h => by
    have e : a = n := Option.some.inj h
    rw [List.sum_cons]
    omega
  | a :: l, i + 1, n, h => by
    have := sum_ge (l := l) (i := i) (n := n) (by simpa using h)
    rw [List.sum_cons]
    omega
theorem Good.arm {r : Row} (g : Good r) {i : Nat} {b : Str × Nat} (h : r[i]? = some b) : b.2 < 100 := by
  have h1 := sum_ge (l := r.map (·.2)) (i := i) (n := b.2) (by rw [List.getElem?_map, h]; rfl)
  have h2 := g.lt
  have h3 := g.le
  unfold arms at h2
  omega
theorem num_log {n : Nat} (h : n < 100) : ((n : Nat) : Int).natAbs.log2 < 1920 := by
  have h1 : ((n : Nat) : Int).natAbs = n := Int.natAbs_natCast n
  rw [h1]
  by_cases h0 : n = 0
  · rw [h0]
    decide
  · exact Nat.lt_of_lt_of_le ((Nat.log2_lt h0).mpr (show n < 2 ^ 7 by omega)) (by decide)
theorem num_len {n : Nat} (h : n < 100) : (toString ((n : Nat) : Int) : Str).length ≤ 100 := by
  have : ∀ m : Fin 100, (toString ((m.val : Nat) : Int) : Str).length ≤ 100 := by decide +kernel
  exact this ⟨n, h⟩
theorem beads_len {r : Row} (g : Good r) : ((r.map beadT).map (·.length)).sum ≤ r.length * 200 := by
  have key : ∀ (l : Row), (∀ b ∈ l, (beadT b).length ≤ 200) → ((l.map beadT).map (·.length)).sum ≤ l.length * 200 := by
    intro l
    induction l with
    | nil => intro _; exact Nat.le_refl _
    | cons b l ih =>
      intro h
      have h1 := ih fun c hc => h c (List.mem_cons_of_mem _ hc)
      have h2 := h b (List.mem_cons_self ..)
      rw [List.map_cons, List.map_cons, List.sum_cons, List.length_cons]
      omega
  refine key r fun b hb => ?_
  obtain ⟨i, hi, e⟩ := List.mem_iff_getElem.mp hb
  have h1 := nameB_len (g.nm b hb)
  have h2 := num_len (g.arm (i := i) (b := b) (by rw [List.getElem?_eq_getElem hi, e]))
  unfold beadT
  rw [Str.len_app]
  omega
/-! ### the promises -/
def spWant (K : PySem.W.Frag) : Sp := fun vs H Q _ => ∃ v r, vs = [v] ∧ Dp K H v (.tuple (rowD r)) ∧ Good r ∧ ∀ H', Same H H' → Q v H'
def spTrees (K : PySem.W.Frag) : Sp := fun vs H Q _ => ∃ v r, vs = [v] ∧ Dp K H v (.tuple (rowD r)) ∧ Good r ∧ ∀ H', Same H H' → Q (.int ((r.length : Nat) - (arms r : Nat))) H'
def rot (r : Row) (p : Nat) : Row := r.drop p ++ r.take p
def spBegun (K : PySem.W.Frag) : Sp := fun vs H Q _ => ∃ v r, ∃ p : Nat, vs = [v, .int p] ∧ Dp K H v (.tuple (rowD r)) ∧ r.length ≤ 100 ∧ p ≤ r.length ∧ ∀ v' H', Same H H' → Dp K H' v' (.tuple (rowD (rot r p))) → Q v' H'
def spText (K : PySem.W.Frag) : Sp := fun vs H Q _ => ∃ v r, vs = [v] ∧ Dp K H v (.tuple (rowD r)) ∧ Good r ∧ ∀ H', Same H H' → Q (.str (rowT r)) H'
section
variable {P : Program} {w : World} {K : PySem.W.Frag} {mg : Str → Option Value} {base : Heap}
theorem ok_want_row (T : Txt K mg) : FO P w K mg base (L2.CX P w) 4 (a_want_row K) ["thing"] (spWant K) := by
  refine T.d_want_row.ok sc_want_row (fun vs H Q E h => ?_) (fun cdv A outer s H vs Q E hr h => ?_)
  · obtain ⟨v, r, rfl, _⟩ := h
    rfl
  · obtain ⟨v, r, rfl, hd, g, q⟩ := h
    have G_is_row := ok_is_row (P := P) (w := w) (base := base) T
    refine ⟨_, (pss_cons (ps_if (pt_not (pt_val (pe_call G_is_row (hr.mono (by decide)) rfl T.g_is_row T.d_is_row.kp T.b_is_row .nil passE (pa_cons (pv 0) pa_nil)))) (pss_one (ps_raise rfl (takes_of rfl rfl rfl rfl) (pmk_own PySem.F.excBase_ValueError T.x_NoRow T.g_NoRow T.xk_NoRow (raises_own T.xs_NoRow T.xt_NoRow) rfl))) pss_nil) (pss_one (ps_ret (pe_callTy (T := "tuple") call_tupleT (by rfl) T.f_tuple (by decide +kernel) (pa_cons (pv 0) pa_nil))))), ?_⟩
    refine ⟨_, rfl, v, _, rfl, .inl hd, (show smallAll (rowD r) = true from g.sm), fun H1 S1 => ⟨_, rfl, ?_⟩⟩
    rw [show dRow (.tuple (rowD r)) = true from g.row]
    refine iteF ?_
    obtain ⟨a, xs, rfl, hT, hA⟩ := hd.tupI
    exact ⟨_, rfl, a, xs, rfl, same_t S1 hT, q _ S1⟩
theorem ok_trees_of (T : Txt K mg) : FO P w K mg base (L2.CX P w) 5 (a_trees_of K) ["row"] (spTrees K) := by
  refine T.d_trees_of.ok sc_trees_of (fun vs H Q E h => ?_) (fun cdv A outer s H vs Q E hr h => ?_)
  · obtain ⟨v, r, rfl, _⟩ := h
    rfl
  · obtain ⟨v, r, rfl, hd, g, q⟩ := h
    have G_want_row := ok_want_row (P := P) (w := w) (base := base) T
    refine ⟨_, (pss_cons (ps_set (i := 1) sc_trees_of.nd rfl (Or.inl rfl) (pe_call G_want_row (hr.mono (by decide)) rfl T.g_want_row T.d_want_row.kp T.b_want_row .nil passE (pa_cons (pv 0) pa_nil))) (pss_one (ps_ret (pe_op op_sub (pe_callB (id := "len") call_len (by rfl) T.f_len (by decide +kernel) (pa_cons (pv 1) pa_nil)) (pe_callB (id := "sum") (cr_sum rfl) (by rfl) T.f_sum (by decide +kernel) (pa_cons (pe_lc (own := [("name", 2), ("many", 3)]) (g := gTup K 2 (gCons (gName 2) (gCons (gName 3) gNil))) rfl sc_trees_of.nd (pi_tup (pv 1)) (blkOk_by (own := [("name", 2), ("many", 3)]) (N := ["row", "beads", "name", "many"]) (sc := defScope s_trees_of) (by decide +kernel)) (fun _ _ _ _ _ => pg_tup rfl (pgs_cons (pg_name (i := 2) sc_trees_of.nd rfl (Or.inl rfl)) (pgs_cons (pg_name (i := 3) sc_trees_of.nd rfl (Or.inl rfl)) pgs_nil))) (fun _ _ _ _ _ => pts_nil) (fun _ _ _ _ _ => (pv 3))) pa_nil)))))), ?_⟩
    refine ⟨_, rfl, v, r, rfl, hd, g, fun H1 S1 => ?_⟩
    obtain ⟨a, xs, rfl, hT, hA⟩ := (hd.mono S1).tupI
    refine ⟨_, rfl, _, xs.length, rfl, .inr ⟨xs, hT, rfl⟩, ?_⟩
    have hl : xs.length = r.length := by rw [hA.len, rowD_len]
    have := g.le
    refine ⟨_, rfl, a, rfl, ⟨xs, hT⟩, fun D hD => ?_⟩
    refine lcm (K := K) (walk_tup (K := K) (a := a) (xs := xs)) ((rowD r).map fun d => .int (dArms d)) (by rw [List.length_map, rowD_len, hl]) (by omega) hD (fun d h => ?_) (fun _ S => same_t S hT) (fun i x H3 H3' d hi S y => ?_) gtup2_mono (fun H3 acc S4 hD3 hP => ?_)
    · obtain ⟨c, _, rfl⟩ := List.mem_map.mp h
      rfl
    · obtain ⟨rfl, hx⟩ := y
      obtain ⟨d', hd', hx'⟩ := hA.get' hx
      rw [List.getElem?_map, hd'] at hi
      have e := Option.some.inj hi
      subst e
      obtain ⟨b, _, rfl⟩ := List.mem_map.mp (List.mem_of_getElem? hd')
      obtain ⟨t, rfl, hB⟩ := bead_at (hx'.mono S)
      exact ⟨Same.refl _, fun Qy hy => ⟨t, _, rfl, hB, rfl, _, _, rfl, _, _, rfl, rfl, rfl, _, rfl, hy _ _ (Same.refl _) (.int _)⟩⟩
    · have e1 : acc = ((rowD r).map dArms).map V.int := by
        have hP' : DpAll K H3 acc (((rowD r).map dArms).map PyData.int) := by
          rw [List.map_map]
          exact hP
        exact hP'.ints
      rw [e1] at hD3
      refine ⟨D, (rowD r).map dArms, rfl, .inl (.inl hD3), ?_⟩
      refine ⟨_, _, rfl, rfl, ?_⟩
      rw [arms_sum, hl]
      exact q _ (S1.trans S4)
theorem ok_begun_at (T : Txt K mg) : FO P w K mg base (L2.CX P w) 1 (a_begun_at K) ["beads", "place"] (spBegun K) := by
  refine T.d_begun_at.ok sc_begun_at (fun vs H Q E h => ?_) (fun cdv A outer s H vs Q E hr h => ?_)
  · obtain ⟨v, r, p, rfl, _⟩ := h
    rfl
  · obtain ⟨v, r, p, rfl, hd, hl, hp, q⟩ := h
    refine ⟨_, (pss_one (ps_ret (pe_op op_catA (pe_slice sl_tupA (pv 0) (po_some (pv 1)) po_none) (pe_slice sl_tupA (pv 0) po_none (po_some (pv 1)))))), ?_⟩
    obtain ⟨a, xs, rfl, hT, hA⟩ := hd.tupI
    have hx : xs.length = r.length := by rw [hA.len, rowD_len]
    refine ⟨_, rfl, _, rfl, _, rfl, np (slt_go hT fun b H1 S1 hb => ?_)⟩
    refine ⟨_, rfl, np ⟨_, rfl, _, rfl, slt_go (same_t S1 hT) fun c H2 S2 hc => ?_⟩⟩
    rw [cut_drop (by omega)] at hb
    rw [cut_take (by omega)] at hc
    refine cat_go (same_t S2 hb) hc (by rw [List.length_drop, List.length_take]; omega) fun d H3 S3 hd3 => ?_
    refine q _ _ ((S1.trans S2).trans S3) (.tup hd3 ?_)
    have e : rowD (rot r p) = (rowD r).drop p ++ (rowD r).take p := by
      unfold rowD rot
      rw [List.map_append, List.map_drop, List.map_take]
    rw [e]
    exact ((hA.drop p).append (hA.take p)).mono ((S1.trans S2).trans S3)
theorem ok_row_text (T : Txt K mg) : FO P w K mg base (L2.CX P w) 5 (a_row_text K) ["row"] (spText K) := by
  refine T.d_row_text.ok sc_row_text (fun vs H Q E h => ?_) (fun cdv A outer s H vs Q E hr h => ?_)
  · obtain ⟨v, r, rfl, _⟩ := h
    rfl
  · obtain ⟨v, r, rfl, hd, g, q⟩ := h
    have G_want_row := ok_want_row (P := P) (w := w) (base := base) T
    refine ⟨_, (pss_one (ps_ret (pe_join pe_str (pe_lc (own := [("name", 1), ("many", 2)]) (g := gTup K 2 (gCons (gName 1) (gCons (gName 2) gNil))) rfl sc_row_text.nd (pi_tup (pe_call G_want_row (hr.mono (by decide)) rfl T.g_want_row T.d_want_row.kp T.b_want_row .nil passE (pa_cons (pv 0) pa_nil))) (blkOk_by (own := [("name", 1), ("many", 2)]) (N := ["row", "name", "many"]) (sc := defScope s_row_text) (by decide +kernel)) (fun _ _ _ _ _ => pg_tup rfl (pgs_cons (pg_name (i := 1) sc_row_text.nd rfl (Or.inl rfl)) (pgs_cons (pg_name (i := 2) sc_row_text.nd rfl (Or.inl rfl)) pgs_nil))) (fun _ _ _ _ _ => pts_nil) (fun _ _ _ _ _ => (pe_op op_add_str (pv 1) (pe_callTy (T := "str") call_str_int (by rfl) T.f_str (by decide +kernel) (pa_cons (pv 2) pa_nil)))))))), ?_⟩
    refine ⟨⟨_, rfl⟩, _, rfl, v, r, rfl, hd, g, fun H1 S1 => ?_⟩
    obtain ⟨a, xs, rfl, hT, hA⟩ := (hd.mono S1).tupI
    have hl : xs.length = r.length := by rw [hA.len, rowD_len]
    have h100 := g.le
    refine ⟨a, rfl, ⟨xs, hT⟩, fun D hD => ?_⟩
    refine lcm (K := K) (walk_tup (K := K) (a := a) (xs := xs)) (r.map fun b => .str (beadT b)) (by rw [List.length_map, hl]) (by omega) hD (fun d h => ?_) (fun _ S => same_t S hT) (fun i x H3 H3' d hi S y => ?_) gtup2_mono (fun H3 acc S4 hD3 hP => ?_)
    · obtain ⟨c, _, rfl⟩ := List.mem_map.mp h
      rfl
    · obtain ⟨rfl, hx⟩ := y
      obtain ⟨d', hd', hx'⟩ := hA.get' hx
      rw [List.getElem?_map] at hi
      cases hb : r[i]? with
      | none => rw [hb] at hi; cases hi
      | some b =>
        rw [hb] at hi
        have e := Option.some.inj hi
        subst e
        rw [rowD_get hb] at hd'
        have e := Option.some.inj hd'
        subst e
        obtain ⟨t, rfl, hB⟩ := bead_at (hx'.mono S)
        have hn := nameB_len (g.nm b (List.mem_of_getElem? hb))
        have hm := g.arm hb
        have ht := num_len hm
        exact ⟨Same.refl _, fun Qy hy => ⟨t, _, rfl, hB, rfl, _, _, rfl, _, _, rfl, rfl, rfl, _, rfl, _, rfl, _, rfl, num_log hm, _, _, rfl, rfl, le_line (by omega), hy _ _ (Same.refl _) (.str _)⟩⟩
    · have e1 : acc = (r.map beadT).map V.str := by
        rw [List.map_map]
        exact hP.strs
      rw [e1] at hD3
      have hz := beads_len g
      have h1 : (" " : Str).length = 1 := by decide +kernel
      exact ⟨_, D, r.map beadT, rfl, rfl, .inl (.inl (.inl hD3)), by rw [List.length_map, h1]; omega, q _ (S1.trans S4)⟩
end
end Bt

namespace Bt
open PySem PySem.Spec PyProof.Rows L2
/-! ### arcs, the mirror -/
/-- the arms of the bead at place i, round the ring -/
def dn (r : Row) (i : Nat) : Nat := ((r[i % r.length]?).map (·.2)).getD 0
/-- what is wanted behind k beads from place p on -/
def want (r : Row) (p : Nat) : Nat → Int
  | 0 => 1
  | k + 1 => want r p k - 1 + (dn r (p + k) : Nat)
/-- how many beads have been taken by turn k -/
def lenF (r : Row) (p : Nat) : Nat → Nat
  | 0 => 0
  | k + 1 => if 0 < want r p (lenF r p k) then lenF r p k + 1 else lenF r p k
def wantsL (r : Row) (p k : Nat) : List Int := (List.range (lenF r p k + 1)).map (want r p)
def arcLen (r : Row) (p : Nat) : Nat := lenF r p r.length
def arcL (r : Row) (p : Nat) : List Nat := (List.range (arcLen r p)).map fun k => (p + k) % r.length
def zs (l : List Nat) : List Int := l.map fun k : Nat => (k : Int)
theorem lenF_le (r : Row) (p : Nat) : ∀ k, lenF r p k ≤ k
  | 0 => Nat.le_refl _
  | k + 1 => by
    have h := lenF_le r p k
    unfold lenF
    split <;> omega
theorem lenF_full (r : Row) (p : Nat) : ∀ k, 0 < want r p (lenF r p k) → lenF r p k = k
  | 0, _ => rfl
  | k + 1, h => by
    unfold lenF at h ⊢
    by_cases h1 : 0 < want r p (lenF r p k)
    · rw [if_pos h1]
      rw [lenF_full r p k h1]
    · rw [if_neg h1] at h
      exact absurd h h1
theorem wantsL_len (r : Row) (p k : Nat) : (wantsL r p k).length = lenF r p k + 1 := by
  unfold wantsL
  rw [List.length_map, List.length_range]
theorem atI_lastMap {f : Nat → Int} {n : Nat} : atI (((List.range (n + 1)).map f).map V.int) (-1) = some (V.int (f n)) := by
  rw [List.range_succ, List.map_append, List.map_append]
  exact atI_last _ _
theorem atI_wants (r : Row) (p k : Nat) : atI ((wantsL r p k).map V.int) (-1) = some (V.int (want r p (lenF r p k))) := atI_lastMap
theorem bead_ix {K : PySem.W.Frag} {H : Hp} {xs : List V} {r : Row} {i : Nat} (hA : DpAll K H xs (rowD r)) (hi : i < r.length) : ∃ t z, xs[i]? = some (.ref t) ∧ SqT K H t [.str z, .int (dn r i : Nat)] ∧ ∃ b, r[i]? = some b ∧ b.1 = z ∧ b.2 = dn r i := by
  obtain ⟨v, hv, hd⟩ := hA.get (rowD_get (List.getElem?_eq_getElem hi))
  obtain ⟨t, rfl, hT⟩ := bead_at hd
  have e : dn r i = r[i].2 := by
    unfold dn
    rw [Nat.mod_eq_of_lt hi, List.getElem?_eq_getElem hi]
    rfl
  exact ⟨t, r[i].1, hv, by rw [e]; exact hT, r[i], List.getElem?_eq_getElem hi, rfl, e.symm⟩
theorem dn_mod (r : Row) (i : Nat) : dn r (i % r.length) = dn r i := by
  unfold dn
  rw [Nat.mod_mod]
def IsL (K : PySem.W.Frag) (H : Hp) (v : V) (ns : List Int) : Prop := ∃ a, v = .ref a ∧ SqL K H a (ns.map V.int)
theorem IsL.mono {K : PySem.W.Frag} {H H' : Hp} {v : V} {ns : List Int} (h : IsL K H v ns) (S : Same H H') : IsL K H' v ns := by
  obtain ⟨a, e, h⟩ := h
  exact ⟨a, e, same_l S h⟩
theorem atI_nat' {xs : List V} {z : Int} {j : Nat} {v : V} (e : z = (j : Int)) (h : xs[j]? = some v) : atI xs z = some v := by
  rw [e]
  exact atI_nat h
def spWants (K : PySem.W.Frag) : Sp := fun vs H Q _ => ∃ v r, ∃ p : Nat, vs = [v, .int p] ∧ Dp K H v (.tuple (rowD r)) ∧ 1 ≤ r.length ∧ r.length ≤ 100 ∧ ∀ v' H', Same H H' → IsL K H' v' (wantsL r p r.length) → Q v' H'
def spArcF (K : PySem.W.Frag) : Sp := fun vs H Q _ => ∃ v r, ∃ p : Nat, vs = [v, .int p] ∧ Dp K H v (.tuple (rowD r)) ∧ 1 ≤ r.length ∧ r.length ≤ 100 ∧ ∀ v' H', Same H H' → IsL K H' v' (zs (arcL r p)) → Q v' H'
def spPlaceW (K : PySem.W.Frag) : Sp := fun vs H Q _ => ∃ v r, ∃ p : Nat, vs = [v, .int p] ∧ Dp K H v (.tuple (rowD r)) ∧ p < r.length ∧ Q (.int p) H
def spIsPlace (K : PySem.W.Frag) : Sp := fun vs H Q _ => ∃ v r, ∃ p : Nat, vs = [v, .int p] ∧ Dp K H v (.tuple (rowD r)) ∧ p < r.length ∧ Q (.bl true) H
def spArc (K : PySem.W.Frag) : Sp := fun vs H Q _ => ∃ v r, ∃ p : Nat, vs = [v, .int p] ∧ Dp K H v (.tuple (rowD r)) ∧ Good r ∧ p < r.length ∧ ∀ v' H', Same H H' → IsL K H' v' (zs (arcL r p)) → Q v' H'
theorem zs_get {l : List Nat} {i : Nat} {k : Nat} (h : l[i]? = some k) : (zs l)[i]? = some (k : Int) := by
  unfold zs
  rw [List.getElem?_map, h]
  rfl
section
variable {P : Program} {w : World} {K : PySem.W.Frag} {mg : Str → Option Value} {base : Heap}
theorem ok_wants_from (T : Txt K mg) : FO P w K mg base (L2.CX P w) 1 (a_wants_from K) ["beads", "place"] (spWants K) := by
  refine T.d_wants_from.ok sc_wants_from (fun vs H Q E h => ?_) (fun cdv A outer s H vs Q E hr h => ?_)
  · obtain ⟨v, r, p, rfl, _⟩ := h
    rfl
  · obtain ⟨v, r, p, rfl, hd, h1, h100, q⟩ := h
    refine ⟨_, (pss_cons (ps_set (i := 2) sc_wants_from.nd rfl (Or.inl rfl) (pe_lst (pa_cons pe_int pa_nil))) (pss_cons (ps_for (passes_of rfl) rfl (pi_range1 rfl T.f_range (pa_cons (pe_callB (id := "len") call_len (by rfl) T.f_len (by decide +kernel) (pa_cons (pv 0) pa_nil)) pa_nil)) (pg_name (i := 3) sc_wants_from.nd rfl (Or.inl rfl)) (pss_one (ps_if (pt_cmpR op_gt (pe_ix ix_list (pv 2) (pe_un un_neg pe_int) (fun _ _ => rfl)) pe_int (nomark _)) (pss_one (ps_expr (pe_bm PySem.F.plainAttrs_list PySem.F.slot_list_append PySem.F.type_list_append mt_append (pv 2) (pa_cons (pe_op op_add (pe_op op_sub (pe_ix ix_list (pv 2) (pe_un un_neg pe_int) (fun _ _ => rfl)) pe_int) (pe_ix ix_tup (pe_ix ix_tup (pv 0) (pe_op op_mod (pe_op op_add (pv 1) (pv 3)) (pe_callB (id := "len") call_len (by rfl) T.f_len (by decide +kernel) (pa_cons (pv 0) pa_nil))) (fun _ _ => rfl)) pe_int (fun _ _ => rfl))) pa_nil)))) pss_nil))) (pss_one (ps_ret (pv 2))))), ?_⟩
    refine ⟨(by show 1 ≤ sizeLine; decide), fun l hl => ?_⟩
    obtain ⟨a, xs, rfl, hT, hA⟩ := hd.tupI
    have hx : xs.length = r.length := by rw [hA.len, rowD_len]
    have S0 : Same H (upd H l (.lst [.int 1])) := same_new hl
    refine ⟨_, rfl, _, xs.length, rfl, .inr ⟨xs, same_t S0 hT, rfl⟩, _, rfl, by omega, by omega, ?_⟩
    rw [hx]
    refine for_it (walk_range (lo := 0) (n := r.length)) (fun k σ H' => ∃ x, σ = [some (.ref a), some (.int p), some (.ref l), x] ∧ Same H H' ∧ H' l = some (.lst ((wantsL r p k).map V.int))) ⟨none, rfl, S0, upd_same⟩ (fun _ _ _ _ _ => True.intro) ?_ ?_
    · rintro k x σ H1 H1' hk ⟨x0, rfl, S, hL⟩ ⟨rfl, rfl⟩
      show tIfS _ _ _ _ _ _
      refine ⟨_, rfl, _, rfl, l, _, _, _, rfl, rfl, .inl (.inl hL), atI_wants r p k, _, _, rfl, rfl, _, rfl, ?_⟩
      refine ite2 (fun hw => ?_) (fun hw => ?_)
      · have hw' := of_decide_eq_true hw
        have hfull := lenF_full r p k hw'
        have hmod : (p + k) % r.length < r.length := Nat.mod_lt _ (by omega)
        obtain ⟨t, z, e1, e2, _⟩ := bead_ix (hA.mono S) hmod
        rw [dn_mod] at e2
        refine ⟨_, rfl, .inl ⟨rfl, _, .inl (.inl hL)⟩, _, rfl, _, rfl, l, _, _, _, rfl, rfl, .inl (.inl hL), atI_wants r p k, _, _, rfl, rfl, ?_⟩
        refine ⟨_, rfl, _, rfl, _, rfl, _, _, rfl, rfl, _, rfl, _, xs.length, rfl, .inr ⟨xs, same_t S hT, rfl⟩, _, _, rfl, rfl, (by show (0 : Int) < (xs.length : Nat); omega), ?_⟩
        refine ⟨a, xs, _, .ref t, rfl, rfl, same_t S hT, atI_nat' (j := (p + k) % r.length) ?_ e1, t, _, 1, _, rfl, rfl, e2, rfl, _, _, rfl, rfl, ?_⟩
        · rw [hx, Int.zero_add]
          exact (Int.natCast_emod _ _).symm
        refine ⟨l, _, _, rfl, rfl, hL, lt_line ?_, ?_⟩
        · rw [List.length_map, wantsL_len]
          have := lenF_le r p k
          omega
        · refine ⟨_, rfl, same_upd S hl, ?_⟩
          rw [upd_same]
          have e : wantsL r p (k + 1) = wantsL r p k ++ [want r p (lenF r p k) - 1 + (dn r (p + k) : Nat)] := by
            unfold wantsL
            rw [show lenF r p (k + 1) = lenF r p k + 1 from if_pos hw', List.range_succ, List.map_append, List.range_succ, List.map_append]
            show _ = _ ++ [want r p (lenF r p k) - 1 + (dn r (p + k) : Nat)]
            rw [hfull]
            rfl
          rw [e, List.map_append]
          rfl
      · refine ⟨_, rfl, S, ?_⟩
        have e : lenF r p (k + 1) = lenF r p k := if_neg fun h => hw (decide_eq_true h)
        unfold wantsL
        rw [e]
        exact hL
    · rintro σ H1 ⟨x0, rfl, S, hL⟩
      exact ⟨_, rfl, q _ _ S ⟨l, rfl, .inl (.inl hL)⟩⟩
theorem ok_arc_from (T : Txt K mg) : FO P w K mg base (L2.CX P w) 2 (a_arc_from K) ["beads", "place"] (spArcF K) := by
  refine T.d_arc_from.ok sc_arc_from (fun vs H Q E h => ?_) (fun cdv A outer s H vs Q E hr h => ?_)
  · obtain ⟨v, r, p, rfl, _⟩ := h
    rfl
  · obtain ⟨v, r, p, rfl, hd, h1, h100, q⟩ := h
    have G_wants_from := ok_wants_from (P := P) (w := w) (base := base) T
    refine ⟨_, (pss_one (ps_ret (pe_lc (own := [("k", 2)]) (g := gName 2) rfl sc_arc_from.nd (pi_range1 rfl T.f_range (pa_cons (pe_op op_sub (pe_callB (id := "len") call_len (by rfl) T.f_len (by decide +kernel) (pa_cons (pe_call G_wants_from (hr.mono (by decide)) rfl T.g_wants_from T.d_wants_from.kp T.b_wants_from .nil passE (pa_cons (pv 0) (pa_cons (pv 1) pa_nil))) pa_nil)) pe_int) pa_nil)) (blkOk_by (own := [("k", 2)]) (N := ["beads", "place", "k"]) (sc := defScope s_arc_from) (by decide +kernel)) (fun _ _ _ _ _ => pg_name (i := 2) sc_arc_from.nd rfl (Or.inl rfl)) (fun _ _ _ _ _ => pts_nil) (fun _ _ _ _ _ => (pe_op op_mod (pe_op op_add (pv 1) (pv 2)) (pe_callB (id := "len") (call_lenK (K := K)) (by rfl) T.f_len (by decide +kernel) (pa_cons (pv 0) pa_nil))))))), ?_⟩
    refine ⟨_, rfl, _, rfl, v, r, p, rfl, hd, h1, h100, fun v' H1 S1 hv => ?_⟩
    obtain ⟨b, rfl, hb⟩ := hv
    obtain ⟨a, xs, rfl, hT, hA⟩ := hd.tupI
    have hx : xs.length = r.length := by rw [hA.len, rowD_len]
    have hl := lenF_le r p r.length
    refine ⟨_, _, rfl, .inl ⟨_, hb, rfl⟩, ?_⟩
    rw [List.length_map, wantsL_len]
    refine ⟨_, _, rfl, rfl, _, rfl, (by omega), (by omega), fun D hD => ?_⟩
    have en : ((((lenF r p r.length + 1 : Nat) : Int) - 1).toNat) = arcLen r p := by
      show _ = lenF r p r.length
      omega
    rw [en]
    refine lcm (K := K) (walk_range (lo := 0) (n := arcLen r p)) ((arcL r p).map fun k => .int (k : Nat)) (by unfold arcL; rw [List.length_map, List.length_map, List.length_range]) (by show lenF r p r.length ≤ _; omega) hD (fun d h => ?_) (fun _ _ => True.intro) (fun i x H3 H3' d hi S y => ?_) gname_mono (fun H3 acc S4 hD3 hP => ?_)
    · obtain ⟨c, _, rfl⟩ := List.mem_map.mp h
      rfl
    · obtain ⟨rfl, rfl⟩ := y
      have hi2 : i < arcLen r p := by
        have := (List.getElem?_eq_some_iff.mp hi).1
        unfold arcL at this
        rw [List.length_map, List.length_map, List.length_range] at this
        exact this
      have hd' : d = .int (((p + i) % r.length : Nat)) := by
        unfold arcL at hi
        rw [List.getElem?_map, List.getElem?_map, List.getElem?_range hi2] at hi
        exact (Option.some.inj hi).symm
      subst hd'
      refine ⟨Same.refl _, fun Qy hy => ⟨rfl, _, rfl, _, rfl, _, _, rfl, rfl, _, rfl, _, xs.length, rfl, .inr ⟨xs, same_t (S1.trans S) hT, rfl⟩, _, _, rfl, rfl, (by show (0 : Int) < (xs.length : Nat); omega), ?_⟩⟩
      have e : ((p : Nat) : Int) + (0 + (i : Nat)) = (((p + i : Nat)) : Int) := by omega
      rw [e, hx]
      show Qy (.int ((((p + i : Nat)) : Int) % ((r.length : Nat) : Int))) H3'
      rw [← Int.natCast_emod]
      exact hy _ _ (Same.refl _) (.int _)
    · have e1 : acc = (zs (arcL r p)).map V.int := by
        have hP' : DpAll K H3 acc ((zs (arcL r p)).map PyData.int) := by
          unfold zs
          rw [List.map_map]
          exact hP
        exact hP'.ints
      rw [e1] at hD3
      exact q _ _ (S1.trans S4) ⟨D, rfl, .inl (.inl hD3)⟩
theorem ok_is_place (T : Txt K mg) : FO P w K mg base (L2.CX P w) 2 (a_is_place K) ["beads", "thing"] (spIsPlace K) := by
  refine T.d_is_place.ok sc_is_place (fun vs H Q E h => ?_) (fun cdv A outer s H vs Q E hr h => ?_)
  · obtain ⟨v, r, p, rfl, _⟩ := h
    rfl
  · obtain ⟨v, r, p, rfl, hd, hp, q⟩ := h
    have G_is_whole := ok_is_whole (P := P) (w := w) (base := base) T
    refine ⟨_, (pss_one (ps_ret (pe_and (pe_call G_is_whole (hr.mono (by decide)) rfl T.g_is_whole T.d_is_whole.kp T.b_is_whole .nil passE (pa_cons (pv 1) pa_nil)) (pe_one (pe_chain op_le op_lt pe_int (pv 1) (pe_callB (id := "len") call_len (by rfl) T.f_len (by decide +kernel) (pa_cons (pv 0) pa_nil))))))), ?_⟩
    obtain ⟨a, xs, rfl, hT, hA⟩ := hd.tupI
    have hx : xs.length = r.length := by rw [hA.len, rowD_len]
    refine ⟨_, rfl, _, _, rfl, .inl (.int p), _, rfl, ?_⟩
    refine iteT ?_
    refine ⟨_, rfl, _, _, rfl, rfl, _, rfl, ?_⟩
    rw [decide_eq_true (show (0 : Int) ≤ (p : Nat) by omega)]
    refine iteT ?_
    refine ⟨_, rfl, _, xs.length, rfl, .inr ⟨xs, hT, rfl⟩, _, _, rfl, rfl, ?_⟩
    have e : decide (((p : Nat) : Int) < (xs.length : Nat)) = true := decide_eq_true (by omega)
    show Q (.bl (decide (((p : Nat) : Int) < (xs.length : Nat)))) H
    rw [e]
    exact q
theorem ok_want_place (T : Txt K mg) : FO P w K mg base (L2.CX P w) 3 (a_want_place K) ["beads", "place"] (spPlaceW K) := by
  refine T.d_want_place.ok sc_want_place (fun vs H Q E h => ?_) (fun cdv A outer s H vs Q E hr h => ?_)
  · obtain ⟨v, r, p, rfl, _⟩ := h
    rfl
  · obtain ⟨v, r, p, rfl, hd, hp, q⟩ := h
    have G_is_place := ok_is_place (P := P) (w := w) (base := base) T
    refine ⟨_, (pss_cons (ps_if (pt_not (pt_val (pe_call G_is_place (hr.mono (by decide)) rfl T.g_is_place T.d_is_place.kp T.b_is_place .nil passE (pa_cons (pv 0) (pa_cons (pv 1) pa_nil))))) (pss_one (ps_raise rfl (takes_of rfl rfl rfl rfl) (pmk_own PySem.F.excBase_ValueError T.x_NoPlace T.g_NoPlace T.xk_NoPlace (raises_own T.xs_NoPlace T.xt_NoPlace) rfl))) pss_nil) (pss_one (ps_ret (pv 1)))), ?_⟩
    refine ⟨_, rfl, _, rfl, v, r, p, rfl, hd, hp, _, rfl, ?_⟩
    refine iteF ?_
    exact ⟨_, rfl, q⟩
theorem ok_arc_arcs (T : Txt K mg) : FO P w K mg base (L2.CX P w) 5 (a_arc_arcs K) ["row", "place"] (spArc K) := by
  refine T.d_arc_arcs.ok sc_arc_arcs (fun vs H Q E h => ?_) (fun cdv A outer s H vs Q E hr h => ?_)
  · obtain ⟨v, r, p, rfl, _⟩ := h
    rfl
  · obtain ⟨v, r, p, rfl, hd, g, hp, q⟩ := h
    have G_arc_from := ok_arc_from (P := P) (w := w) (base := base) T
    have G_want_place := ok_want_place (P := P) (w := w) (base := base) T
    have G_want_row := ok_want_row (P := P) (w := w) (base := base) T
    refine ⟨_, (pss_cons (ps_set (i := 2) sc_arc_arcs.nd rfl (Or.inl rfl) (pe_call G_want_row (hr.mono (by decide)) rfl T.g_want_row T.d_want_row.kp T.b_want_row .nil passE (pa_cons (pv 0) pa_nil))) (pss_one (ps_ret (pe_call G_arc_from (hr.mono (by decide)) rfl T.g_arc_from T.d_arc_from.kp T.b_arc_from .nil passE (pa_cons (pv 2) (pa_cons (pe_call G_want_place (hr.mono (by decide)) rfl T.g_want_place T.d_want_place.kp T.b_want_place .nil passE (pa_cons (pv 2) (pa_cons (pv 1) pa_nil))) pa_nil)))))), ?_⟩
    refine ⟨_, rfl, v, r, rfl, hd, g, fun H1 S1 => ?_⟩
    refine ⟨_, rfl, _, rfl, _, rfl, v, r, p, rfl, hd.mono S1, hp, ?_⟩
    exact ⟨v, r, p, rfl, hd.mono S1, g.ne, g.le, fun v' H2 S2 hv => q v' H2 (S1.trans S2) hv⟩
end
end Bt

namespace Bt
open PySem PySem.Spec PyProof.Rows L2
/-! ### children, the mirror -/
def kid (r : Row) (p : Nat) : Nat → Nat
  | 0 => (p + 1) % r.length
  | j + 1 => (kid r p j + arcLen r (kid r p j)) % r.length
def kidsL (r : Row) (p : Nat) : List Nat := (List.range (dn r p)).map (kid r p)
theorem kid_lt {r : Row} (h : 1 ≤ r.length) (p : Nat) : ∀ j, kid r p j < r.length
  | 0 => Nat.mod_lt _ (by omega)
  | j + 1 => Nat.mod_lt _ (by omega)
theorem kidsL_lt {r : Row} (h : 1 ≤ r.length) {p c : Nat} (hc : c ∈ kidsL r p) : c < r.length := by
  obtain ⟨j, _, rfl⟩ := List.mem_map.mp hc
  exact kid_lt h p j
theorem dn_le {r : Row} (g : Good r) (p : Nat) : dn r p < 100 := by
  unfold dn
  cases h : r[p % r.length]? with
  | none => show 0 < 100; omega
  | some b => exact g.arm h
theorem arcLen_le (r : Row) (p : Nat) : arcLen r p ≤ r.length := lenF_le r p r.length
theorem arcL_len (r : Row) (p : Nat) : (arcL r p).length = arcLen r p := by
  unfold arcL
  rw [List.length_map, List.length_range]
/-! ### parents, the mirror -/
def optV : Option Nat → V
  | none => .non
  | some p => .int (p : Nat)
def setAll (p : Nat) (acc : List (Option Nat)) (cs : List Nat) : List (Option Nat) := cs.foldl (fun a c => a.set c (some p)) acc
def parA (r : Row) (k : Nat) : List (Option Nat) := (List.range k).foldl (fun acc p => setAll p acc (kidsL r p)) (List.replicate r.length none)
def parL (r : Row) : List (Option Nat) := parA r r.length
theorem setAll_len (p : Nat) : ∀ (cs : List Nat) (acc : List (Option Nat)), (setAll p acc cs).length = acc.length
  | [], _ => rfl
  | c :: cs, acc => by
    show (setAll p (acc.set c (some p)) cs).length = _
    rw [setAll_len p cs, List.length_set]
theorem parA_succ (r : Row) (k : Nat) : parA r (k + 1) = setAll k (parA r k) (kidsL r k) := by
  unfold parA
  rw [List.range_succ, List.foldl_append]
  rfl
theorem parA_len (r : Row) : ∀ k, (parA r k).length = r.length
  | 0 => by show (List.replicate r.length none).length = _; rw [List.length_replicate]
  | k + 1 => by rw [parA_succ, setAll_len, parA_len r k]
theorem setAll_take (p : Nat) (acc : List (Option Nat)) {cs : List Nat} {i c : Nat} (h : cs[i]? = some c) : setAll p acc (cs.take (i + 1)) = (setAll p acc (cs.take i)).set c (some p) := by
  rw [List.take_succ, h]
  unfold setAll
  rw [List.foldl_append]
  rfl
theorem ixN_of {n j : Nat} (h : j < n) : ixN n ((j : Nat) : Int) = some j := by
  unfold ixN
  rw [if_pos (by omega), if_pos (by omega)]
  rfl
def spKids (K : PySem.W.Frag) : Sp := fun vs H Q _ => ∃ v r, ∃ p : Nat, vs = [v, .int p] ∧ Dp K H v (.tuple (rowD r)) ∧ Good r ∧ p < r.length ∧ ∀ b H', H b = none → Same H H' → SqL K H' b ((zs (kidsL r p)).map V.int) → Q (.ref b) H'
def spPars (K : PySem.W.Frag) : Sp := fun vs H Q _ => ∃ v r, vs = [v] ∧ Dp K H v (.tuple (rowD r)) ∧ Good r ∧ ∀ b H', H b = none → Same H H' → SqL K H' b ((parL r).map optV) → Q (.ref b) H'
def dCount : PyData → Int → Int → Bool
  | .int i, lo, hi => decide (lo ≤ i) && decide (i ≤ hi)
  | _, _, _ => false
def spCount (K : PySem.W.Frag) : Sp := fun vs H Q _ => ∃ v d lo hi, vs = [v, .int lo, .int hi] ∧ TD K H v d ∧ Q (.bl (dCount d lo hi)) H
section
variable {P : Program} {w : World} {K : PySem.W.Frag} {mg : Str → Option Value} {base : Heap}
theorem ok_children_of (T : Txt K mg) : FO P w K mg base (L2.CX P w) 3 (a_children_of K) ["beads", "place"] (spKids K) := by
  refine T.d_children_of.ok sc_children_of (fun vs H Q E h => ?_) (fun cdv A outer s H vs Q E hr h => ?_)
  · obtain ⟨v, r, p, rfl, _⟩ := h
    rfl
  · obtain ⟨v, r, p, rfl, hd, g, hp, q⟩ := h
    have G_arc_from := ok_arc_from (P := P) (w := w) (base := base) T
    refine ⟨_, (pss_cons (ps_set (i := 2) sc_children_of.nd rfl (Or.inl rfl) (pe_lst pa_nil)) (pss_cons (ps_set (i := 3) sc_children_of.nd rfl (Or.inl rfl) (pe_op op_mod (pe_op op_add (pv 1) pe_int) (pe_callB (id := "len") call_len (by rfl) T.f_len (by decide +kernel) (pa_cons (pv 0) pa_nil)))) (pss_cons (ps_for (passes_of rfl) rfl (pi_range1 rfl T.f_range (pa_cons (pe_ix ix_tup (pe_ix ix_tup (pv 0) (pv 1) (fun _ _ => rfl)) pe_int (fun _ _ => rfl)) pa_nil)) (pg_name (i := 4) sc_children_of.nd rfl (Or.inl rfl)) (pss_cons (ps_expr (pe_bm PySem.F.plainAttrs_list PySem.F.slot_list_append PySem.F.type_list_append mt_append (pv 2) (pa_cons (pv 3) pa_nil))) (pss_one (ps_set (i := 3) sc_children_of.nd rfl (Or.inl rfl) (pe_op op_mod (pe_op op_add (pv 3) (pe_callB (id := "len") call_len (by rfl) T.f_len (by decide +kernel) (pa_cons (pe_call G_arc_from (hr.mono (by decide)) rfl T.g_arc_from T.d_arc_from.kp T.b_arc_from .nil passE (pa_cons (pv 0) (pa_cons (pv 3) pa_nil))) pa_nil))) (pe_callB (id := "len") call_len (by rfl) T.f_len (by decide +kernel) (pa_cons (pv 0) pa_nil))))))) (pss_one (ps_ret (pv 2)))))), ?_⟩
    have h1 := g.ne
    have h100 := g.le
    refine ⟨(by show 0 ≤ sizeLine; decide), fun l hl => ?_⟩
    have S0 : Same H (upd H l (.lst [])) := same_new hl
    generalize eH : upd H l (.lst []) = H0 at S0
    have hl0 : H0 l = some (.lst []) := by rw [← eH, upd_same]
    obtain ⟨a, xs, rfl, hT, hA⟩ := (hd.mono S0).tupI
    have hx : xs.length = r.length := by rw [hA.len, rowD_len]
    refine ⟨_, rfl, _, _, rfl, rfl, _, rfl, _, xs.length, rfl, .inr ⟨xs, hT, rfl⟩, _, _, rfl, rfl, (by show (0 : Int) < (xs.length : Nat); omega), ?_⟩
    have e0 : V.int (((p : Nat) : Int) + 1) = V.int ((p + 1 : Nat) : Int) := rfl
    show tSeq _ _ _ _ _
    have e1 : (((p : Nat) : Int) + 1) % ((xs.length : Nat) : Int) = ((kid r p 0 : Nat) : Int) := by
      rw [hx]
      show ((p + 1 : Nat) : Int) % ((r.length : Nat) : Int) = _
      rw [← Int.natCast_emod]
      rfl
    obtain ⟨t, z, e2, hB, _⟩ := bead_ix hA hp
    refine ⟨_, rfl, _, rfl, a, xs, _, .ref t, rfl, rfl, hT, atI_nat e2, t, _, 1, _, rfl, rfl, hB, rfl, _, rfl, (by omega), (by have := dn_le g p; omega), ?_⟩
    have e3 : (((dn r p : Nat) : Int)).toNat = dn r p := rfl
    rw [e3]
    have hdl := dn_le g p
    refine for_it (walk_range (lo := 0) (n := dn r p)) (fun j σ H' => ∃ x, σ = [some (.ref a), some (.int p), some (.ref l), some (.int ((kid r p j : Nat) : Int)), x] ∧ Same H H' ∧ H' l = some (.lst ((zs ((List.range j).map (kid r p))).map V.int)) ∧ SqT K H' a xs ∧ DpAll K H' xs (rowD r)) ⟨none, ?_, S0, hl0, hT, hA⟩ (fun _ _ _ _ _ => True.intro) ?_ ?_
    · rw [← e1]
      rfl
    · rintro j x σ Hz H1 hj ⟨x0, rfl, S, hL, hT1, hA1⟩ ⟨rfl, rfl⟩
      refine ⟨_, rfl, .inl ⟨rfl, _, .inl (.inl hL)⟩, _, rfl, l, _, _, rfl, rfl, hL, lt_line ?_, ?_⟩
      · unfold zs
        rw [List.length_map, List.length_map, List.length_map, List.length_range]
        omega
      have S2 : Same H (upd H1 l (.lst ((zs ((List.range j).map (kid r p))).map V.int ++ [.int ((kid r p j : Nat) : Int)]))) := same_upd S hl
      have hT2 : SqT K (upd H1 l (.lst ((zs ((List.range j).map (kid r p))).map V.int ++ [.int ((kid r p j : Nat) : Int)]))) a xs := sqt_but (fun b u hb e => by rw [upd_ne hb]; exact e) hL hT1
      have hA2 : DpAll K (upd H1 l (.lst ((zs ((List.range j).map (kid r p))).map V.int ++ [.int ((kid r p j : Nat) : Int)]))) xs (rowD r) := dpAll_but (fun b u hb e => by rw [upd_ne hb]; exact e) hL _ _ (noL_row r) hA1
      have hL2 : (upd H1 l (.lst ((zs ((List.range j).map (kid r p))).map V.int ++ [.int ((kid r p j : Nat) : Int)]))) l = some (.lst ((zs ((List.range (j + 1)).map (kid r p))).map V.int)) := by
        rw [upd_same]
        unfold zs
        rw [List.range_succ, List.map_append, List.map_append, List.map_append]
        rfl
      generalize upd H1 l (.lst ((zs ((List.range j).map (kid r p))).map V.int ++ [.int ((kid r p j : Nat) : Int)])) = H2 at S2 hT2 hA2 hL2
      refine ⟨_, rfl, _, rfl, _, rfl, _, r, _, rfl, .tup hT2 hA2, h1, h100, fun v' H3 S3 hv => ?_⟩
      obtain ⟨b, rfl, hb⟩ := hv
      refine ⟨_, _, rfl, .inl ⟨_, hb, rfl⟩, _, _, rfl, rfl, _, rfl, _, xs.length, rfl, .inr ⟨xs, same_t S3 hT2, rfl⟩, _, _, rfl, rfl, (by show (0 : Int) < (xs.length : Nat); omega), ?_⟩
      refine ⟨some (V.int (0 + ((j : Nat) : Int))), ?_, S2.trans S3, S3 _ _ hL2, same_t S3 hT2, hA2.mono S3⟩
      have e4 : (((kid r p j : Nat) : Int) + ((((zs (arcL r (kid r p j))).map V.int).length : Nat) : Int)) % ((xs.length : Nat) : Int) = ((kid r p (j + 1) : Nat) : Int) := by
        unfold zs
        rw [List.length_map, List.length_map, arcL_len, hx]
        show ((kid r p j + arcLen r (kid r p j) : Nat) : Int) % ((r.length : Nat) : Int) = _
        rw [← Int.natCast_emod]
        rfl
      rw [← e4]
      rfl
    · rintro σ H1 ⟨x0, rfl, S, hL, _⟩
      exact ⟨_, rfl, q _ _ hl S (.inl (.inl hL))⟩
theorem ok_parents_of (T : Txt K mg) : FO P w K mg base (L2.CX P w) 4 (a_parents_of K) ["beads"] (spPars K) := by
  refine T.d_parents_of.ok sc_parents_of (fun vs H Q E h => ?_) (fun cdv A outer s H vs Q E hr h => ?_)
  · obtain ⟨v, r, rfl, _⟩ := h
    rfl
  · obtain ⟨v, r, rfl, hd, g, q⟩ := h
    have G_children_of := ok_children_of (P := P) (w := w) (base := base) T
    refine ⟨_, (pss_cons (ps_set (i := 1) sc_parents_of.nd rfl (Or.inl rfl) (pe_op op_rep (pe_lst (pa_cons pe_non pa_nil)) (pe_callB (id := "len") call_len (by rfl) T.f_len (by decide +kernel) (pa_cons (pv 0) pa_nil)))) (pss_cons (ps_for (passes_of rfl) rfl (pi_range1 rfl T.f_range (pa_cons (pe_callB (id := "len") call_len (by rfl) T.f_len (by decide +kernel) (pa_cons (pv 0) pa_nil)) pa_nil)) (pg_name (i := 2) sc_parents_of.nd rfl (Or.inl rfl)) (pss_one (ps_for (passes_of rfl) rfl (pi_list (pe_call G_children_of (hr.mono (by decide)) rfl T.g_children_of T.d_children_of.kp T.b_children_of .nil passE (pa_cons (pv 0) (pa_cons (pv 2) pa_nil)))) (pg_name (i := 3) sc_parents_of.nd rfl (Or.inl rfl)) (pss_one (ps_asg (pv 2) (pg_sub (pv 1) (pv 3) set_list)))))) (pss_one (ps_ret (pv 1))))), ?_⟩
    have h1 := g.ne
    have h100 := g.le
    refine ⟨(by show 1 ≤ sizeLine; decide), fun l0 hl0 => ?_⟩
    have S0 : Same H (upd H l0 (.lst [.non])) := same_new hl0
    generalize eH : upd H l0 (.lst [.non]) = H0 at S0
    have hL0 : H0 l0 = some (.lst [.non]) := by rw [← eH, upd_same]
    obtain ⟨a, xs, rfl, hT, hA⟩ := (hd.mono S0).tupI
    have hx : xs.length = r.length := by rw [hA.len, rowD_len]
    refine ⟨_, rfl, _, xs.length, rfl, .inr ⟨xs, hT, rfl⟩, l0, _, _, rfl, rfl, hL0, (by omega), (by omega), ?_, fun l hl => ?_⟩
    · show 1 * (((xs.length : Nat) : Int)).toNat ≤ sizeLine
      exact le_line (by omega)
    have e1 : (List.replicate (((xs.length : Nat) : Int)).toNat [V.non]).flatten = (parA r 0).map optV := by
      have : (((xs.length : Nat) : Int)).toNat = r.length := by omega
      rw [this]
      show _ = (List.replicate r.length none).map optV
      generalize r.length = n
      induction n with
      | zero => rfl
      | succ n ih => rw [List.replicate_succ, List.flatten_cons, ih, List.replicate_succ, List.map_cons]; rfl
    rw [e1]
    have S1 : Same H (upd H0 l (.lst ((parA r 0).map optV))) := S0.trans (same_new hl)
    have hT1 := same_t (same_new (o := .lst ((parA r 0).map optV)) hl) hT
    have hA1 := hA.mono (same_new (o := .lst ((parA r 0).map optV)) hl)
    have hL1 : (upd H0 l (.lst ((parA r 0).map optV))) l = some (.lst ((parA r 0).map optV)) := upd_same
    have hnl : H l = none := by
      cases e : H l with
      | none => rfl
      | some o => rw [S0 _ _ e] at hl; cases hl
    generalize upd H0 l (.lst ((parA r 0).map optV)) = H1 at S1 hT1 hA1 hL1
    refine ⟨_, rfl, _, xs.length, rfl, .inr ⟨xs, hT1, rfl⟩, _, rfl, (by omega), (by omega), ?_⟩
    rw [hx]
    refine for_it (walk_range (lo := 0) (n := r.length)) (fun k σ H' => ∃ x y, σ = [some (.ref a), some (.ref l), x, y] ∧ Same H H' ∧ H' l = some (.lst ((parA r k).map optV)) ∧ SqT K H' a xs ∧ DpAll K H' xs (rowD r)) ⟨none, none, rfl, S1, hL1, hT1, hA1⟩ (fun _ _ _ _ _ => True.intro) ?_ ?_
    · rintro k x σ H2 H2' hk ⟨x0, y0, rfl, S, hL, hT2, hA2⟩ ⟨rfl, rfl⟩
      refine ⟨_, rfl, _, rfl, _, r, k, ?_, .tup hT2 hA2, g, hk, fun b H3 hb S3 hB => ?_⟩
      · show [V.ref a, V.int (0 + ((k : Nat) : Int))] = _
        rw [Int.zero_add]
      have nbl : b ≠ l := fun e => by rw [e, hL] at hb; cases hb
      refine ⟨b, rfl, ⟨_, hB⟩, ?_⟩
      refine for_it (walk_list (K := K) (a := b) (xs := (zs (kidsL r k)).map V.int)) (fun j σ H' => ∃ y, σ = [some (.ref a), some (.ref l), some (.int ((k : Nat) : Int)), y] ∧ Same H H' ∧ H' l = some (.lst ((setAll k (parA r k) ((kidsL r k).take j)).map optV)) ∧ SqT K H' a xs ∧ DpAll K H' xs (rowD r) ∧ SqL K H' b ((zs (kidsL r k)).map V.int)) ⟨y0, ?_, S.trans S3, S3 _ _ hL, same_t S3 hT2, hA2.mono S3, hB⟩ (fun i σ H' _ ⟨_, _, _, _, _, _, z⟩ => z) ?_ ?_
      · show [some (V.ref a), some (V.ref l), some (V.int (0 + ((k : Nat) : Int))), y0] = _
        rw [Int.zero_add]
      · rintro j x σ H4 H4' hj ⟨y1, rfl, S4, hL4, hT4, hA4, hB4⟩ ⟨rfl, hxj⟩
        have hj2 : j < (kidsL r k).length := by
          unfold zs at hj
          rw [List.length_map, List.length_map] at hj
          exact hj
        have hc : (kidsL r k)[j]? = some (kidsL r k)[j] := List.getElem?_eq_getElem hj2
        have hxv : x = .int (((kidsL r k)[j] : Nat) : Int) := by
          rw [List.getElem?_map, zs_get hc] at hxj
          exact (Option.some.inj hxj).symm
        subst hxv
        have hlt : (kidsL r k)[j] < r.length := kidsL_lt h1 (List.getElem_mem hj2)
        refine ⟨_, rfl, _, rfl, _, rfl, l, _, _, _, rfl, rfl, hL4, ixN_of (by rw [List.length_map, setAll_len, parA_len]; exact hlt), ?_⟩
        have e2 : ((setAll k (parA r k) ((kidsL r k).take j)).map optV).set (kidsL r k)[j] (.int ((k : Nat) : Int)) = (setAll k (parA r k) ((kidsL r k).take (j + 1))).map optV := by
          rw [setAll_take k _ hc, List.map_set]
          rfl
        rw [e2]
        have kp : ∀ b u, b ≠ l → H4' b = some u → upd H4' l (.lst ((setAll k (parA r k) ((kidsL r k).take (j + 1))).map optV)) b = some u := fun b u hb e => by rw [upd_ne hb]; exact e
        refine ⟨_, rfl, same_upd S4 hnl, upd_same, sqt_but kp hL4 hT4, dpAll_but kp hL4 _ _ (noL_row r) hA4, ?_⟩
        rcases hB4 with (h | ⟨o, h⟩) | h
        · exact .inl (.inl (kp _ _ nbl h))
        · exact .inl (.inr ⟨o, kp _ _ nbl h⟩)
        · exact .inr h
      · rintro σ H4 ⟨y1, rfl, S4, hL4, hT4, hA4, hB4⟩
        refine ⟨_, _, rfl, S4, ?_, hT4, hA4⟩
        rw [parA_succ]
        have e3 : (kidsL r k).take ((zs (kidsL r k)).map V.int).length = kidsL r k := by
          unfold zs
          rw [List.length_map, List.length_map, List.take_length]
        rw [e3] at hL4
        exact hL4
    · rintro σ H2 ⟨x0, y0, rfl, S, hL, _⟩
      exact ⟨_, rfl, q _ _ hnl S (.inl (.inl hL))⟩
theorem ok_children_kin (T : Txt K mg) : FO P w K mg base (L2.CX P w) 5 (a_children_kin K) ["row", "place"] (spKids K) := by
  refine T.d_children_kin.ok sc_children_kin (fun vs H Q E h => ?_) (fun cdv A outer s H vs Q E hr h => ?_)
  · obtain ⟨v, r, p, rfl, _⟩ := h
    rfl
  · obtain ⟨v, r, p, rfl, hd, g, hp, q⟩ := h
    have G_children_of := ok_children_of (P := P) (w := w) (base := base) T
    have G_want_place := ok_want_place (P := P) (w := w) (base := base) T
    have G_want_row := ok_want_row (P := P) (w := w) (base := base) T
    refine ⟨_, (pss_cons (ps_set (i := 2) sc_children_kin.nd rfl (Or.inl rfl) (pe_call G_want_row (hr.mono (by decide)) rfl T.g_want_row T.d_want_row.kp T.b_want_row .nil passE (pa_cons (pv 0) pa_nil))) (pss_one (ps_ret (pe_call G_children_of (hr.mono (by decide)) rfl T.g_children_of T.d_children_of.kp T.b_children_of .nil passE (pa_cons (pv 2) (pa_cons (pe_call G_want_place (hr.mono (by decide)) rfl T.g_want_place T.d_want_place.kp T.b_want_place .nil passE (pa_cons (pv 2) (pa_cons (pv 1) pa_nil))) pa_nil)))))), ?_⟩
    refine ⟨_, rfl, v, r, rfl, hd, g, fun H1 S1 => ?_⟩
    refine ⟨_, rfl, _, rfl, _, rfl, v, r, p, rfl, hd.mono S1, hp, ?_⟩
    exact ⟨v, r, p, rfl, hd.mono S1, g, hp, fun b H2 hb S2 hv => q b H2 (S1.free hb) (S1.trans S2) hv⟩
theorem ok_parents (T : Txt K mg) : FO P w K mg base (L2.CX P w) 5 (a_parents K) ["row"] (spPars K) := by
  refine T.d_parents.ok sc_parents (fun vs H Q E h => ?_) (fun cdv A outer s H vs Q E hr h => ?_)
  · obtain ⟨v, r, rfl, _⟩ := h
    rfl
  · obtain ⟨v, r, rfl, hd, g, q⟩ := h
    have G_parents_of := ok_parents_of (P := P) (w := w) (base := base) T
    have G_want_row := ok_want_row (P := P) (w := w) (base := base) T
    refine ⟨_, (pss_one (ps_ret (pe_call G_parents_of (hr.mono (by decide)) rfl T.g_parents_of T.d_parents_of.kp T.b_parents_of .nil passE (pa_cons (pe_call G_want_row (hr.mono (by decide)) rfl T.g_want_row T.d_want_row.kp T.b_want_row .nil passE (pa_cons (pv 0) pa_nil)) pa_nil)))), ?_⟩
    exact ⟨_, rfl, v, r, rfl, hd, g, fun H1 S1 => ⟨v, r, rfl, hd.mono S1, g, fun b H2 hb S2 hv => q b H2 (S1.free hb) (S1.trans S2) hv⟩⟩
theorem ok_is_count (T : Txt K mg) : FO P w K mg base (L2.CX P w) 1 (a_is_count K) ["thing", "low", "high"] (spCount K) := by
  refine T.d_is_count.ok sc_is_count (fun vs H Q E h => ?_) (fun cdv A outer s H vs Q E hr h => ?_)
  · obtain ⟨v, d, lo, hi, rfl, _⟩ := h
    rfl
  · obtain ⟨v, d, lo, hi, rfl, hd, q⟩ := h
    refine ⟨_, (pss_one (ps_ret (pe_and (pe_callB (id := "isinstance") call_isi (by rfl) T.f_isinstance (by decide +kernel) (pa_cons (pv 0) (pa_cons (pe_ty (n := "int") T.f_int) pa_nil))) (pe_and (pe_not (pe_callB (id := "isinstance") call_isi (by rfl) T.f_isinstance (by decide +kernel) (pa_cons (pv 0) (pa_cons (pe_ty (n := "bool") T.f_bool) pa_nil)))) (pe_one (pe_chain op_le op_le (pv 1) (pv 0) (pv 2))))))), ?_⟩
    refine ⟨_, rfl, _, _, _, _, _, rfl, .ty _, hd.ty, kit_int K d, _, rfl, ?_⟩
    cases d with
    | int i =>
      refine ⟨_, rfl, _, _, _, _, _, rfl, .ty _, hd.ty, kit_bool K (.int i), _, rfl, _, rfl, ?_⟩
      rcases hd with hd | ⟨_, _, _, e⟩
      · cases hd
        refine ⟨_, rfl, _, rfl, lo, i, rfl, rfl, decide (lo ≤ i), rfl, ?_⟩
        have q2 : Q (.bl (decide (lo ≤ i) && decide (i ≤ hi))) H := q
        by_cases h1 : lo ≤ i
        · rw [decide_eq_true h1] at q2 ⊢
          refine iteT ?_
          exact ⟨_, rfl, _, _, rfl, rfl, q2⟩
        · rw [decide_eq_false h1] at q2 ⊢
          exact q2
      · cases e
    | bool b => exact ⟨_, rfl, _, _, _, _, _, rfl, .ty _, hd.ty, kit_bool K (.bool b), _, rfl, _, rfl, q⟩
    | _ => exact q
end
end Bt

namespace Bt
open PySem PySem.Spec PyProof.Rows L2
/-! ### a method called with keywords -/
def tMethN (C : Addr) (m : Str) (n j : Nat) (sp : Sp) (gV : List V → List V → List V) (E : XK) (ta : TE) (t tk : TA) : TE := fun σ H Q => ta σ H fun x H1 => ∃ a dx fs, x = .ref a ∧ H1 a = some (.ins C dx fs) ∧ fs.lookup m = none ∧
  t σ H1 fun vs H2 => tk σ H2 fun zs H3 => vs.length = n ∧ zs.length = j ∧ sp (gV (x :: vs) zs) H3 Q E
section
variable {X : Cx} {CX : CXT} {k n : Nat} {f C : Addr} {fd : FuncData} {ps ks : List Str} {sp : Sp} {E : XK} {m : Str} {p pos apos : Pos} {e o : Expr} {es : List Expr} {kws : List Keyword} {ta : TE} {t tk : TA} {g : List Value → List Value → List Value} {gV : List V → List V → List V}
/-- o.m(e, .., k = v, ..) -/
theorem pe_methN {pl : Sem Bool} (he : PE X o ta) (c : Cls X.K C) (hm : Meth X.K C m f) (F : FnOk X.prog X.w X.K X.mg X.base CX k f fd ps sp) (hr : Room k X.A) (hb : KBn X.K fd ps (n + 1) ks g gV) (hx : Passes CX X E) (ha : PA X (e :: es) t) (hkw : PK X kws tk)
    (hall : (backToKw pos (keywordEach kws X.env)).all (·.1.isSome) = true := by rfl) (hks : (backToKw pos (keywordEach kws X.env)).filterMap (·.1) = ks := by rfl)
    (hst : starEach (e :: es) X.env = (false, eval e X.env) :: starEach es X.env := by rfl) (hpl : ((backTo pos (starEach (e :: es) X.env)).any (·.1) || (backToKw pos (keywordEach kws X.env)).any (·.1.isNone)) = false := by rfl)
    (ht : eval (.Call (.Attribute o m apos) (e :: es) kws pos) X.env = (do
      let ov ← eval o X.env
      standAt apos.atName
      let (f, first) ← holding [ov] (getMethod ov m pl)
      callWith pos f first (backTo pos (starEach (e :: es) X.env)) (backToKw pos (keywordEach kws X.env))) := by rfl) :
    PE X (.Call (.Attribute o m apos) (e :: es) kws pos) (tMethN C m n ks.length sp gV E ta t tk) := by
  refine ⟨fun pins s σ H Q I h => ?_⟩
  refine PySem.W.methodCall_KW (pl := pl) (thn (he.run pins s σ H _ I h) fun u s1 ⟨x, H1, I1, rx, a, dx, fs, ex, ea, l, q⟩ => ?_) ht
  subst ex
  obtain rfl : u = Value.ref a := rx
  refine getmeth_ok I1 ea c hm l ?_
  refine PySem.W.callWith_KW (first := [.ref a]) (h₀ := X.base) I.ok.mod.kin hm.kp hall (thn (ha.run pos pins s1 σ H1 _ I1 q) fun us s2 ⟨vs, H2, I2, r, q2⟩ => ?_) hpl hst
  refine thn (hkw.run pos pins s2 σ H2 _ I2 q2) fun ws s3 ⟨zs, H3, I3, rz, l1, l2, q3⟩ => ⟨I3.kIn, ?_⟩
  rw [hks]
  exact run_fnN (us := .ref a :: us) (vs := .ref a :: vs) F hr hb hx I3 (.cons rfl r) rz (by rw [List.length_cons, l1]) l2 q3
/-- o.m(k = v, ..) -/
theorem pe_methN0 {pl : Sem Bool} (he : PE X o ta) (c : Cls X.K C) (hm : Meth X.K C m f) (F : FnOk X.prog X.w X.K X.mg X.base CX k f fd ps sp) (hr : Room k X.A) (hb : KBn X.K fd ps 1 ks g gV) (hx : Passes CX X E) (hkw : PK X kws tk)
    (hall : (backToKw pos (keywordEach kws X.env)).all (·.1.isSome) = true := by rfl) (hks : (backToKw pos (keywordEach kws X.env)).filterMap (·.1) = ks := by rfl)
    (hpl : ((backTo pos (starEach [] X.env)).any (·.1) || (backToKw pos (keywordEach kws X.env)).any (·.1.isNone)) = false := by rfl)
    (ht : eval (.Call (.Attribute o m apos) [] kws pos) X.env = (do
      let ov ← eval o X.env
      standAt apos.atName
      let (f, first) ← holding [ov] (getMethod ov m pl)
      callWith pos f first (backTo pos (starEach [] X.env)) (backToKw pos (keywordEach kws X.env))) := by rfl) :
    PE X (.Call (.Attribute o m apos) [] kws pos) (tMethN C m 0 ks.length sp gV E ta tNil tk) := by
  refine ⟨fun pins s σ H Q I h => ?_⟩
  refine PySem.W.methodCall_KW (pl := pl) (thn (he.run pins s σ H _ I h) fun u s1 ⟨x, H1, I1, rx, a, dx, fs, ex, ea, l, q⟩ => ?_) ht
  subst ex
  obtain rfl : u = Value.ref a := rx
  refine getmeth_ok I1 ea c hm l ?_
  refine PySem.W.callWith_KW0 (first := [.ref a]) (h₀ := X.base) I.ok.mod.kin hm.kp hall ?_ hpl
  refine thn (hkw.run pos pins s1 σ H1 _ I1 q) fun ws s3 ⟨zs, H3, I3, rz, l1, l2, q3⟩ => ⟨I3.kIn, ?_⟩
  rw [hks]
  exact run_fnN (us := [.ref a]) (vs := [.ref a]) F hr hb hx I3 (.cons rfl .nil) rz rfl l2 q3
end
/-! ### B.__init__(self, ..), B an own exception class without an own __init__ -/
section
variable {X : Cx} {o e : Expr} {es : List Expr} {ta : TA} {x : Str} {B : Addr} {p1 p2 pos : Pos}
theorem pe_beinit {pl : Sem Bool} (hg : Gl X x) (hm : X.mg x = some (.ref B)) (hx : x ≠ "__name__") (hd : (x == ("__debug__" : Str)) = false) (b1 : PySem.W.findCls X.K (.ref B) (.type "type") "__init__" = some (.val (.builtin "ValueError.__init__")))
    (b2 : PySem.W.readsIn X.K B (.type "type") = true) (b3 : PySem.W.specialIn X.K (.ref B) "__getattribute__" = some (some (.builtin "type.__getattribute__"))) (ha : PA X (e :: es) ta)
    (hc : eval (.Call (.Attribute (.Name x p1) "__init__" p2) (e :: es) [] pos) X.env = (do
      let ov ← eval (.Name x p1) X.env
      standAt p2.atName
      let (f, first) ← holding [ov] (getMethod ov "__init__" pl)
      callWith pos f first (backTo pos (starEach (e :: es) X.env)) (backToKw pos (keywordEach [] X.env))) := by rfl)
    (he : starEach (e :: es) X.env = (false, eval e X.env) :: starEach es X.env := by rfl) (hpl : (backTo pos (starEach es X.env)).any (·.1) = false := by rfl) :
    PE X (.Call (.Attribute (.Name x p1) "__init__" p2) (e :: es) [] pos) (tVeI X.K ta) := by
  refine ⟨fun pins s σ H Q I h => ?_⟩
  refine PySem.W.methodCall_KW (ld_glob I hg hm ?_ hd) hc
  refine PySem.W.method_cls I.kIn b3 (PySem.W.cls_value I.kIn b2 b1 (by decide +kernel) ?_)
  show wpAny _ _ (callWith pos (Value.builtin "ValueError.__init__") [] (backTo pos (starEach (e :: es) X.env)) []) _ _ _
  refine PyProof.Rows.callWith_method1 (thn (ha.run pos pins _ σ H _ (I.tok _) h) fun us s1 ⟨vs, H1, I1, r1, a, C, ws, ev, hl, T, ea, q⟩ => ?_) he hpl
  subst ev
  cases r1 with
  | @cons _ u0 _ ur ra rw' =>
    obtain rfl : u0 = Value.ref a := ra
    have hlen : ur.length ≤ sizeLine := by
      rw [← Paired.length rw', sizeLine_eq]
      omega
    exact oinit_ok T I1 ea hlen fun s' J => ⟨.non, H1, J, rfl, q⟩
end

/-! ### the least of a list of data -/
open PySem.W in
theorem min_list_at {prog : Program} {w : World} {A : Around} {E : Value → Shared → Prop} {s : Shared} {l : Addr} {vs : Array Value} {x : PyData} {xs : List PyData} {as : List Addr} {Q : Value → Shared → Prop} (hh : A.handled = none) (hl : s.heap.IsList l vs) (hr : ReadsAll s.heap vs.toList (x :: xs) as) (ha : AlikeAll (x :: xs)) (hu : A.units + 1 + PyData.depthAll (x :: xs) < cLine)
    (h : ∀ (i : Nat) v h' tk, vs[i]? = some v → (x :: xs).getD i .none = minD x xs → (∀ b o, s.heap.get? b = some o → h'.get? b = some o) → Q v { s with heap := h', toks := tk }) :
    wpAny (model prog w) A (call (.builtin "min") [.ref l]) Q E s := by
  have hn : vs.size = xs.length + 1 := readsAll_len hr
  refine call_min_walkH (iter_listW (A := A.in1) hh hl fun s₂ e W st hfp hw hk => ?_)
  refine ⟨_, _, _, _, _, _, _, s.heap, _, rfl, W, st, hfp, by omega, hw, hk, cmpIn_lt (A := A.in1) hr ha (by show A.units + 1 + _ < _; exact hu), fun v s' hP m => ?_⟩
  obtain ⟨h', tk, rfl, hk'⟩ := moved_old e rfl m
  have e1 : vs.size - 1 = xs.length := by omega
  have e2 := (argBest_fold dataLt PyData.none x xs xs.length (Nat.le_refl _)).2
  rw [List.take_length] at e2
  rw [e1] at hP
  exact h _ v h' tk hP e2 hk'
def rMinD (K : PySem.W.Frag) : List V → Hp → VK → Prop := fun vs H Q => ∃ a xs d ds, vs = [.ref a] ∧ SqL K H a xs ∧ DpAll K H xs (d :: ds) ∧ PySem.W.AlikeAll (d :: ds) ∧ PyData.depthAll (d :: ds) ≤ 50 ∧ ∀ v, Dp K H v (PySem.W.minD d ds) → Q v H
theorem Vals.get {vs : List V} {us : List Value} (r : Vals vs us) {i : Nat} {u : Value} (h : us[i]? = some u) : ∃ v, vs[i]? = some v ∧ RelV v u := by
  induction r generalizing i with
  | nil => simp at h
  | cons r1 r2 ih =>
    cases i with
    | zero =>
      have e := Option.some.inj h
      subst e
      exact ⟨_, rfl, r1⟩
    | succ i => exact ih (by simpa using h)
theorem cr_minD {X : Cx} {k : Nat} (hr : Room k X.A) : CallR X (.builtin "min") (rMinD X.K) := by
  intro pins s σ H vs us Q I r h
  obtain ⟨a, xs, d, ds, rfl, hs, hA, hk, hz, q⟩ := h
  obtain ⟨its, rv, hl, _⟩ := I.list hs
  rw [Vals.ref1 r]
  obtain ⟨as, hR⟩ := Dp.readsAll I _ _ _ hA rv
  refine min_list_at hr.hd hl.isList (by simpa using hR) hk (by have := hr.un; omega) fun i v h' tk hi he hk' => ?_
  obtain ⟨x, hx, rx⟩ := Vals.get rv (i := i) (by simpa using hi)
  obtain ⟨d', hd', hdp⟩ := hA.get' hx
  have e : (d :: ds).getD i .none = d' := by rw [List.getD_eq_getElem?_getD, hd']; rfl
  rw [← he, e] at q
  exact ⟨x, H, I.kept hk', rx, q x hdp⟩
end Bt

namespace Bt
open PySem PySem.Spec PyProof.Rows L2
/-! ### the least of the rotations -/
theorem rot_len (r : Row) (p : Nat) : (rot r p).length = r.length := by
  unfold rot
  rw [List.length_append, List.length_drop, List.length_take]
  omega
theorem arms_app (r s : Row) : arms (r ++ s) = arms r + arms s := by
  unfold arms
  rw [List.map_append, List.sum_append]
theorem arms_rot (r : Row) (p : Nat) : arms (rot r p) = arms r := by
  unfold rot
  rw [arms_app, Nat.add_comm, ← arms_app, List.take_append_drop]
theorem Good.rot {r : Row} (g : Good r) (p : Nat) : Good (rot r p) := by
  refine ⟨by rw [rot_len]; exact g.ne, by rw [rot_len]; exact g.le, fun b hb => ?_, by rw [rot_len, arms_rot]; exact g.lt⟩
  unfold Bt.rot at hb
  rcases List.mem_append.mp hb with h | h
  · exact g.nm b (List.mem_of_mem_drop h)
  · exact g.nm b (List.mem_of_mem_take h)
def rotD (r : Row) (p : Nat) : PyData := .tuple (rowD (rot r p))
theorem minD_mem : ∀ (xs : List PyData) (x : PyData), PySem.W.minD x xs ∈ x :: xs
  | [], x => List.mem_cons_self ..
  | y :: xs, x => by
    show PySem.W.minD (if PySem.W.dataLt y x then y else x) xs ∈ x :: y :: xs
    have ih := minD_mem xs (if PySem.W.dataLt y x then y else x)
    rcases List.mem_cons.mp ih with h | h
    · rw [h]
      by_cases c : PySem.W.dataLt y x = true
      · rw [if_pos c]
        exact List.mem_cons_of_mem _ (List.mem_cons_self ..)
      · rw [if_neg c]
        exact List.mem_cons_self ..
    · exact List.mem_cons_of_mem _ (List.mem_cons_of_mem _ h)
def leastD (r : Row) : PyData := PySem.W.minD (rotD r 0) (((List.range (r.length - 1)).map Nat.succ).map (rotD r))
theorem rots_eq {r : Row} (h : 1 ≤ r.length) : (List.range r.length).map (rotD r) = rotD r 0 :: ((List.range (r.length - 1)).map Nat.succ).map (rotD r) := by
  obtain ⟨n, e⟩ : ∃ n, r.length = n + 1 := ⟨r.length - 1, by omega⟩
  rw [e, List.range_succ_eq_map]
  rfl
theorem least_ex {r : Row} (g : Good r) : ∃ r', leastD r = .tuple (rowD r') ∧ Good r' := by
  have h := minD_mem (((List.range (r.length - 1)).map Nat.succ).map (rotD r)) (rotD r 0)
  rw [← rots_eq g.ne] at h
  obtain ⟨p, _, e⟩ := List.mem_map.mp h
  exact ⟨rot r p, e.symm, g.rot p⟩
noncomputable def leastR (r : Row) : Row := by
  classical
  exact if h : ∃ r', leastD r = .tuple (rowD r') ∧ Good r' then Classical.choose h else r
theorem leastR_is {r : Row} (g : Good r) : leastD r = .tuple (rowD (leastR r)) ∧ Good (leastR r) := by
  have h := least_ex g
  unfold leastR
  rw [dif_pos h]
  exact Classical.choose_spec h
theorem alike_rows : ∀ (r s : Row), PySem.W.alikeAll (rowD r) (rowD s) = true
  | [], s => by cases s <;> simp [rowD, PySem.W.alikeAll]
  | b :: r, [] => by simp [rowD, PySem.W.alikeAll]
  | b :: r, c :: s => by
    have ih := alike_rows r s
    show PySem.W.alikeAll (beadD b :: rowD r) (beadD c :: rowD s) = true
    rw [PySem.W.alikeAll, ih, Bool.and_true]
    simp [beadD, PySem.W.alike, PySem.W.alikeAll]
theorem depth_row : ∀ (r : Row), PyData.depthAll (rowD r) ≤ 2
  | [] => by simp [rowD, PyData.depthAll]
  | b :: r => by
    have ih := depth_row r
    show PyData.depthAll (beadD b :: rowD r) ≤ 2
    rw [PyData.depthAll]
    have h1 : (beadD b).depth ≤ 2 := by simp [beadD, PyData.depth, PyData.depthAll]
    omega
theorem depth_rots (r : Row) : ∀ (ps : List Nat), PyData.depthAll (ps.map (rotD r)) ≤ 3
  | [] => by simp [PyData.depthAll]
  | p :: ps => by
    have ih := depth_rots r ps
    rw [List.map_cons, PyData.depthAll]
    have h1 : (rotD r p).depth ≤ 3 := by
      unfold rotD
      rw [PyData.depth]
      have := depth_row (rot r p)
      omega
    omega
theorem alike_rots (r : Row) (ps : List Nat) : PySem.W.AlikeAll (ps.map (rotD r)) := by
  refine ⟨fun x hx y hy => ?_, fun x hx => ?_⟩
  · obtain ⟨p, _, rfl⟩ := List.mem_map.mp hx
    obtain ⟨q, _, rfl⟩ := List.mem_map.mp hy
    unfold rotD
    rw [PySem.W.alike]
    exact alike_rows _ _
  · obtain ⟨p, _, rfl⟩ := List.mem_map.mp hx
    exact fun z => by cases z
def spLeast (K : PySem.W.Frag) : Sp := fun vs H Q _ => ∃ v r, vs = [v] ∧ Dp K H v (.tuple (rowD r)) ∧ Good r ∧ ∀ v' H', Same H H' → Dp K H' v' (.tuple (rowD (leastR r))) → Q v' H'
/-! ### lists of numbers -/
def spWithout (K : PySem.W.Frag) : Sp := fun vs H Q _ => ∃ a b, ∃ ns ms : List Int, vs = [.ref a, .ref b] ∧ SqL K H a (ns.map V.int) ∧ SqL K H b (ms.map V.int) ∧ ns.length ≤ 50000 ∧ ∀ c H', H c = none → Same H H' → H' c = some (.lst ((ns.filter fun n => decide (n ∉ ms)).map V.int)) → Q (.ref c) H'
def spPutB (K : PySem.W.Frag) : Sp := fun vs H Q _ => ∃ a b, ∃ (ns ms : List Int) (x : Int) (j : Nat), vs = [.ref a, .int x, .ref b] ∧ H a = some (.lst (ns.map V.int)) ∧ H b = some (.lst (ms.map V.int)) ∧ ns.length + ms.length ≤ 50000 ∧ ns[j]? = some x ∧ (∀ m, m < j → ns[m]? ≠ some x) ∧
  ∀ c H', H c = none → Same H H' → H' c = some (.lst ((ns.take (j + 1) ++ ms ++ ns.drop (j + 1)).map V.int)) → Q (.ref c) H'
def scV (v : V) : Prop := v = .non ∨ ∃ i, v = .int i
def vD : V → PyData
  | .int i => .int i
  | _ => .none
theorem scV.dp {K : PySem.W.Frag} {H : Hp} {v : V} (h : scV v) : Dp K H v (vD v) := by
  rcases h with rfl | ⟨i, rfl⟩
  · exact .non
  · exact .int i
theorem scV.scal {v u : V} (h : scV v) (k : scV u) : scal v u = true := by
  rcases h with rfl | ⟨i, rfl⟩ <;> rcases k with rfl | ⟨j, rfl⟩ <;> rfl
def spMoves (K : PySem.W.Frag) : Sp := fun vs H Q _ => ∃ a b kvs ls, ∃ ks : List Int, vs = [.ref a, .ref b] ∧ H a = some (.dK kvs) ∧ H b = some (.dK ls) ∧ kvs.map (·.1) = ks.map Sum.inl ∧ ks.length < 64 ∧
  (∀ k v, valV kvs k = some v → scV v) ∧ (∀ k v, valV ls k = some v → scV v) ∧ ∀ v H', Same H H' → Q v H'
theorem inV_int (x : Int) : ∀ ms : List Int, inV (.int x) (ms.map V.int) = decide (x ∈ ms)
  | [] => rfl
  | m :: ms => by
    have ih := inV_int x ms
    unfold inV at ih ⊢
    rw [List.map_cons, List.any_cons, ih]
    show ((m == x) || _) = _
    rw [Bool.eq_iff_iff]
    simp only [Bool.or_eq_true, beq_iff_eq, decide_eq_true_eq, List.mem_cons]
    constructor
    · rintro (h | h)
      · exact .inl h.symm
      · exact .inr h
    · rintro (h | h)
      · exact .inl h.symm
      · exact .inr h
theorem flat_ints (ms : List Int) : (ms.map V.int).all flatV = true := List.all_eq_true.mpr fun x hx => by
  obtain ⟨m, _, rfl⟩ := List.mem_map.mp hx
  rfl
theorem fmap_filter {α : Type} (p : Int → Bool) (f : Int → α) : ∀ ns : List Int, (ns.map fun n => if p n = true then some (f n) else none).filterMap id = (ns.filter p).map f
  | [] => rfl
  | n :: ns => by
    have ih := fmap_filter p f ns
    rw [List.map_cons, List.filter_cons]
    by_cases h : p n = true
    · rw [if_pos h, if_pos h, List.filterMap_cons, ih]
      rfl
    · rw [if_neg h, if_neg h, List.filterMap_cons, ih]
      rfl
section
variable {P : Program} {w : World} {K : PySem.W.Frag} {mg : Str → Option Value} {base : Heap}
theorem ok_least (T : Txt K mg) : FO P w K mg base (L2.CX P w) 5 (a_least K) ["row"] (spLeast K) := by
  refine T.d_least.ok sc_least (fun vs H Q E h => ?_) (fun cdv A outer s H vs Q E hr h => ?_)
  · obtain ⟨v, r, rfl, _⟩ := h
    rfl
  · obtain ⟨v, r, rfl, hd, g, q⟩ := h
    have G_begun_at := ok_begun_at (P := P) (w := w) (base := base) T
    have G_want_row := ok_want_row (P := P) (w := w) (base := base) T
    refine ⟨_, (pss_cons (ps_set (i := 1) sc_least.nd rfl (Or.inr rfl) (pe_call G_want_row (hr.mono (by decide)) rfl T.g_want_row T.d_want_row.kp T.b_want_row .nil passE (pa_cons (pv 0) pa_nil))) (pss_one (ps_ret (pe_callB (id := "min") (cr_minD hr) (by rfl) T.f_min (by decide +kernel) (pa_cons (pe_lc (own := [("place", 2)]) (g := gName 2) rfl sc_least.nd (pi_range1 rfl T.f_range (pa_cons (pe_callB (id := "len") call_len (by rfl) T.f_len (by decide +kernel) (pa_cons (pv 1) pa_nil)) pa_nil)) (blkOk_by (own := [("place", 2)]) (N := ["row", "beads", "place"]) (sc := defScope s_least) (by decide +kernel)) (fun _ _ _ _ _ => pg_name (i := 2) sc_least.nd rfl (Or.inl rfl)) (fun _ _ _ _ _ => pts_nil) (fun _ _ _ _ _ => (pe_call G_begun_at (hr.mono (by decide)) rfl T.g_begun_at T.d_begun_at.kp T.b_begun_at .nil passL (pa_cons (pv 1) (pa_cons (pv 2) pa_nil))))) pa_nil))))), ?_⟩
    refine ⟨_, rfl, v, r, rfl, hd, g, fun H1 S1 => ?_⟩
    obtain ⟨a, xs, rfl, hT, hA⟩ := (hd.mono S1).tupI
    have hx : xs.length = r.length := by rw [hA.len, rowD_len]
    have h1 := g.ne
    have h100 := g.le
    refine ⟨_, rfl, _, xs.length, rfl, .inr ⟨xs, hT, rfl⟩, _, rfl, by omega, by omega, fun D hD => ?_⟩
    have en : (((xs.length : Nat) : Int)).toNat = r.length := by omega
    rw [en]
    refine lcm (K := K) (walk_range (lo := 0) (n := r.length)) ((List.range r.length).map (rotD r)) (by rw [List.length_map, List.length_range]) (by omega) hD (fun d h => ?_) (fun _ _ => True.intro) (fun i x H3 H3' d hi S y => ?_) gname_mono (fun H3 acc S4 hD3 hP => ?_)
    · obtain ⟨c, _, rfl⟩ := List.mem_map.mp h
      show noLAll (rowD (rot r c)) = true
      exact noL_row _
    · obtain ⟨rfl, rfl⟩ := y
      have hi2 : i < r.length := by
        have := (List.getElem?_eq_some_iff.mp hi).1
        rw [List.length_map, List.length_range] at this
        exact this
      rw [List.getElem?_map, List.getElem?_range hi2] at hi
      have e := Option.some.inj hi
      subst e
      refine ⟨Same.refl _, fun Qy hy => ⟨rfl, _, rfl, _, rfl, _, r, i, ?_, (hd.mono S1).mono S, h100, by omega, fun v' H4 S4 hv => hy _ _ S4 hv⟩⟩
      show [V.ref a, V.int (0 + ((i : Nat) : Int))] = _
      rw [Int.zero_add]
    · have hk := alike_rots r (List.range r.length)
      have hz := depth_rots r (List.range r.length)
      have gl := leastR_is g
      rw [rots_eq h1] at hP hk hz
      refine ⟨D, acc, _, _, rfl, .inl (.inl hD3), hP, hk, by omega, fun v' hv => ?_⟩
      have hv' : Dp K H3 v' (leastD r) := hv
      rw [gl.1] at hv'
      exact q _ _ (S1.trans S4) hv'
theorem ok_without (T : Txt K mg) : FO P w K mg base (L2.CX P w) 1 (a_without K) ["numbers", "gone"] (spWithout K) := by
  refine T.d_without.ok sc_without (fun vs H Q E h => ?_) (fun cdv A outer s H vs Q E hr h => ?_)
  · obtain ⟨a, b, ns, ms, rfl, _⟩ := h
    rfl
  · obtain ⟨a, b, ns, ms, rfl, ha, hb, hz, q⟩ := h
    refine ⟨_, (pss_one (ps_ret (pe_lc (own := [("number", 2)]) (g := gName 2) rfl sc_without.nd (pi_list (pv 0)) (blkOk_by (own := [("number", 2)]) (N := ["numbers", "gone", "number"]) (sc := defScope s_without) (by decide +kernel)) (fun _ _ _ _ _ => pg_name (i := 2) sc_without.nd rfl (Or.inl rfl)) (fun _ _ _ _ _ => pts_one (pt_cmpR (op_notIn_seqK (K := K)) (pv 2) (pv 1) rfl)) (fun _ _ _ _ _ => (pv 2))))), ?_⟩
    refine ⟨_, rfl, a, rfl, ⟨_, ha⟩, fun D hD => ?_⟩
    refine lcg (K := K) (walk_list (K := K) (a := a) (xs := ns.map V.int)) (ns.map fun n => if decide (n ∉ ms) = true then some (.int n) else none) (by rw [List.length_map, List.length_map]) (by rw [List.length_map]; omega) hD (fun d h => ?_) (fun _ S => same_l S ha) (fun i x H3 H3' d hi S y => ?_) (fun H3 acc S4 hD3 hP => ?_)
    · obtain ⟨n, _, e⟩ := List.mem_map.mp h
      by_cases c : decide (n ∉ ms) = true
      · rw [if_pos c] at e
        rw [← Option.some.inj e]
        rfl
      · rw [if_neg c] at e
        cases e
    · obtain ⟨rfl, hx⟩ := y
      rw [List.getElem?_map] at hi hx
      cases hn : ns[i]? with
      | none => rw [hn] at hx; cases hx
      | some n =>
        rw [hn] at hx hi
        have e := Option.some.inj hx
        subst e
        have e := Option.some.inj hi
        subst e
        refine ⟨Same.refl _, fun Qn Qy hn hy => ⟨rfl, _, rfl, _, rfl, b, _, rfl, .inl (same_l S hb), rfl, flat_ints ms, _, rfl, ?_⟩⟩
        show (if (!inV (.int n) (ms.map V.int)) = true then _ else _)
        rw [inV_int]
        by_cases c : n ∈ ms
        · rw [decide_eq_true c]
          refine iteF (hn ?_ _ (Same.refl _))
          show (if decide (n ∉ ms) = true then some (PyData.int n) else none) = none
          rw [if_neg (by simpa using c)]
        · rw [decide_eq_false c]
          refine iteT ⟨_, rfl, hy (.int n) ?_ _ _ (Same.refl _) (.int n)⟩
          show (if decide (n ∉ ms) = true then some (PyData.int n) else none) = _
          rw [if_pos (by simpa using c)]
    · rw [fmap_filter (fun n => decide (n ∉ ms)) PyData.int] at hP
      rw [hP.ints] at hD3
      exact q D H3 hD S4 hD3
theorem ok_put_behind (T : Txt K mg) : FO P w K mg base (L2.CX P w) 1 (a_put_behind K) ["numbers", "ahead", "more"] (spPutB K) := by
  refine T.d_put_behind.ok sc_put_behind (fun vs H Q E h => ?_) (fun cdv A outer s H vs Q E hr h => ?_)
  · obtain ⟨a, b, ns, ms, x, j, rfl, _⟩ := h
    rfl
  · obtain ⟨a, b, ns, ms, x, j, rfl, ha, hb, hz, hj, hn, q⟩ := h
    refine ⟨_, (pss_cons (ps_set (i := 3) sc_put_behind.nd rfl (Or.inl rfl) (pe_op op_add (pe_bm PySem.F.plainAttrs_list PySem.F.slot_list_index PySem.F.type_list_index mt_index (pv 0) (pa_cons (pv 1) pa_nil)) pe_int)) (pss_one (ps_ret (pe_op op_cat (pe_op op_cat (pe_slice sl_list (pv 0) po_none (po_some (pv 3))) (pv 2)) (pe_slice sl_list (pv 0) (po_some (pv 3)) po_none))))), ?_⟩
    have hjl := (List.getElem?_eq_some_iff.mp hj).1
    refine ⟨_, rfl, .inl ⟨rfl, _, .inl (.inl ha)⟩, _, rfl, a, _, .int x, j, .int x, rfl, rfl, .inl (.inl ha), rfl, flat_ints ns, by rw [List.getElem?_map, hj]; rfl, by simp [eqV], fun m z hm hz => ?_, _, _, rfl, rfl, ?_⟩
    · rw [List.getElem?_map] at hz
      cases e : ns[m]? with
      | none => rw [e] at hz; cases hz
      | some y =>
        rw [e] at hz
        have e2 := Option.some.inj hz
        subst e2
        show (y == x) = false
        have : y ≠ x := fun z => hn m hm (by rw [e, z])
        simpa using this
    have e0 : ((j : Nat) : Int) + 1 = ((j + 1 : Nat) : Int) := rfl
    refine ⟨_, rfl, _, rfl, _, rfl, ?_⟩
    rw [e0]
    refine sll_go (.inl (.inl ha)) fun c H1 hc S1 h1 => ⟨_, rfl, c, b, _, _, rfl, rfl, h1, S1 _ _ hb, ?_, fun d hd => ?_⟩
    · rw [cut_take (by rw [List.length_map]; omega), List.length_take, List.length_map, List.length_map]
      exact le_line (by omega)
    rw [cut_take (by rw [List.length_map]; omega)]
    have S2 : Same H (upd H1 d (.lst ((ns.map V.int).take (j + 1) ++ ms.map V.int))) := S1.trans (same_new hd)
    have h2 : (upd H1 d (.lst ((ns.map V.int).take (j + 1) ++ ms.map V.int))) d = some (.lst ((ns.map V.int).take (j + 1) ++ ms.map V.int)) := upd_same
    generalize upd H1 d (.lst ((ns.map V.int).take (j + 1) ++ ms.map V.int)) = H2 at S2 h2
    refine ⟨_, rfl, _, rfl, _, rfl, np ?_⟩
    refine sll_go (lo := some ((j + 1 : Nat) : Int)) (.inl (.inl (S2 _ _ ha))) fun c2 H3 hc2 S3 h3 => ⟨d, c2, _, _, rfl, rfl, S3 _ _ h2, h3, ?_, fun f hf => ?_⟩
    · rw [cut_drop (by rw [List.length_map]; omega), List.length_append, List.length_take, List.length_drop, List.length_map, List.length_map]
      exact le_line (by omega)
    · rw [cut_drop (by rw [List.length_map]; omega)]
      have S4 : Same H H3 := S2.trans S3
      refine q f _ (S4.free hf) (S4.trans (same_new hf)) ?_
      rw [upd_same, List.map_append, List.map_append, List.map_take, List.map_drop]
theorem ok_moves_between (T : Txt K mg) : FO P w K mg base (L2.CX P w) 1 (a_moves_between K) ["before", "after"] (spMoves K) := by
  refine T.d_moves_between.ok sc_moves_between (fun vs H Q E h => ?_) (fun cdv A outer s H vs Q E hr h => ?_)
  · obtain ⟨a, b, kvs, ls, ks, rfl, _⟩ := h
    rfl
  · obtain ⟨a, b, kvs, ls, ks, rfl, ha, hb, hk, h64, va, vb, q⟩ := h
    refine ⟨_, (pss_cons (ps_setLc (i := 2) (own := [("number", 3)]) (g := gName 3) rfl sc_moves_between.nd rfl rfl (sw_true rfl rfl rfl (by decide +kernel)) (pi_list (pe_callB (id := "sorted") (call_sortedDI rfl) (by rfl) T.f_sorted (by decide +kernel) (pa_cons (pv 0) pa_nil))) (blkOk_by (own := [("number", 3)]) (N := ["before", "after", "there", "number"]) (sc := defScope s_moves_between) (by decide +kernel)) (fun _ _ _ _ _ => pg_name (i := 3) sc_moves_between.nd rfl (Or.inl rfl)) (fun _ _ _ _ _ => pts_one (pt_cmp (pc_din (hu_of hr) (pv 3) (pv 1)))) (fun _ _ _ _ _ => (pv 3))) (pss_one (ps_ret (pe_lc (own := [("number", 3)]) (g := gName 3) rfl sc_moves_between.nd (pi_list (pv 2)) (blkOk_by (own := [("number", 3)]) (N := ["before", "after", "there", "number"]) (sc := defScope s_moves_between) (by decide +kernel)) (fun _ _ _ _ _ => pg_name (i := 3) sc_moves_between.nd rfl (Or.inl rfl)) (fun _ _ _ _ _ => pts_one (pt_cmpR op_ne (pe_dget (hu_of hr) (pv 0) (pv 3) (fun _ _ => rfl)) (pe_dget (hu_of hr) (pv 1) (pv 3) (fun _ _ => rfl)) (nomark _))) (fun _ _ _ _ _ => (pe_tup (pa_cons (pv 3) (pa_cons (pe_dget (hu_of hr) (pv 0) (pv 3) (fun _ _ => rfl)) (pa_cons (pe_dget (hu_of hr) (pv 1) (pv 3) (fun _ _ => rfl)) pa_nil))))))))), ?_⟩
    refine ⟨_, rfl, a, kvs, ks, rfl, .inl ha, hk, h64, fun ys p hperm hsort hp => ?_⟩
    have S1 : Same H (upd H p (.lst (ys.map V.int))) := same_new hp
    have hL : (upd H p (.lst (ys.map V.int))) p = some (.lst (ys.map V.int)) := upd_same
    generalize upd H p (.lst (ys.map V.int)) = H1 at S1 hL
    have hyz : ys.length < 64 := by rw [hperm.length_eq]; exact h64
    refine ⟨p, rfl, ⟨_, .inl (.inl hL)⟩, fun D hD => ?_⟩
    refine lcg (K := K) (walk_list (K := K) (a := p) (xs := ys.map V.int)) (ys.map fun n => if (valV ls (Sum.inl n)).isSome = true then some (.int n) else none) (by rw [List.length_map, List.length_map]) (by rw [List.length_map]; omega) hD (fun d h => ?_) (fun _ S => .inl (.inl (S _ _ hL))) (fun i x H3 H3' d hi S y => ?_) (fun H3 acc S4 hD3 hP => ?_)
    · obtain ⟨n, _, e⟩ := List.mem_map.mp h
      by_cases c : (valV ls (Sum.inl n)).isSome = true
      · rw [if_pos c] at e
        rw [← Option.some.inj e]
        rfl
      · rw [if_neg c] at e
        cases e
    · obtain ⟨rfl, hx⟩ := y
      rw [List.getElem?_map] at hi hx
      cases hn : ys[i]? with
      | none => rw [hn] at hx; cases hx
      | some n =>
        rw [hn] at hx hi
        have e := Option.some.inj hx
        subst e
        have e := Option.some.inj hi
        subst e
        refine ⟨Same.refl _, fun Qn Qy hn hy => ⟨rfl, _, rfl, _, rfl, b, valV ls (Sum.inl n), rfl, DGet.k (k := Sum.inl n) (S _ _ (S1 _ _ hb)), ?_⟩⟩
        cases c : (valV ls (Sum.inl n)).isSome with
        | false =>
          refine ⟨_, rfl, iteF (hn ?_ _ (Same.refl _))⟩
          show (if (valV ls (Sum.inl n)).isSome = true then some (PyData.int n) else none) = none
          rw [c]
          rfl
        | true =>
          refine ⟨_, rfl, iteT ⟨_, rfl, hy (.int n) ?_ _ _ (Same.refl _) (.int n)⟩⟩
          show (if (valV ls (Sum.inl n)).isSome = true then some (PyData.int n) else none) = _
          rw [c]
          rfl
    rw [fmap_filter (fun n => (valV ls (Sum.inl n)).isSome) PyData.int] at hP
    rw [hP.ints] at hD3
    have hin : ∀ n ∈ ys.filter fun n => (valV ls (Sum.inl n)).isSome, (∃ v, valV kvs (Sum.inl n) = some v ∧ scV v) ∧ ∃ u, valV ls (Sum.inl n) = some u ∧ scV u := fun n hn => by
      obtain ⟨h1, h2⟩ := List.mem_filter.mp hn
      have hm : (Sum.inl n : Key) ∈ kvs.map (·.1) := by
        rw [hk]
        exact List.mem_map_of_mem (hperm.mem_iff.mp h1)
      obtain ⟨⟨k0, v0⟩, hkv, e⟩ := List.mem_map.mp hm
      have e' : k0 = Sum.inl n := e
      subst e'
      have hs : (valV kvs (Sum.inl n)).isSome = true := by
        rw [← valV_any]
        exact List.any_eq_true.mpr ⟨_, hkv, decide_eq_true rfl⟩
      obtain ⟨v, hv⟩ := Option.isSome_iff_exists.mp hs
      obtain ⟨u, hu⟩ := Option.isSome_iff_exists.mp h2
      exact ⟨⟨v, hv, va _ _ hv⟩, u, hu, vb _ _ hu⟩
    have hzl : (ys.filter fun n => (valV ls (Sum.inl n)).isSome).length ≤ 1000 := by
      have := List.length_filter_le (fun n => (valV ls (Sum.inl n)).isSome) ys
      omega
    generalize (ys.filter fun n => (valV ls (Sum.inl n)).isSome) = zs' at hin hD3 hzl
    have S5 := S1.trans S4
    refine ⟨_, rfl, D, rfl, ⟨_, .inl (.inl hD3)⟩, fun D2 hD2 => ?_⟩
    refine lcg (K := K) (walk_list (K := K) (a := D) (xs := zs'.map V.int)) (zs'.map fun n => if (decide (valV kvs (Sum.inl n) ≠ valV ls (Sum.inl n))) = true then some (.tuple [.int n, vD ((valV kvs (Sum.inl n)).getD .non), vD ((valV ls (Sum.inl n)).getD .non)]) else none) (by rw [List.length_map, List.length_map]) (by rw [List.length_map]; omega) hD2 (fun d h => ?_) (fun _ S => .inl (.inl (S _ _ hD3))) (fun i x H6 H6' d hi S y => ?_) (fun H6 acc S6 hD6 hP => ?_)
    · obtain ⟨n, _, e⟩ := List.mem_map.mp h
      by_cases c : (decide (valV kvs (Sum.inl n) ≠ valV ls (Sum.inl n))) = true
      · rw [if_pos c] at e
        rw [← Option.some.inj e]
        have k1 : ∀ v : V, noL (vD v) = true := fun v => by cases v <;> rfl
        show (true && (noL (vD _) && (noL (vD _) && true))) = true
        rw [k1, k1]
        rfl
      · rw [if_neg c] at e
        cases e
    · obtain ⟨rfl, hx⟩ := y
      rw [List.getElem?_map] at hi hx
      cases hn : zs'[i]? with
      | none => rw [hn] at hx; cases hx
      | some n =>
        obtain ⟨⟨v, hv, sv⟩, u, hu, su⟩ := hin n (List.mem_of_getElem? hn)
        rw [hn] at hx hi
        have e := Option.some.inj hx
        subst e
        have e := Option.some.inj hi
        subst e
        have ga : ∀ H7, Same H6' H7 → DGet H7 a (.int n) (some v) := fun H7 S7 => by
          rw [← hv]
          exact DGet.k (k := Sum.inl n) (S7 _ _ (S _ _ (S5 _ _ ha)))
        have gb : ∀ H7, Same H6' H7 → DGet H7 b (.int n) (some u) := fun H7 S7 => by
          rw [← hu]
          exact DGet.k (k := Sum.inl n) (S7 _ _ (S _ _ (S5 _ _ hb)))
        refine ⟨Same.refl _, fun Qn Qy hn hy => ⟨rfl, _, rfl, _, rfl, a, v, rfl, ga _ (Same.refl _), _, rfl, _, rfl, b, u, rfl, gb _ (Same.refl _), sv.scal su, ?_⟩⟩
        by_cases c : v = u
        · rw [decide_eq_true c]
          refine ⟨_, rfl, iteF (hn ?_ _ (Same.refl _))⟩
          show (if decide (valV kvs (Sum.inl n) ≠ valV ls (Sum.inl n)) = true then _ else none) = none
          rw [hv, hu, c]
          exact if_neg (by simp)
        · rw [decide_eq_false c]
          refine ⟨_, rfl, iteT ⟨_, rfl, _, rfl, _, rfl, a, v, rfl, ga _ (Same.refl _), _, rfl, _, rfl, b, u, rfl, gb _ (Same.refl _), (by show 3 ≤ sizeLine; decide), fun t ht => hy (.tuple [.int n, vD v, vD u]) ?_ _ _ (same_new ht) ?_⟩⟩
          · show (if decide (valV kvs (Sum.inl n) ≠ valV ls (Sum.inl n)) = true then _ else none) = _
            rw [hv, hu]
            rw [if_pos (by simpa using c)]
            rfl
          · exact .tup (SqT.of upd_same) (.cons (.int n) (.cons sv.dp (.cons su.dp .nil)))
    · exact q _ _ (S5.trans S6)
end
end Bt

namespace Bt
open PySem PySem.Spec PyProof.Rows L2
/-! ### the own errors that carry a thing -/
def spOwnX (K : PySem.W.Frag) (f : Str) : Sp := fun vs H Q _ => ∃ a C v, vs = [.ref a, v] ∧ OexC K C ∧ PySem.W.findIn K (.ref C) f = some none ∧ H a = some (exo a C none) ∧
  ∀ dx, H dx = none → dx ≠ a → Q .non (upd (upd H dx (exd dx [(f, v)])) a (exo a C (some dx)))
section
variable {P : Program} {w : World} {K : PySem.W.Frag} {mg : Str → Option Value} {base : Heap}
theorem ok_NoBeadU_initU (T : Txt K mg) : FO P w K mg base (L2.CX P w) 1 (a_NoBeadU_initU K) ["self", "thing"] (spOwnX K "thing") := by
  refine T.d_NoBeadU_initU.ok sc_NoBeadU_initU (fun vs H Q E h => ?_) (fun cdv A outer s H vs Q E hr h => ?_)
  · obtain ⟨a, C, v, rfl, _⟩ := h
    rfl
  · obtain ⟨a, C, v, rfl, ho, hf, ha, q⟩ := h
    refine ⟨_, (pss_cons (ps_expr (pe_beinit rfl T.g_BeadError (by decide) (by decide) T.be1 T.be2 T.be3 (pa_cons (pv 0) (pa_cons pe_str pa_nil)))) (pss_one (ps_ost (pv 0) (pv 1)))), ?_⟩
    exact ⟨_, rfl, a, C, _, rfl, (by show 1 ≤ 1000; decide), ho, ha, _, rfl, _, rfl, a, C, rfl, ho, hf, .inl ⟨ha, q⟩⟩
theorem ok_FullU_initU (T : Txt K mg) : FO P w K mg base (L2.CX P w) 1 (a_FullU_initU K) ["self", "most"] (spOwnX K "most") := by
  refine T.d_FullU_initU.ok sc_FullU_initU (fun vs H Q E h => ?_) (fun cdv A outer s H vs Q E hr h => ?_)
  · obtain ⟨a, C, v, rfl, _⟩ := h
    rfl
  · obtain ⟨a, C, v, rfl, ho, hf, ha, q⟩ := h
    refine ⟨_, (pss_cons (ps_expr (pe_beinit rfl T.g_BeadError (by decide) (by decide) T.be1 T.be2 T.be3 (pa_cons (pv 0) (pa_cons pe_str pa_nil)))) (pss_one (ps_ost (pv 0) (pv 1)))), ?_⟩
    exact ⟨_, rfl, a, C, _, rfl, (by show 1 ≤ 1000; decide), ho, ha, _, rfl, _, rfl, a, C, rfl, ho, hf, .inl ⟨ha, q⟩⟩
end
/-- what is left of the error behind the raise: its dict -/
theorem ownX_go {K : PySem.W.Frag} {C : Addr} {f : Str} {v : V} {H : Hp} {Q : XK} {E : XK} (ho : OexC K C) (hf : PySem.W.findIn K (.ref C) f = some none)
    (q : ∀ d H', H d = none → Same H H' → H' d = some (.xd [(f, v)]) → Q (.ref C) (some d) H') :
    ([v] : List V).length ≤ 1000 ∧ ∀ a, H a = none → spOwnX K f (.ref a :: ([v] ++ [])) (upd H a (exo a C none))
      (fun u H2 => u = .non ∧ ∃ (d : Addr) (fs : List (Str × V)), H2 a = some (exo a C (some d)) ∧ H2 d = some (exd d fs) ∧ H d = none ∧ Q (.ref C) (some d) (upd (del H2 a) d (.xd fs))) E := by
  refine ⟨(by show 1 ≤ 1000; decide), fun a ha => ⟨a, C, v, rfl, ho, hf, upd_same, fun dx hx ne => ⟨rfl, dx, [(f, v)], upd_same, ?_, ?_, ?_⟩⟩⟩
  · rw [upd_ne ne, upd_same]
  · rw [upd_ne ne] at hx
    exact hx
  · rw [upd_ne ne] at hx
    refine q dx _ hx (fun b u e => ?_) upd_same
    have nb : b ≠ dx := ne_of_none e hx
    have na : b ≠ a := ne_of_none e ha
    rw [upd_ne nb, del_ne na, upd_ne na, upd_ne nb, upd_ne na]
    exact e
/-! ### a ring -/
structure RS where
  o : List Nat
  he : Nat → Option (Str × Nat)
  c : Nat
  room : Nat
  hist : Nat
  r : Row
structure RgW (R : RS) : Prop where
  row : R.o.map R.he = R.r.map some
  nd : R.o.Nodup
  good : Good R.r
  lt : ∀ n b, R.he n = some b → n < R.c
  mem : ∀ n b, R.he n = some b → n ∈ R.o
  cz : R.c ≤ 1000
  rz : R.room ≤ 1000
  hz : R.hist ≤ 1000
theorem RgW.len {R : RS} (W : RgW R) : R.o.length = R.r.length := by
  have := congrArg List.length W.row
  rw [List.length_map, List.length_map] at this
  exact this
theorem RgW.at {R : RS} (W : RgW R) {i n : Nat} (h : R.o[i]? = some n) : ∃ b, R.r[i]? = some b ∧ R.he n = some b := by
  have e : (R.o.map R.he)[i]? = (R.r.map some)[i]? := by rw [W.row]
  rw [List.getElem?_map, List.getElem?_map, h] at e
  cases hb : R.r[i]? with
  | none => rw [hb] at e; cases e
  | some b =>
    rw [hb] at e
    exact ⟨b, rfl, Option.some.inj e⟩
/-- the dict of the beads -/
structure HeldR (K : PySem.W.Frag) (H : Hp) (kvs : List (Key × V)) (he : Nat → Option (Str × Nat)) : Prop where
  len : kvs.length ≤ 1000
  non : ∀ n, he n = none → valV kvs (Sum.inl ((n : Nat) : Int)) = none
  som : ∀ n b, he n = some b → ∃ v, valV kvs (Sum.inl ((n : Nat) : Int)) = some v ∧ Dp K H v (beadD b)
theorem HeldR.mono {K : PySem.W.Frag} {H H' : Hp} {kvs : List (Key × V)} {he : Nat → Option (Str × Nat)} (h : HeldR K H kvs he) (S : Same H H') : HeldR K H' kvs he :=
  ⟨h.len, h.non, fun n b e => by obtain ⟨v, e1, e2⟩ := h.som n b e; exact ⟨v, e1, e2.mono S⟩⟩
/-- the fields of a ring -/
def rfs (lo hd hh : Addr) (c room : Nat) : List (Str × V) := [("order", .ref lo), ("held", .ref hd), ("coming", .int (c : Nat)), ("history", .ref hh), ("room", .int (room : Nat))]
structure RgA (K : PySem.W.Frag) (H : Hp) (g C : Addr) (R : RS) (dx lo hd hh : Addr) (kvs : List (Key × V)) (hs : List V) : Prop where
  ins : H g = some (.ins C dx (rfs lo hd hh R.c R.room))
  ord : H lo = some (.lst ((zs R.o).map V.int))
  hel : H hd = some (.dK kvs)
  hR : HeldR K H kvs R.he
  his : H hh = some (.lst hs)
  hsl : hs.length = R.hist
def Rg (K : PySem.W.Frag) (H : Hp) (g C : Addr) (R : RS) : Prop := ∃ dx lo hd hh kvs hs, RgA K H g C R dx lo hd hh kvs hs
theorem RgA.mono {K : PySem.W.Frag} {H H' : Hp} {g C : Addr} {R : RS} {dx lo hd hh : Addr} {kvs : List (Key × V)} {hs : List V} (h : RgA K H g C R dx lo hd hh kvs hs) (S : Same H H') : RgA K H' g C R dx lo hd hh kvs hs :=
  ⟨S _ _ h.ins, S _ _ h.ord, S _ _ h.hel, h.hR.mono S, S _ _ h.his, h.hsl⟩
theorem Rg.mono {K : PySem.W.Frag} {H H' : Hp} {g C : Addr} {R : RS} (h : Rg K H g C R) (S : Same H H') : Rg K H' g C R := by
  obtain ⟨dx, lo, hd, hh, kvs, hs, a⟩ := h
  exact ⟨dx, lo, hd, hh, kvs, hs, a.mono S⟩
/-- the bead that a thing numbers -/
def isB (R : RS) : PyData → Option Nat
  | .int i => if 0 ≤ i ∧ (R.he i.toNat).isSome = true then some i.toNat else none
  | _ => none
theorem isB_int {R : RS} {d : PyData} {n : Nat} (h : isB R d = some n) : d = .int (n : Nat) ∧ (R.he n).isSome = true := by
  cases d with
  | int i =>
    have h' : (if 0 ≤ i ∧ (R.he i.toNat).isSome = true then some i.toNat else none) = some n := h
    by_cases c : 0 ≤ i ∧ (R.he i.toNat).isSome = true
    · rw [if_pos c] at h'
      have e := Option.some.inj h'
      subst e
      refine ⟨?_, c.2⟩
      have : ((i.toNat : Nat) : Int) = i := Int.toNat_of_nonneg c.1
      rw [this]
    · rw [if_neg c] at h'
      cases h'
  | _ => cases h
theorem idx_of {n : Nat} : ∀ {o : List Nat}, n ∈ o → ∃ j, o[j]? = some n ∧ (∀ m, m < j → o[m]? ≠ some n) ∧ o.idxOf n = j
  | [], h => by cases h
  | x :: o, h => by
    by_cases c : x = n
    · exact ⟨0, by rw [c]; rfl, fun m hm => by omega, by rw [c]; simp⟩
    · have h' : n ∈ o := by
        rcases List.mem_cons.mp h with e | e
        · exact absurd e.symm c
        · exact e
      obtain ⟨j, e1, e2, e3⟩ := idx_of h'
      refine ⟨j + 1, by simpa using e1, fun m hm => ?_, ?_⟩
      · cases m with
        | zero => simpa using c
        | succ m => simpa using e2 m (by omega)
      · rw [List.idxOf_cons, beq_eq_false_iff_ne.mpr c, e3]
        rfl
def NBx (K : PySem.W.Frag) (v : V) (H : Hp) (E : XK) : Prop := ∀ x H', H x = none → Same H H' → H' x = some (.xd [("thing", v)]) → E (.ref (He.ga K "NoBead")) (some x) H'
def spChain (K : PySem.W.Frag) : Sp := fun vs H Q _ => ∃ g C R, vs = [.ref g] ∧ IsRing K C ∧ Rg K H g C R ∧ RgW R ∧ ∀ v H', Same H H' → Dp K H' v (.tuple (rowD R.r)) → Q v H'
def spPlace (K : PySem.W.Frag) : Sp := fun vs H Q E => ∃ g C R v d, vs = [.ref g, v] ∧ IsRing K C ∧ Rg K H g C R ∧ RgW R ∧ TD K H v d ∧ (∀ n, isB R d = some n → ∀ H', Same H H' → Q (.int (R.o.idxOf n : Nat)) H') ∧ (isB R d = none → NBx K v H E)
/-- the dict that kin answers with -/
def parV (R : RS) : Option Nat → V
  | none => .non
  | some p => .int ((R.o.getD p 0 : Nat) : Int)
def kinK (R : RS) (k : Nat) : List (Key × V) := ((R.o.zip (parL R.r)).take k).map fun p => (Sum.inl ((p.1 : Nat) : Int), parV R p.2)
def spKin (K : PySem.W.Frag) : Sp := fun vs H Q _ => ∃ g C R, vs = [.ref g] ∧ IsRing K C ∧ Rg K H g C R ∧ RgW R ∧ ∀ a H', H a = none → Same H H' → H' a = some (.dK (kinK R R.r.length)) → Q (.ref a) H'
theorem chain_at {R : RS} (W : RgW R) {i : Nat} {x : V} {d : PyData} (hx : ((zs R.o).map V.int)[i]? = some x) (hi : (rowD R.r)[i]? = some d) : ∃ n b, R.o[i]? = some n ∧ R.he n = some b ∧ R.r[i]? = some b ∧ x = .int ((n : Nat) : Int) ∧ d = beadD b := by
  rw [List.getElem?_map] at hx
  cases hn : R.o[i]? with
  | none =>
    unfold zs at hx
    rw [List.getElem?_map, hn] at hx
    cases hx
  | some n =>
    rw [zs_get hn] at hx
    obtain ⟨b, h1, h2⟩ := W.at hn
    rw [rowD_get h1] at hi
    exact ⟨n, b, rfl, h2, h1, (Option.some.inj hx).symm, (Option.some.inj hi).symm⟩
theorem setAll_get (p : Nat) : ∀ (cs : List Nat) (acc : List (Option Nat)) (i q : Nat), (setAll p acc cs)[i]? = some (some q) → (q = p ∧ i ∈ cs) ∨ acc[i]? = some (some q)
  | [], _, _, _, h => .inr h
  | c :: cs, acc, i, q, h => by
    rcases setAll_get p cs (acc.set c (some p)) i q h with h | h
    · exact .inl ⟨h.1, List.mem_cons_of_mem _ h.2⟩
    · rw [List.getElem?_set] at h
      by_cases e : c = i
      · rw [if_pos e] at h
        by_cases l : c < acc.length
        · rw [if_pos l] at h
          have := Option.some.inj (Option.some.inj h)
          exact .inl ⟨this.symm, by rw [← e]; exact List.mem_cons_self ..⟩
        · rw [if_neg l] at h
          cases h
      · rw [if_neg e] at h
        exact .inr h
theorem parA_get (r : Row) : ∀ (k i q : Nat), (parA r k)[i]? = some (some q) → q < k ∧ i ∈ kidsL r q
  | 0, i, q, h => by
    have h' : (List.replicate r.length (none : Option Nat))[i]? = some (some q) := h
    rw [List.getElem?_replicate] at h'
    by_cases c : i < r.length
    · rw [if_pos c] at h'
      cases h'
    · rw [if_neg c] at h'
      cases h'
  | k + 1, i, q, h => by
    rw [parA_succ] at h
    rcases setAll_get k _ _ i q h with h | h
    · exact ⟨by omega, by rw [h.1]; exact h.2⟩
    · have := parA_get r k i q h
      exact ⟨by omega, this.2⟩
theorem parA_lt (r : Row) (k i q : Nat) (h : (parA r k)[i]? = some (some q)) : q < k := (parA_get r k i q h).1
theorem kinK_put {R : RS} (W : RgW R) {k n : Nat} {p : Option Nat} (e1 : R.o[k]? = some n) (e2 : (parL R.r)[k]? = some p) : putK (kinK R k) (Sum.inl ((n : Nat) : Int)) (parV R p) = kinK R (k + 1) := by
  have hz : (R.o.zip (parL R.r))[k]? = some (n, p) := by rw [List.getElem?_zip_eq_some]; exact ⟨e1, e2⟩
  have hn : valV (kinK R k) (Sum.inl ((n : Nat) : Int)) = none := by
    have h : ((kinK R k).any fun kv => decide (kv.1 = Sum.inl ((n : Nat) : Int))) = false := by
      rw [List.any_eq_false]
      intro kv hkv hd
      have hd' := of_decide_eq_true hd
      unfold kinK at hkv
      obtain ⟨q, hq, rfl⟩ := List.mem_map.mp hkv
      obtain ⟨i, hi⟩ := List.mem_iff_getElem?.mp hq
      rw [List.getElem?_take] at hi
      by_cases c : i < k
      · rw [if_pos c, List.getElem?_zip_eq_some] at hi
        have e : (Sum.inl ((q.1 : Nat) : Int) : Key) = Sum.inl ((n : Nat) : Int) := hd'
        have e3 : q.1 = n := by
          injection e with e
          omega
        have e4 := hi.1
        rw [e3] at e4
        have l1 := (List.getElem?_eq_some_iff.mp e4).1
        have := (List.getElem?_inj (j := k) l1 W.nd).mp (e4.trans e1.symm)
        omega
      · rw [if_neg c] at hi
        cases hi
    rw [valV_any] at h
    cases e : valV (kinK R k) (Sum.inl ((n : Nat) : Int)) with
    | none => rfl
    | some v => rw [e] at h; cases h
  rw [putK_new _ hn]
  unfold kinK
  rw [List.take_succ, hz, List.map_append]
  rfl
section
variable {P : Program} {w : World} {K : PySem.W.Frag} {mg : Str → Option Value} {base : Heap}
theorem ok_Ring_chain (T : Txt K mg) : FO P w K mg base (L2.CX P w) 1 (a_Ring_chain K) ["self"] (spChain K) := by
  refine T.d_Ring_chain.ok sc_Ring_chain (fun vs H Q E h => ?_) (fun cdv A outer s H vs Q E hr h => ?_)
  · obtain ⟨g, C, R, rfl, _⟩ := h
    rfl
  · obtain ⟨g, C, R, rfl, hC, ⟨dx, lo, hd, hh, kvs, hs, hR⟩, W, q⟩ := h
    refine ⟨_, (pss_one (ps_ret (pe_callTy (T := "tuple") call_tuple_of (by rfl) T.f_tuple (by decide +kernel) (pa_cons (pe_lc (own := [("number", 1)]) (g := gName 1) rfl sc_Ring_chain.nd (pi_list (pe_fld (pv 0) rfl)) (blkOk_by (own := [("number", 1)]) (N := ["self", "number"]) (sc := defScope s_Ring_chain) (by decide +kernel)) (fun _ _ _ _ _ => pg_name (i := 1) sc_Ring_chain.nd rfl (Or.inl rfl)) (fun _ _ _ _ _ => pts_nil) (fun _ _ _ _ _ => (pe_dget (hu_of hr) (pe_fldK (K := K) (pv 0) rfl) (pv 1) (fun _ _ => rfl)))) pa_nil)))), ?_⟩
    refine ⟨_, rfl, g, C, dx, _, _, rfl, hR.ins, T.cls hC, T.n_order hC, rfl, lo, rfl, ⟨_, .inl (.inl hR.ord)⟩, fun D hD => ?_⟩
    have hl := W.len
    have h100 := W.good.le
    refine lcm (K := K) (walk_list (K := K) (a := lo) (xs := (zs R.o).map V.int)) (rowD R.r) (by unfold zs; rw [rowD_len, List.length_map, List.length_map, hl]) (by unfold zs; rw [List.length_map, List.length_map]; omega) hD (fun d h => noLAll_iff.mp (noL_row R.r) d h) (fun _ S => .inl (.inl (S _ _ hR.ord))) (fun i x H3 H3' d hi S y => ?_) gname_mono (fun H3 acc S4 hD3 hP => ?_)
    · obtain ⟨rfl, hx⟩ := y
      obtain ⟨n, b, hn, hb, hr0, rfl, rfl⟩ := chain_at W hx hi
      obtain ⟨v, hv, hdv⟩ := hR.hR.som n b hb
      refine ⟨Same.refl _, fun Qy hy => ⟨rfl, _, rfl, g, C, dx, _, _, rfl, S _ _ hR.ins, T.cls hC, T.n_held hC, rfl, _, rfl, hd, v, rfl, ?_, hy _ _ (Same.refl _) (hdv.mono S)⟩⟩
      rw [← hv]
      exact DGet.k (k := Sum.inl ((n : Nat) : Int)) (S _ _ hR.hel)
    · refine ⟨D, acc, rfl, .inl ⟨.inl (.inl hD3), fun l hl => q _ _ (S4.trans (same_new hl)) (.tup (SqT.of upd_same) (hP.mono (same_new hl)))⟩⟩
theorem ok_Ring_place (T : Txt K mg) : FO P w K mg base (L2.CX P w) 3 (a_Ring_place K) ["self", "number"] (spPlace K) := by
  refine T.d_Ring_place.ok sc_Ring_place (fun vs H Q E h => ?_) (fun cdv A outer s H vs Q E hr h => ?_)
  · obtain ⟨g, C, R, v, d, rfl, _⟩ := h
    rfl
  · obtain ⟨g, C, R, v, d, rfl, hC, hR0, W, hv, q1, q2⟩ := h
    obtain ⟨dx, lo, hd, hh, kvs, hs, hR⟩ := hR0
    have G_NoBeadU_initU := ok_NoBeadU_initU (P := P) (w := w) (base := base) T
    have G_is_count := ok_is_count (P := P) (w := w) (base := base) T
    refine ⟨_, (pss_cons (ps_if (PW.pt (pw_or (pt_not (pt_val (pe_call G_is_count (hr.mono (by decide)) rfl T.g_is_count T.d_is_count.kp T.b_is_count .nil passE (pa_cons (pv 1) (pa_cons pe_int (pa_cons (pe_fld (pv 0) rfl) pa_nil)))))) (pw_or1 (pt_cmp (pc_dnotin (hu_of hr) (pv 1) (pe_fld (pv 0) rfl)))))) (pss_one (ps_raise rfl (takes_of rfl rfl rfl rfl) (pmk_oex T.ox_NoBead T.oi_NoBead T.ot_NoBead G_NoBeadU_initU (hr.mono (by decide)) T.b_NoBeadU_initU .nil passL rfl T.g_NoBead (pa_cons (pv 1) pa_nil)))) pss_nil) (pss_one (ps_ret (pe_bm PySem.F.plainAttrs_list PySem.F.slot_list_index PySem.F.type_list_index mt_index (pe_fld (pv 0) rfl) (pa_cons (pv 1) pa_nil))))), ?_⟩
    have nbx : isB R d = none → ∀ d' H', H d' = none → Same H H' → H' d' = some (.xd [("thing", v)]) → E (.ref (He.ga K "NoBead")) (some d') H' := fun h => q2 h
    refine ⟨_, rfl, _, rfl, g, C, dx, _, _, rfl, hR.ins, T.cls hC, T.n_coming hC, rfl, v, d, 0, (R.c : Nat), rfl, hv, _, rfl, ?_⟩
    cases hcnt : dCount d 0 (R.c : Nat) with
    | false =>
      refine iteT (iteT ⟨_, rfl, ownX_go T.ox_NoBead T.fth (nbx ?_)⟩)
      cases h : isB R d with
      | none => rfl
      | some n =>
        obtain ⟨rfl, hs⟩ := isB_int h
        obtain ⟨b, hb⟩ := Option.isSome_iff_exists.mp hs
        have := W.lt n b hb
        have e : dCount (.int (n : Nat)) 0 (R.c : Nat) = (decide ((0 : Int) ≤ (n : Nat)) && decide (((n : Nat) : Int) ≤ (R.c : Nat))) := rfl
        rw [e, decide_eq_true (by omega), decide_eq_true (by omega)] at hcnt
        cases hcnt
    | true =>
      refine iteF ?_
      obtain ⟨n, rfl⟩ : ∃ n : Nat, d = .int (n : Nat) := by
        cases d with
        | int i =>
          have e : dCount (.int i) 0 (R.c : Nat) = (decide ((0 : Int) ≤ i) && decide (i ≤ (R.c : Nat))) := rfl
          rw [e, Bool.and_eq_true] at hcnt
          exact ⟨i.toNat, by rw [Int.toNat_of_nonneg (of_decide_eq_true hcnt.1)]⟩
        | _ => cases hcnt
      have ev : v = .int ((n : Nat) : Int) := by
        rcases hv with hv | ⟨_, _, _, e⟩
        · exact hv.intI
        · cases e
      subst ev
      refine ⟨_, rfl, _, rfl, g, C, dx, _, _, rfl, hR.ins, T.cls hC, T.n_held hC, rfl, hd, valV kvs (Sum.inl ((n : Nat) : Int)), rfl, DGet.k (k := Sum.inl ((n : Nat) : Int)) hR.hel, _, rfl, ?_⟩
      have eB : isB R (.int (n : Nat)) = if (R.he n).isSome = true then some n else none := by
        show (if (0 : Int) ≤ (n : Nat) ∧ (R.he ((n : Nat) : Int).toNat).isSome = true then some ((n : Nat) : Int).toNat else none) = _
        have e1 : ((n : Nat) : Int).toNat = n := rfl
        rw [e1]
        by_cases c : (R.he n).isSome = true
        · rw [if_pos ⟨by omega, c⟩, if_pos c]
        · rw [if_neg (fun z => c z.2), if_neg c]
      cases hn : R.he n with
      | none =>
        rw [hR.hR.non n hn]
        refine iteT ⟨_, rfl, ownX_go T.ox_NoBead T.fth (nbx ?_)⟩
        rw [eB, hn]
        rfl
      | some b =>
        obtain ⟨u, hu, _⟩ := hR.hR.som n b hn
        rw [hu]
        refine iteF ?_
        obtain ⟨j, hj, hjn, hjm⟩ := idx_of (W.mem n b hn)
        have q3 := q1 n (by rw [eB, hn]; rfl) H (Same.refl _)
        rw [hjm] at q3
        refine ⟨_, rfl, g, C, dx, _, _, rfl, hR.ins, T.cls hC, T.n_order hC, rfl, .inl ⟨rfl, _, .inl (.inl hR.ord)⟩, _, rfl, lo, _, .int ((n : Nat) : Int), j, .int ((n : Nat) : Int), rfl, rfl, .inl (.inl hR.ord), rfl, flat_ints _, ?_, by simp [eqV], fun m z hm hz => ?_, q3⟩
        · rw [List.getElem?_map, zs_get hj]
          rfl
        · rw [List.getElem?_map] at hz
          cases e : R.o[m]? with
          | none =>
            unfold zs at hz
            rw [List.getElem?_map, e] at hz
            cases hz
          | some y =>
            rw [zs_get e] at hz
            have e2 := Option.some.inj hz
            subst e2
            show (((y : Nat) : Int) == ((n : Nat) : Int)) = false
            have : y ≠ n := fun z => hjn m hm (by rw [e, z])
            exact beq_eq_false_iff_ne.mpr fun z => this (by omega)
theorem ok_Ring_kin (T : Txt K mg) : FO P w K mg base (L2.CX P w) 6 (a_Ring_kin K) ["self"] (spKin K) := by
  refine T.d_Ring_kin.ok sc_Ring_kin (fun vs H Q E h => ?_) (fun cdv A outer s H vs Q E hr h => ?_)
  · obtain ⟨g, C, R, rfl, _⟩ := h
    rfl
  · obtain ⟨g, C, R, rfl, hC, ⟨dx, lo, hd, hh, kvs, hs, hR⟩, W, q⟩ := h
    have G_Ring_chain := ok_Ring_chain (P := P) (w := w) (base := base) T
    have G_parents := ok_parents (P := P) (w := w) (base := base) T
    refine ⟨_, (pss_cons (ps_set (i := 1) sc_Ring_kin.nd rfl (Or.inl rfl) pe_dnewK) (pss_cons (ps_for (passes_of rfl) rfl (pi_zip (by rfl) T.f_zip (pa_cons (pe_fld (pv 0) rfl) (pa_cons (pe_call G_parents (hr.mono (by decide)) rfl T.g_parents T.d_parents.kp T.b_parents .nil passE (pa_cons (pe_meth0 (pv 0) (T.cls hC) (T.mt_chain hC) G_Ring_chain (hr.mono (by decide)) T.b_Ring_chain .nil passE) pa_nil)) pa_nil))) (pg_tup rfl (pgs_cons (pg_name (i := 2) sc_Ring_kin.nd rfl (Or.inl rfl)) (pgs_cons (pg_name (i := 3) sc_Ring_kin.nd rfl (Or.inl rfl)) pgs_nil))) (pss_one (ps_dput (hu_of hr) (pv 1) (pv 2) (pe_ifExp (pt_cmpR op_isN (pv 3) pe_non (nomark _)) pe_non (pe_ix ix_list (pe_fld (pv 0) rfl) (pv 3) (fun _ _ => rfl))) rfl))) (pss_one (ps_ret (pv 1))))), ?_⟩
    have hl := W.len
    have h100 := W.good.le
    refine fun f hf => ?_
    have S0 : Same H (upd H f (.dK [])) := same_new hf
    have hF0 : (upd H f (.dK [])) f = some (.dK []) := upd_same
    generalize upd H f (.dK []) = H0 at S0 hF0
    have hR1 := hR.mono S0
    refine ⟨_, rfl, g, C, dx, _, _, rfl, hR1.ins, T.cls hC, T.n_order hC, rfl, ?_⟩
    refine ⟨_, rfl, g, dx, _, rfl, hR1.ins, rfl, g, C, R, rfl, hC, ⟨dx, lo, hd, hh, kvs, hs, hR1⟩, W, fun v H1 S1 hv => ?_⟩
    refine ⟨v, R.r, rfl, hv, W.good, fun b H2 hb S2 hB => ?_⟩
    have hR2 := hR1.mono (S1.trans S2)
    have hpl : (parL R.r).length = R.r.length := parA_len R.r R.r.length
    have hF2 := S2 _ _ (S1 _ _ hF0)
    have S02 := S0.trans (S1.trans S2)
    have nbf : b ≠ f := fun e => by
      rw [e] at hb
      rw [S1 _ _ hF0] at hb
      cases hb
    refine ⟨lo, b, _, _, rfl, .inl (.inl hR2.ord), hB, ?_⟩
    refine for_it (walk_zip (K := K) (a := lo) (b := b) (xs := (zs R.o).map V.int) (ys := (parL R.r).map optV) (n := R.r.length) (by unfold zs; rw [List.length_map, List.length_map, List.length_map, hl, hpl, Nat.min_self])) (fun k σ H' => ∃ x y, σ = [some (.ref g), some (.ref f), x, y] ∧ Same H H' ∧ H' f = some (.dK (kinK R k)) ∧ SqL K H' b ((parL R.r).map optV)) ⟨none, none, rfl, S02, hF2, hB⟩ (fun i σ H' _ ⟨_, _, _, S, _, z⟩ => ⟨.inl (.inl (S _ _ hR.ord)), z⟩) ?_ ?_
    · rintro k x σ H3 H4 hk ⟨x0, y0, rfl, S, hF, hB3⟩ ⟨t, u1, u2, rfl, ht, rfl, hu1, hu2⟩
      have hk1 : k < R.o.length := by omega
      have hk2 : k < (parL R.r).length := by omega
      have e1 : R.o[k]? = some R.o[k] := List.getElem?_eq_getElem hk1
      have e2 : (parL R.r)[k]? = some (parL R.r)[k] := List.getElem?_eq_getElem hk2
      have hu1' : ((zs R.o).map V.int)[k]? = some u1 := hu1
      have hu2' : ((parL R.r).map optV)[k]? = some u2 := hu2
      rw [List.getElem?_map, zs_get e1] at hu1'
      rw [List.getElem?_map, e2] at hu2'
      have z1 := Option.some.inj hu1'
      have z2 := Option.some.inj hu2'
      subst z1
      subst z2
      have S3 : Same H (upd H3 t (.tup [V.int ((R.o[k] : Nat) : Int), optV (parL R.r)[k]])) := S.trans (same_new ht)
      have hF3 : (upd H3 t (.tup [V.int ((R.o[k] : Nat) : Int), optV (parL R.r)[k]])) f = some (.dK (kinK R k)) := by rw [upd_ne (ne_of_none hF ht)]; exact hF
      have hB4 : SqL K (upd H3 t (.tup [V.int ((R.o[k] : Nat) : Int), optV (parL R.r)[k]])) b ((parL R.r).map optV) := same_l (same_new ht) hB3
      have hT : SqT K (upd H3 t (.tup [V.int ((R.o[k] : Nat) : Int), optV (parL R.r)[k]])) t [V.int ((R.o[k] : Nat) : Int), optV (parL R.r)[k]] := SqT.of upd_same
      generalize upd H3 t (.tup [V.int ((R.o[k] : Nat) : Int), optV (parL R.r)[k]]) = H4 at S3 hF3 hB4 hT
      have hput : ∀ H5, Same H4 H5 → ∃ x y, [some (.ref g), some (.ref f), some (.int ((R.o[k] : Nat) : Int)), some (optV (parL R.r)[k])] = [some (.ref g), some (.ref f), x, y] ∧ Same H (upd H5 f (.dK (putK (kinK R k) (Sum.inl ((R.o[k] : Nat) : Int)) (parV R (parL R.r)[k])))) ∧ (upd H5 f (.dK (putK (kinK R k) (Sum.inl ((R.o[k] : Nat) : Int)) (parV R (parL R.r)[k])))) f = some (.dK (kinK R (k + 1))) ∧ SqL K (upd H5 f (.dK (putK (kinK R k) (Sum.inl ((R.o[k] : Nat) : Int)) (parV R (parL R.r)[k])))) b ((parL R.r).map optV) := fun H5 S5 => by
        refine ⟨_, _, rfl, same_upd (S3.trans S5) hf, ?_, ?_⟩
        · rw [upd_same, kinK_put W e1 e2]
        · have k1 : ∀ c u, c ≠ f → H5 c = some u → upd H5 f (.dK (putK (kinK R k) (Sum.inl ((R.o[k] : Nat) : Int)) (parV R (parL R.r)[k]))) c = some u := fun c u hc e => by rw [upd_ne hc]; exact e
          rcases same_l S5 hB4 with (h | ⟨o, h⟩) | h
          · exact .inl (.inl (k1 _ _ nbf h))
          · exact .inl (.inr ⟨o, k1 _ _ nbf h⟩)
          · exact .inr h
      have hlen : (kinK R k).length < sizeLine := by
        unfold kinK
        rw [List.length_map, List.length_take]
        exact lt_line (by omega)
      refine ⟨t, _, rfl, hT, rfl, _, _, rfl, _, _, rfl, rfl, ?_⟩
      cases hp : (parL R.r)[k] with
      | none =>
        rw [hp] at hput
        refine ⟨_, rfl, rfl, _, rfl, iteT ?_⟩
        exact ⟨_, rfl, _, rfl, f, _, rfl, DPut.k (k := Sum.inl ((R.o[k] : Nat) : Int)) hF3 hlen, hput H4 (Same.refl _)⟩
      | some p =>
        rw [hp] at hput
        rw [hp] at e2
        have hpk := parA_lt R.r R.r.length k p e2
        have hpo : R.o[p]? = some (R.o.getD p 0) := by
          rw [List.getD_eq_getElem?_getD, List.getElem?_eq_getElem (by omega)]
          rfl
        refine ⟨_, rfl, rfl, _, rfl, iteF ?_⟩
        have hR4 := hR.mono S3
        refine ⟨_, rfl, g, C, dx, _, _, rfl, hR4.ins, T.cls hC, T.n_order hC, rfl, _, rfl, lo, _, _, .int ((R.o.getD p 0 : Nat) : Int), rfl, rfl, .inl (.inl hR4.ord), atI_nat (by rw [List.getElem?_map, zs_get hpo]; rfl), ?_⟩
        exact ⟨_, rfl, _, rfl, f, _, rfl, DPut.k (k := Sum.inl ((R.o[k] : Nat) : Int)) hF3 hlen, hput H4 (Same.refl _)⟩
    · rintro σ H3 ⟨x, y, rfl, S, hF, _⟩
      exact ⟨_, rfl, q f H3 hf S hF⟩
end
end Bt

namespace Bt
open PySem PySem.Spec PyProof.Rows L2
/-! ### the plain law of the arcs -/
/-- the sums of (arms - 1) from place 0 on, round and round -/
def sm (r : Row) : Nat → Int
  | 0 => 0
  | k + 1 => sm r k + (dn r k : Nat) - 1
theorem dn_add (r : Row) (i : Nat) : dn r (i + r.length) = dn r i := by
  rw [← dn_mod r (i + r.length), Nat.add_mod_right, dn_mod]
theorem want_sm (r : Row) (p : Nat) : ∀ k, want r p k = 1 + sm r (p + k) - sm r p
  | 0 => by
    show (1 : Int) = _
    rw [Nat.add_zero]
    omega
  | k + 1 => by
    show want r p k - 1 + (dn r (p + k) : Nat) = 1 + (sm r (p + k) + (dn r (p + k) : Nat) - 1) - sm r p
    rw [want_sm r p k]
    omega
theorem sm_take (r : Row) : ∀ k, k ≤ r.length → sm r k = ((arms (r.take k) : Nat) : Int) - k
  | 0, _ => by
    show (0 : Int) = ((arms ([] : Row) : Nat) : Int) - 0
    rfl
  | k + 1, h => by
    have hk : k < r.length := by omega
    have e : r[k]? = some r[k] := List.getElem?_eq_getElem hk
    have d : dn r k = r[k].2 := by
      unfold dn
      rw [Nat.mod_eq_of_lt hk, e]
      rfl
    show sm r k + (dn r k : Nat) - 1 = _
    rw [sm_take r k (by omega), List.take_succ, e, arms_app', d]
    show _ = ((arms (r.take k) + (r[k].2 + 0) : Nat) : Int) - ((k + 1 : Nat) : Int)
    omega
where
  arms_app' {r s : Row} : arms (r ++ s) = arms r + arms s := by
    unfold arms
    rw [List.map_append, List.sum_append]
theorem sm_n (r : Row) : sm r r.length = ((arms r : Nat) : Int) - r.length := by
  rw [sm_take r r.length (Nat.le_refl _), List.take_length]
theorem sm_add (r : Row) : ∀ k, sm r (k + r.length) = sm r k + (((arms r : Nat) : Int) - r.length)
  | 0 => by
    rw [Nat.zero_add, sm_n]
    show _ = (0 : Int) + _
    omega
  | k + 1 => by
    have e : k + 1 + r.length = (k + r.length) + 1 := by omega
    rw [e]
    show sm r (k + r.length) + (dn r (k + r.length) : Nat) - 1 = sm r k + (dn r k : Nat) - 1 + _
    rw [sm_add r k, dn_add]
    omega
theorem sm_step (r : Row) (k : Nat) : sm r k - 1 ≤ sm r (k + 1) := by
  show _ ≤ sm r k + (dn r k : Nat) - 1
  omega
theorem lenF_pos (r : Row) (p : Nat) : ∀ k j, j < lenF r p k → 0 < want r p j
  | 0, j, h => by
    have h' : j < 0 := h
    omega
  | k + 1, j, h => by
    by_cases c : 0 < want r p (lenF r p k)
    · have e : lenF r p (k + 1) = lenF r p k + 1 := if_pos c
      rw [e] at h
      by_cases d : j = lenF r p k
      · rw [d]
        exact c
      · exact lenF_pos r p k j (by omega)
    · have e : lenF r p (k + 1) = lenF r p k := if_neg c
      rw [e] at h
      exact lenF_pos r p k j h
theorem lenF_stop (r : Row) (p : Nat) (k : Nat) (h : ∃ j, j ≤ k ∧ want r p j ≤ 0) : want r p (lenF r p k) ≤ 0 := by
  by_cases c : 0 < want r p (lenF r p k)
  · obtain ⟨j, hj, hw⟩ := h
    have e := lenF_full r p k c
    by_cases d : j = k
    · rw [e, ← d]
      exact hw
    · have := lenF_pos r p k j (by omega)
      omega
  · omega
section
variable {r : Row} (g : Good r)
include g
theorem arc_end (p : Nat) : want r p (arcLen r p) = 0 := by
  have hw : want r p r.length ≤ 0 := by
    rw [want_sm, sm_add]
    have := g.lt
    omega
  have h1 : want r p (arcLen r p) ≤ 0 := lenF_stop r p r.length ⟨_, Nat.le_refl _, hw⟩
  have h2 : arcLen r p ≠ 0 := fun e => by
    rw [e] at h1
    have : (1 : Int) ≤ 0 := h1
    omega
  obtain ⟨l, hl⟩ : ∃ l, arcLen r p = l + 1 := ⟨arcLen r p - 1, by omega⟩
  have h3 := lenF_pos r p r.length l (by unfold arcLen at hl; omega)
  have h4 : want r p (arcLen r p) = want r p l - 1 + (dn r (p + l) : Nat) := by rw [hl]; rfl
  omega
theorem arc_ne (p : Nat) : 1 ≤ arcLen r p := by
  have h := arc_end g p
  cases e : arcLen r p with
  | zero =>
    rw [e] at h
    have : (1 : Int) = 0 := h
    omega
  | succ l => omega
/-- where the arc that begins at p ends -/
theorem e_sm (p : Nat) : sm r (p + arcLen r p) = sm r p - 1 := by
  have h := arc_end g p
  rw [want_sm] at h
  omega
theorem e_pos (p k : Nat) (h1 : p ≤ k) (h2 : k < p + arcLen r p) : sm r p ≤ sm r k := by
  have h := lenF_pos r p r.length (k - p) (by unfold arcLen at h2; omega)
  rw [want_sm] at h
  have e : p + (k - p) = k := by omega
  rw [e] at h
  omega
theorem e_uniq {p q : Nat} (h1 : p ≤ q) (h2 : sm r q = sm r p - 1) (h3 : ∀ k, p ≤ k → k < q → sm r p ≤ sm r k) : q = p + arcLen r p := by
  have ha := e_sm g p
  rcases Nat.lt_trichotomy q (p + arcLen r p) with h | h | h
  · have := e_pos g p q h1 h
    omega
  · exact h
  · have := h3 (p + arcLen r p) (by omega) h
    omega
theorem last_zero (p : Nat) : dn r (p + arcLen r p - 1) = 0 := by
  have h1 := arc_ne g p
  have h2 := e_sm g p
  have h3 := e_pos g p (p + arcLen r p - 1) (by omega) (by omega)
  have e : p + arcLen r p = (p + arcLen r p - 1) + 1 := by omega
  rw [e] at h2
  have h4 : sm r (p + arcLen r p - 1) + (dn r (p + arcLen r p - 1) : Nat) - 1 = sm r p - 1 := h2
  omega
end
theorem want_mod (r : Row) (p : Nat) : ∀ k, want r (p % r.length) k = want r p k
  | 0 => rfl
  | k + 1 => by
    show want r (p % r.length) k - 1 + (dn r (p % r.length + k) : Nat) = want r p k - 1 + (dn r (p + k) : Nat)
    rw [want_mod r p k, ← dn_mod r (p % r.length + k), Nat.mod_add_mod, dn_mod]
theorem lenF_mod (r : Row) (p : Nat) : ∀ k, lenF r (p % r.length) k = lenF r p k
  | 0 => rfl
  | k + 1 => by
    show (if 0 < want r (p % r.length) (lenF r (p % r.length) k) then lenF r (p % r.length) k + 1 else lenF r (p % r.length) k) = if 0 < want r p (lenF r p k) then lenF r p k + 1 else lenF r p k
    rw [lenF_mod r p k, want_mod]
theorem arcLen_mod (r : Row) (p : Nat) : arcLen r (p % r.length) = arcLen r p := lenF_mod r p r.length
/-- the places from a on before b -/
def seg (r : Row) (a b : Nat) : List Nat := (List.range (b - a)).map fun k => (a + k) % r.length
theorem seg_app (r : Row) {a b c : Nat} (h1 : a ≤ b) (h2 : b ≤ c) : seg r a b ++ seg r b c = seg r a c := by
  unfold seg
  have e : c - a = (b - a) + (c - b) := by omega
  rw [e, List.range_add, List.map_append, List.map_map]
  congr 1
  apply List.map_congr_left
  intro k _
  show (b + k) % r.length = (a + ((b - a) + k)) % r.length
  congr 1
  omega
theorem seg_self (r : Row) (a : Nat) : seg r a a = [] := by
  unfold seg
  rw [Nat.sub_self]
  rfl
theorem seg_one (r : Row) (a : Nat) : seg r a (a + 1) = [a % r.length] := by
  unfold seg
  rw [Nat.add_sub_cancel_left]
  rfl
theorem arcL_seg (r : Row) (p : Nat) : arcL r (p % r.length) = seg r p (p + arcLen r p) := by
  unfold arcL seg
  rw [arcLen_mod, Nat.add_sub_cancel_left]
  apply List.map_congr_left
  intro k _
  rw [Nat.mod_add_mod]
theorem arcL_seg' {r : Row} {p : Nat} : arcL r p = seg r p (p + arcLen r p) := by
  unfold arcL seg
  rw [Nat.add_sub_cancel_left]
/-- the children, not turned -/
def cj (r : Row) (p : Nat) : Nat → Nat
  | 0 => p + 1
  | j + 1 => cj r p j + arcLen r (cj r p j)
theorem kid_cj (r : Row) (p : Nat) : ∀ j, kid r p j = cj r p j % r.length
  | 0 => rfl
  | j + 1 => by
    show (kid r p j + arcLen r (kid r p j)) % r.length = (cj r p j + arcLen r (cj r p j)) % r.length
    rw [kid_cj r p j, arcLen_mod, Nat.mod_add_mod]
section
variable {r : Row} (g : Good r)
include g
theorem cj_sm (p : Nat) : ∀ j, sm r (cj r p j) = sm r p + (dn r p : Nat) - 1 - j ∧ p < cj r p j
  | 0 => by
    constructor
    · show sm r p + (dn r p : Nat) - 1 = _
      simp
    · show p < p + 1
      omega
  | j + 1 => by
    obtain ⟨h1, h2⟩ := cj_sm p j
    have h3 := e_sm g (cj r p j)
    constructor
    · show sm r (cj r p j + arcLen r (cj r p j)) = _
      rw [h3, h1]
      push_cast
      omega
    · show p < cj r p j + arcLen r (cj r p j)
      omega
theorem cj_pos (p : Nat) : ∀ j, j ≤ dn r p → ∀ k, p ≤ k → k < cj r p j → sm r p ≤ sm r k
  | 0, _, k, h1, h2 => by
    have h2' : k < p + 1 := h2
    have : k = p := by omega
    rw [this]
    omega
  | j + 1, hj, k, h1, h2 => by
    have h2' : k < cj r p j + arcLen r (cj r p j) := h2
    by_cases c : k < cj r p j
    · exact cj_pos p j (by omega) k h1 c
    · have h3 := e_pos g (cj r p j) k (by omega) h2'
      have := (cj_sm g p j).1
      omega
theorem cj_end (p : Nat) : cj r p (dn r p) = p + arcLen r p := by
  have h := cj_sm g p (dn r p)
  exact e_uniq g (by omega) (by omega) fun k h1 h2 => cj_pos g p (dn r p) (Nat.le_refl _) k h1 h2
theorem kids_flat (p : Nat) : ∀ j, ((List.range j).map (kid r p)).flatMap (arcL r) = seg r (p + 1) (cj r p j)
  | 0 => (seg_self r (p + 1)).symm
  | j + 1 => by
    have h := (cj_sm g p j).2
    rw [List.range_succ, List.map_append, List.flatMap_append, kids_flat p j]
    show _ ++ (arcL r (kid r p j) ++ []) = _
    rw [List.append_nil, kid_cj, arcL_seg]
    exact seg_app r (by omega) (by omega)
/-- an arc is its bead and the arcs of its children -/
theorem arc_kids (p : Nat) : arcL r p = p % r.length :: (kidsL r p).flatMap (arcL r) := by
  unfold kidsL
  have h1 := arc_ne g p
  rw [kids_flat g p (dn r p), cj_end g p, arcL_seg', ← seg_app r (show p ≤ p + 1 by omega) (show p + 1 ≤ p + arcLen r p by omega), seg_one]
  rfl
end
end Bt

namespace Bt
open PySem PySem.Spec PyProof.Rows L2
/-! ### tops and children -/
def isTop (r : Row) (x : Nat) : Prop := ∀ p, p < r.length → x ∉ (arcL r p).tail
def topB (r : Row) (x : Nat) : Bool := !(List.range r.length).any fun p => decide (x ∈ (arcL r p).tail)
def topsL (r : Row) : List Nat := (List.range r.length).filter (topB r)
theorem topB_iff {r : Row} {x : Nat} : topB r x = true ↔ isTop r x := by
  unfold topB isTop
  constructor
  · intro h p hp hm
    have h' : ((List.range r.length).any fun p => decide (x ∈ (arcL r p).tail)) = false := by simpa using h
    rw [List.any_eq_false] at h'
    exact h' p (List.mem_range.mpr hp) (decide_eq_true hm)
  · intro h
    have h' : ((List.range r.length).any fun p => decide (x ∈ (arcL r p).tail)) = false := by
      rw [List.any_eq_false]
      intro p hp hd
      exact h p (List.mem_range.mp hp) (of_decide_eq_true hd)
    rw [h']
    rfl
theorem mem_tops {r : Row} {x : Nat} : x ∈ topsL r ↔ x < r.length ∧ isTop r x := by
  unfold topsL
  rw [List.mem_filter, List.mem_range, topB_iff]
section
variable {r : Row} (g : Good r)
include g
theorem arc_tail (p : Nat) : (arcL r p).tail = (kidsL r p).flatMap (arcL r) := by rw [arc_kids g p]; rfl
theorem self_arc {x : Nat} (h : x < r.length) : x ∈ arcL r x := by
  rw [arc_kids g x, Nat.mod_eq_of_lt h]
  exact List.mem_cons_self ..
theorem kid_len {p k : Nat} (h : k ∈ kidsL r p) : arcLen r k < arcLen r p := by
  obtain ⟨l1, l2, e⟩ := List.append_of_mem h
  have e2 := arc_kids g p
  rw [e] at e2
  have e3 := congrArg List.length e2
  rw [arcL_len, List.length_cons, List.flatMap_append, List.flatMap_cons, List.length_append, List.length_append, arcL_len] at e3
  omega
theorem tail_len : ∀ (m p y : Nat), arcLen r p ≤ m → y ∈ (arcL r p).tail → arcLen r y < arcLen r p
  | 0, p, y, h, _ => by
    have := arc_ne g p
    omega
  | m + 1, p, y, h, hy => by
    rw [arc_tail g p] at hy
    obtain ⟨k, hk, hyk⟩ := List.mem_flatMap.mp hy
    have h1 := kid_len g hk
    rw [arc_kids g k] at hyk
    rcases List.mem_cons.mp hyk with e | e
    · rw [e, arcLen_mod]
      exact h1
    · have h2 := tail_len m k y (by omega) (by rw [arc_tail g k]; exact e)
      omega
theorem tail_kid : ∀ (m p x : Nat), arcLen r p ≤ m → p < r.length → x ∈ (arcL r p).tail → ∃ q, q < r.length ∧ x ∈ kidsL r q
  | 0, p, x, h, _, _ => by
    have := arc_ne g p
    omega
  | m + 1, p, x, h, hp, hx => by
    rw [arc_tail g p] at hx
    obtain ⟨k, hk, hxk⟩ := List.mem_flatMap.mp hx
    have h1 := kid_len g hk
    have hkl := kidsL_lt g.ne hk
    rw [arc_kids g k, Nat.mod_eq_of_lt hkl] at hxk
    rcases List.mem_cons.mp hxk with e | e
    · exact ⟨p, hp, by rw [e]; exact hk⟩
    · exact tail_kid m k x (by omega) hkl (by rw [arc_tail g k]; exact e)
theorem top_iff {x : Nat} (hx : x < r.length) : isTop r x ↔ ∀ p, p < r.length → x ∉ kidsL r p := by
  constructor
  · intro h p hp hm
    refine h p hp ?_
    rw [arc_tail g p]
    exact List.mem_flatMap.mpr ⟨x, hm, self_arc g hx⟩
  · intro h p hp hm
    obtain ⟨q, hq, hxq⟩ := tail_kid g _ p x (Nat.le_refl _) hp hm
    exact h q hq hxq
end
theorem setAll_other (p : Nat) : ∀ (cs : List Nat) (acc : List (Option Nat)) (i : Nat), i ∉ cs → (setAll p acc cs)[i]? = acc[i]?
  | [], _, _, _ => rfl
  | c :: cs, acc, i, h => by
    show (setAll p (acc.set c (some p)) cs)[i]? = _
    rw [setAll_other p cs _ i (fun z => h (List.mem_cons_of_mem _ z)), List.getElem?_set, if_neg (fun z => h (by rw [z]; exact List.mem_cons_self ..))]
theorem setAll_in (p : Nat) : ∀ (cs : List Nat) (acc : List (Option Nat)) (i : Nat), i < acc.length → i ∈ cs → (setAll p acc cs)[i]? = some (some p)
  | [], _, _, _, h => by cases h
  | c :: cs, acc, i, hl, h => by
    show (setAll p (acc.set c (some p)) cs)[i]? = _
    by_cases d : i ∈ cs
    · exact setAll_in p cs _ i (by rw [List.length_set]; exact hl) d
    · have e : i = c := by
        rcases List.mem_cons.mp h with e | e
        · exact e
        · exact absurd e d
      rw [setAll_other p cs _ i d, List.getElem?_set, if_pos e.symm, if_pos (by rw [← e]; exact hl)]
theorem parA_none (r : Row) {i : Nat} (hi : i < r.length) : ∀ k, (∀ q, q < k → i ∉ kidsL r q) → (parA r k)[i]? = some none
  | 0, _ => by
    show (List.replicate r.length (none : Option Nat))[i]? = _
    rw [List.getElem?_replicate, if_pos hi]
  | k + 1, h => by
    rw [parA_succ, setAll_other _ _ _ _ (h k (by omega))]
    exact parA_none r hi k fun q hq => h q (by omega)
theorem parA_only (r : Row) {i p : Nat} (hi : i < r.length) (hp : i ∈ kidsL r p) : ∀ k, p < k → (∀ q, q < k → q ≠ p → i ∉ kidsL r q) → (parA r k)[i]? = some (some p)
  | 0, h, _ => by omega
  | k + 1, h, hq => by
    rw [parA_succ]
    by_cases c : p = k
    · rw [← c]
      exact setAll_in p _ _ i (by rw [parA_len]; exact hi) hp
    · rw [setAll_other _ _ _ _ (hq k (by omega) (fun z => c z.symm))]
      exact parA_only r hi hp k (by omega) fun q h1 h2 => hq q (by omega) h2
theorem par_none {r : Row} (g : Good r) {x : Nat} (hx : x < r.length) : (parL r).getD x none = none ↔ isTop r x := by
  rw [top_iff g hx]
  have hl : (parL r).length = r.length := parA_len r r.length
  constructor
  · intro h p hp hm
    have h2 : (parL r)[x]? = some none := by
      rw [List.getElem?_eq_getElem (by omega)]
      rw [List.getD_eq_getElem?_getD, List.getElem?_eq_getElem (by omega)] at h
      exact congrArg some h
    -- the last parent that has x
    have key : ∀ k, p < k → k ≤ r.length → (parA r k)[x]? ≠ some none := by
      intro k
      induction k with
      | zero => intro h; omega
      | succ k ih =>
        intro h1 h3 h4
        rw [parA_succ] at h4
        by_cases c : x ∈ kidsL r k
        · rw [setAll_in k _ _ x (by rw [parA_len]; exact hx) c] at h4
          cases h4
        · rw [setAll_other _ _ _ _ c] at h4
          by_cases d : p = k
          · rw [d] at hm
            exact c hm
          · exact ih (by omega) (by omega) h4
    exact key r.length hp (Nat.le_refl _) h2
  · intro h
    have h2 := parA_none r hx r.length h
    rw [List.getD_eq_getElem?_getD, show (parL r)[x]? = some none from h2]
    rfl
/-- the bead behind a bead with arms is its first child, and nobody else's -/
theorem par_one {r : Row} (g : Good r) (h2 : 2 ≤ r.length) (h0 : 1 ≤ dn r 0) : (parL r)[1]? = some (some 0) := by
  refine parA_only r (by omega) ?_ r.length (by omega) fun q hq hne hm => ?_
  · unfold kidsL
    refine List.mem_map.mpr ⟨0, List.mem_range.mpr h0, ?_⟩
    show (0 + 1) % r.length = 1
    exact Nat.mod_eq_of_lt (by omega)
  · unfold kidsL at hm
    obtain ⟨j, hj, e⟩ := List.mem_map.mp hm
    have hj' := List.mem_range.mp hj
    cases j with
    | zero =>
      have e' : (q + 1) % r.length = 1 := e
      by_cases c : q + 1 < r.length
      · rw [Nat.mod_eq_of_lt c] at e'
        omega
      · have : q + 1 = r.length := by omega
        rw [this, Nat.mod_self] at e'
        omega
    | succ j =>
      have e' : (kid r q j + arcLen r (kid r q j)) % r.length = 1 := e
      have h3 := last_zero g (kid r q j)
      have h4 := arc_ne g (kid r q j)
      have h5 : (kid r q j + arcLen r (kid r q j) - 1) % r.length = 0 := by
        have e2 : kid r q j + arcLen r (kid r q j) = (kid r q j + arcLen r (kid r q j) - 1) + 1 := by omega
        rw [e2, Nat.add_mod, Nat.mod_eq_of_lt (show 1 < r.length by omega)] at e'
        by_cases c : (kid r q j + arcLen r (kid r q j) - 1) % r.length + 1 < r.length
        · rw [Nat.mod_eq_of_lt c] at e'
          omega
        · have := Nat.mod_lt (kid r q j + arcLen r (kid r q j) - 1) (show 0 < r.length by omega)
          have h6 : (kid r q j + arcLen r (kid r q j) - 1) % r.length + 1 = r.length := by omega
          rw [h6, Nat.mod_self] at e'
          omega
      rw [← dn_mod, h5] at h3
      omega
/-! ### roots are records -/
def Rt (r : Row) (x : Nat) : Prop := ∀ p, p < x → x < p + r.length → sm r x < sm r p
section
variable {r : Row} (g : Good r)
include g
theorem arc_le (p : Nat) : arcLen r p ≤ r.length := lenF_le r p r.length
theorem mem_seg {a b y : Nat} : y ∈ seg r a b ↔ ∃ k, a ≤ k ∧ k < b ∧ k % r.length = y := by
  unfold seg
  constructor
  · intro h
    obtain ⟨k, hk, e⟩ := List.mem_map.mp h
    have := List.mem_range.mp hk
    exact ⟨a + k, by omega, by omega, e⟩
  · rintro ⟨k, h1, h2, e⟩
    exact List.mem_map.mpr ⟨k - a, List.mem_range.mpr (by omega), by rw [Nat.add_sub_cancel' h1]; exact e⟩
theorem tail_seg (p : Nat) : (arcL r p).tail = seg r (p + 1) (p + arcLen r p) := by
  have h1 := arc_ne g p
  rw [arcL_seg', ← seg_app r (show p ≤ p + 1 by omega) (show p + 1 ≤ p + arcLen r p by omega), seg_one]
  rfl
theorem rt_top {x : Nat} (hx : x < r.length) : isTop r x ↔ Rt r (x + r.length) := by
  have h1 := g.ne
  constructor
  · intro h p hp1 hp2
    -- p ≤ x + n - 1, x < p
    rcases Int.lt_or_le (sm r (x + r.length)) (sm r p) with c | c
    · exact c
    · exfalso
      -- the latest such p
      have key : ∀ m p, x + r.length - p ≤ m → p < x + r.length → x + r.length < p + r.length → sm r p ≤ sm r (x + r.length) → ∃ q, q < x + r.length ∧ x + r.length < q + r.length ∧ sm r q ≤ sm r (x + r.length) ∧ ∀ k, q ≤ k → k ≤ x + r.length → sm r q ≤ sm r k := by
        intro m
        induction m with
        | zero => intro p h1 h2; omega
        | succ m ih =>
          intro p h1 h2 h3 h4
          by_cases d : ∃ k, p < k ∧ k < x + r.length ∧ sm r k ≤ sm r (x + r.length)
          · obtain ⟨k, k1, k2, k3⟩ := d
            exact ih k (by omega) k2 (by omega) k3
          · refine ⟨p, h2, h3, h4, fun k k1 k2 => ?_⟩
            by_cases e1 : k = p
            · rw [e1]
              omega
            · by_cases e2 : k = x + r.length
              · rw [e2]
                exact h4
              · rcases Int.lt_or_le (sm r (x + r.length)) (sm r k) with f | f
                · omega
                · exact absurd ⟨k, by omega, by omega, f⟩ d
      obtain ⟨q, q1, q2, q3, q4⟩ := key _ p (Nat.le_refl _) hp1 hp2 c
      have hin : x + r.length < q + arcLen r q := by
        rcases Nat.lt_or_ge (x + r.length) (q + arcLen r q) with f | f
        · exact f
        · have := q4 (q + arcLen r q) (by omega) f
          have := e_sm g q
          omega
      refine h (q % r.length) (Nat.mod_lt _ (by omega)) ?_
      rw [arcL_seg]
      have h5 := arc_ne g q
      rw [← seg_app r (show q ≤ q + 1 by omega) (show q + 1 ≤ q + arcLen r q by omega), seg_one]
      show x ∈ seg r (q + 1) (q + arcLen r q)
      exact (mem_seg g).mpr ⟨x + r.length, by omega, hin, by rw [Nat.add_mod_right, Nat.mod_eq_of_lt hx]⟩
  · intro h p hp hm
    rw [tail_seg g p] at hm
    obtain ⟨k, k1, k2, k3⟩ := (mem_seg g).mp hm
    have h2 := arc_le g p
    have h3 := e_pos g p k (by omega) k2
    -- k = x or x + n
    have hk : k = x ∨ k = x + r.length := by
      by_cases c : k < r.length
      · rw [Nat.mod_eq_of_lt c] at k3
        exact .inl k3
      · have e : k = (k - r.length) + r.length := by omega
        rw [e, Nat.add_mod_right, Nat.mod_eq_of_lt (by omega)] at k3
        omega
    rcases hk with rfl | rfl
    · have h4 := h (p + r.length) (by omega) (by omega)
      rw [sm_add, sm_add] at h4
      omega
    · have h4 := h p (by omega) (by omega)
      omega
theorem rt_shift {x : Nat} (hx : r.length ≤ x) : Rt r x ↔ Rt r (x + r.length) := by
  constructor
  · intro h p p1 p2
    have e : p = (p - r.length) + r.length := by omega
    rw [e, sm_add, sm_add]
    have := h (p - r.length) (by omega) (by omega)
    omega
  · intro h p p1 p2
    have h2 := h (p + r.length) (by omega) (by omega)
    rw [sm_add, sm_add] at h2
    omega
theorem rt_next {x : Nat} (h : Rt r x) : Rt r (x + arcLen r x) := by
  intro p p1 p2
  have h1 := e_sm g x
  have h2 := arc_ne g x
  by_cases c : x ≤ p
  · have := e_pos g x p c p1
    omega
  · have := h p (by omega) (by omega)
    omega
theorem rt_between {x k : Nat} (h1 : x < k) (h2 : k < x + arcLen r x) : ¬ Rt r k := fun h => by
  have h3 := arc_le g x
  have := h x h1 (by omega)
  have := e_pos g x k (by omega) h2
  omega
/-- a first least place -/
theorem rt_ex : ∃ x, x < r.length ∧ Rt r (x + r.length) := by
  have h1 := g.ne
  have key : ∀ m, m < r.length → ∃ x, x ≤ m ∧ (∀ k, k < x → sm r x < sm r k) ∧ ∀ k, k ≤ m → sm r x ≤ sm r k := by
    intro m
    induction m with
    | zero =>
      intro _
      exact ⟨0, Nat.le_refl _, fun k hk => by omega, fun k hk => by have : k = 0 := by omega
                                                                    rw [this]
                                                                    omega⟩
    | succ m ih =>
      intro hm
      obtain ⟨x, x1, x2, x3⟩ := ih (by omega)
      by_cases c : sm r (m + 1) < sm r x
      · refine ⟨m + 1, Nat.le_refl _, fun k hk => ?_, fun k hk => ?_⟩
        · have := x3 k (by omega)
          omega
        · by_cases d : k = m + 1
          · rw [d]
            omega
          · have := x3 k (by omega)
            omega
      · refine ⟨x, by omega, x2, fun k hk => ?_⟩
        by_cases d : k = m + 1
        · rw [d]
          omega
        · exact x3 k (by omega)
  obtain ⟨x, x1, x2, x3⟩ := key (r.length - 1) (by omega)
  refine ⟨x, by omega, fun p p1 p2 => ?_⟩
  have ht := g.lt
  by_cases c : p < r.length
  · rw [sm_add]
    have := x3 p (by omega)
    omega
  · have e : p = (p - r.length) + r.length := by omega
    rw [e, sm_add, sm_add]
    have := x2 (p - r.length) (by omega)
    omega
end
end Bt

namespace Bt
open PySem PySem.Spec PyProof.Rows L2
theorem arcLen_add (r : Row) (x : Nat) : arcLen r (x + r.length) = arcLen r x := by
  rw [← arcLen_mod r (x + r.length), Nat.add_mod_right, arcLen_mod]
def tlF (r : Row) (a : Nat) : List Nat := ((List.range' a (r.length - a)).filter (topB r)).flatMap (arcL r)
section
variable {r : Row} (g : Good r)
include g
theorem topB_false {x : Nat} (hx : x < r.length) (h : ¬ Rt r (x + r.length)) : topB r x = false := by
  cases e : topB r x with
  | false => rfl
  | true => exact absurd ((rt_top g hx).mp (topB_iff.mp e)) h
theorem no_tops (a L : Nat) (h : ∀ k, a ≤ k → k < a + L → k < r.length ∧ ¬ Rt r (k + r.length)) : (List.range' a L).filter (topB r) = [] := by
  rw [List.filter_eq_nil_iff]
  intro k hk
  have := List.mem_range'_1.mp hk
  obtain ⟨h1, h2⟩ := h k this.1 (by omega)
  rw [topB_false g h1 h2]
  exact fun z => by cases z
theorem tops_tile : ∀ (d a : Nat), r.length - a ≤ d → a < r.length → Rt r (a + r.length) → ∃ z, r.length ≤ z ∧ tlF r a = seg r a z ∧ a ≤ z ∧ Rt r (z + r.length) ∧ ∀ k, r.length ≤ k → k < z → ¬ Rt r (k + r.length)
  | 0, a, h, h2, _ => by omega
  | d + 1, a, h, ha, hr => by
    have h1 := arc_ne g a
    have hl := arc_le g a
    have hn := rt_next g hr
    rw [arcLen_add] at hn
    have hb : ∀ k, a < k → k < a + arcLen r a → ¬ Rt r (k + r.length) := fun k k1 k2 => rt_between g (x := a + r.length) (by omega) (by rw [arcLen_add]; omega)
    have ht : topB r a = true := topB_iff.mpr ((rt_top g ha).mpr hr)
    have ea : r.length - a = (r.length - a - 1) + 1 := by omega
    have es : arcL r a = seg r a (a + arcLen r a) := arcL_seg'
    by_cases c : r.length ≤ a + arcLen r a
    · refine ⟨a + arcLen r a, c, ?_, by omega, ?_, fun k k1 k2 => hb k (by omega) k2⟩
      · unfold tlF
        rw [ea, List.range'_succ, List.filter_cons, if_pos ht, no_tops g (a + 1) (r.length - a - 1) fun k k1 k2 => ⟨by omega, hb k (by omega) (by omega)⟩]
        show arcL r a ++ [] = _
        rw [List.append_nil, es]
      · have e : a + arcLen r a + r.length = a + r.length + arcLen r a := by omega
        rw [e]
        exact hn
    · have e : a + arcLen r a + r.length = a + r.length + arcLen r a := by omega
      obtain ⟨z, z1, z2, z3, z4, z5⟩ := tops_tile d (a + arcLen r a) (by omega) (by omega) (by rw [e]; exact hn)
      refine ⟨z, z1, ?_, by omega, z4, z5⟩
      have e2 : r.length - a - 1 = (arcLen r a - 1) + (r.length - (a + arcLen r a)) := by omega
      have e3 : a + 1 + (arcLen r a - 1) = a + arcLen r a := by omega
      unfold tlF at z2 ⊢
      rw [ea, List.range'_succ, List.filter_cons, if_pos ht, e2, ← List.range'_append_1, List.filter_append, no_tops g (a + 1) (arcLen r a - 1) fun k k1 k2 => ⟨by omega, hb k (by omega) (by omega)⟩, List.nil_append, e3]
      show arcL r a ++ List.flatMap (arcL r) _ = _
      rw [z2, es]
      exact seg_app r (by omega) z3
/-- the arcs of the tops make the ring -/
theorem tops_ring : ∃ m, m < r.length ∧ (topsL r).flatMap (arcL r) = seg r m (m + r.length) := by
  obtain ⟨x, hx, hr⟩ := rt_ex g
  have key : ∀ d x, x ≤ d → x < r.length → Rt r (x + r.length) → ∃ m, m < r.length ∧ Rt r (m + r.length) ∧ ∀ k, k < m → ¬ Rt r (k + r.length) := by
    intro d
    induction d with
    | zero => intro x h1 h2 h3; exact ⟨x, h2, h3, fun k hk => by omega⟩
    | succ d ih =>
      intro x h1 h2 h3
      by_cases c : ∃ k, k < x ∧ Rt r (k + r.length)
      · obtain ⟨k, k1, k2⟩ := c
        exact ih k (by omega) (by omega) k2
      · exact ⟨x, h2, h3, fun k hk hk2 => c ⟨k, hk, hk2⟩⟩
  obtain ⟨m, hm, hrm, hmin⟩ := key x x (Nat.le_refl _) hx hr
  refine ⟨m, hm, ?_⟩
  obtain ⟨z, z1, z2, z3, z4, z5⟩ := tops_tile g _ m (Nat.le_refl _) hm hrm
  have e1 : z ≤ m + r.length := by
    rcases Nat.lt_or_ge (m + r.length) z with c | c
    · exact absurd ((rt_shift g (by omega)).mp hrm) (z5 (m + r.length) (by omega) c)
    · exact c
  have e2 : m ≤ z - r.length := by
    rcases Nat.lt_or_ge (z - r.length) m with c | c
    · refine absurd ?_ (hmin (z - r.length) c)
      have e : z - r.length + r.length = z := by omega
      rw [e]
      exact (rt_shift g z1).mpr z4
    · exact c
  have ez : z = m + r.length := by omega
  rw [← ez, ← z2]
  unfold topsL tlF
  have e3 : List.range r.length = List.range' 0 m ++ List.range' m (r.length - m) := by
    rw [List.range_eq_range']
    have : r.length = m + (r.length - m) := by omega
    conv => lhs; rw [this]
    rw [← List.range'_append_1, Nat.zero_add]
  rw [e3, List.filter_append, no_tops g 0 m fun k _ k2 => ⟨by omega, hmin k (by omega)⟩, List.nil_append]
/-- an armless root is the only top just when it is the only tree -/
theorem nip_one {x : Nat} (hx : x < r.length) (h0 : dn r x = 0) (ht : isTop r x) : topsL r = [x] ↔ arms r + 1 = r.length := by
  have hne := g.ne
  have hlt := g.lt
  have hk : kidsL r x = [] := by unfold kidsL; rw [h0]; rfl
  have hL : arcLen r x = 1 := by
    have e := congrArg List.length (arc_kids g x)
    rw [hk, arcL_len] at e
    exact e
  have one : r.length = 1 → topsL r = [x] := fun h => by
    have e : x = 0 := by omega
    unfold topsL
    rw [h, List.range_one, List.filter_cons, if_pos (by rw [← e]; exact topB_iff.mpr ht), e]
    rfl
  constructor
  · intro h
    have key : ∀ m, m < r.length → ∃ q, q ≤ m ∧ ∀ p, p ≤ m → arcLen r p ≤ arcLen r q := by
      intro m
      induction m with
      | zero =>
        intro _
        refine ⟨0, Nat.le_refl _, fun p hp => ?_⟩
        have : p = 0 := by omega
        rw [this]
        exact Nat.le_refl _
      | succ m ih =>
        intro hm
        obtain ⟨q, q1, q2⟩ := ih (by omega)
        by_cases c : arcLen r q ≤ arcLen r (m + 1)
        · refine ⟨m + 1, Nat.le_refl _, fun p hp => ?_⟩
          by_cases d : p = m + 1
          · rw [d]
            exact Nat.le_refl _
          · have := q2 p (by omega)
            omega
        · refine ⟨q, by omega, fun p hp => ?_⟩
          by_cases d : p = m + 1
          · rw [d]
            omega
          · exact q2 p (by omega)
    obtain ⟨q, q1, q2⟩ := key (r.length - 1) (by omega)
    have hq : q ∈ topsL r := mem_tops.mpr ⟨by omega, fun p hp hm => by
      have h1 := tail_len g _ p q (Nat.le_refl _) hm
      have h2 := q2 p (by omega)
      omega⟩
    rw [h] at hq
    have eq : q = x := by simpa using hq
    have all : ∀ y, y < r.length → y = x := fun y hy => by
      have : y ∈ topsL r := mem_tops.mpr ⟨hy, fun p hp hm => by
        have h1 := tail_len g _ p y (Nat.le_refl _) hm
        have h2 := q2 p (by omega)
        rw [eq, hL] at h2
        have := arc_ne g y
        omega⟩
      rw [h] at this
      simpa using this
    have h3 : r.length = 1 := by
      rcases Nat.lt_or_ge r.length 2 with c | c
      · omega
      · have a0 := all 0 (by omega)
        have a1 := all 1 (by omega)
        omega
    omega
  · intro h
    apply one
    have hr := (rt_top g hx).mp ht
    have hs := (rt_shift g (by omega)).mp hr
    have h1 := e_sm g (x + r.length)
    rw [arcLen_add, hL] at h1
    rcases Nat.lt_or_ge 1 r.length with c | c
    · have h2 := hs (x + r.length + 1) (by omega) (by omega)
      rw [sm_add] at h2
      omega
    · omega
end
/-! ### the law's order -/
theorem seg_len (r : Row) (a b : Nat) : (seg r a b).length = b - a := by
  unfold seg
  rw [List.length_map, List.length_range]
theorem seg_turn (r : Row) (a b : Nat) : seg r (a + r.length) (b + r.length) = seg r a b := by
  unfold seg
  rw [Nat.add_sub_add_right]
  apply List.map_congr_left
  intro k _
  have e : a + r.length + k = (a + k) + r.length := by omega
  rw [e, Nat.add_mod_right]
theorem seg_all (r : Row) : seg r 0 r.length = List.range r.length := by
  unfold seg
  rw [Nat.sub_zero]
  have : (List.range r.length).map (fun k => (0 + k) % r.length) = (List.range r.length).map id := by
    apply List.map_congr_left
    intro k hk
    rw [Nat.zero_add]
    exact Nat.mod_eq_of_lt (List.mem_range.mp hk)
  rw [this, List.map_id]
theorem seg_cut (r : Row) {a b c : Nat} (h1 : a ≤ b) (h2 : b ≤ c) : (seg r a c).drop (b - a) = seg r b c ∧ (seg r a c).take (b - a) = seg r a b := by
  have e := seg_app r h1 h2
  have l := seg_len r a b
  rw [← e]
  constructor
  · rw [← l, List.drop_left]
  · rw [← l, List.take_left]
theorem seg_get (r : Row) {a b i : Nat} (h : i < b - a) : (seg r a b)[i]? = some ((a + i) % r.length) := by
  unfold seg
  rw [List.getElem?_map, List.getElem?_range h]
  rfl
/-- the first place of 0 in a turned ring, and the ring turned back -/
theorem turn_back {r : Row} {m : Nat} (hm : m < r.length) : ∃ j, j < r.length ∧ (seg r m (m + r.length))[j]? = some 0 ∧ (∀ i, i < j → (seg r m (m + r.length))[i]? ≠ some 0) ∧
    (seg r m (m + r.length)).drop j ++ (seg r m (m + r.length)).take j = List.range r.length := by
  by_cases c : m = 0
  · subst c
    rw [Nat.zero_add, seg_all]
    refine ⟨0, hm, by rw [List.getElem?_range hm], fun i hi => by omega, ?_⟩
    rw [List.drop_zero, List.take_zero, List.append_nil]
  · refine ⟨r.length - m, by omega, ?_, fun i hi h => ?_, ?_⟩
    · rw [seg_get r (by omega)]
      have e : m + (r.length - m) = r.length := by omega
      rw [e, Nat.mod_self]
    · rw [seg_get r (by omega), Nat.mod_eq_of_lt (by omega)] at h
      have := Option.some.inj h
      omega
    · obtain ⟨h1, h2⟩ := seg_cut r (a := m) (b := r.length) (c := m + r.length) (by omega) (by omega)
      rw [h1, h2]
      have e : seg r r.length (m + r.length) = seg r 0 m := by
        have := seg_turn r 0 m
        rw [Nat.zero_add] at this
        exact this
      rw [e, seg_app r (by omega) (by omega), seg_all]
end Bt

namespace Bt
open PySem PySem.Spec PyProof.Rows L2
/-- numbers and places are one -/
def Idn (R : RS) : Prop := R.o = List.range R.r.length
def numD (n : Nat) : PyData := .tuple ((zs (List.range n)).map PyData.int)
theorem Idn.idx {R : RS} (i : Idn R) {n : Nat} (h : n < R.r.length) : R.o.idxOf n = n := by
  obtain ⟨j, h1, _, h3⟩ := idx_of (o := R.o) (n := n) (by rw [i]; exact List.mem_range.mpr h)
  rw [h3]
  have hl := (List.getElem?_eq_some_iff.mp h1).1
  rw [i, List.length_range] at hl
  rw [i, List.getElem?_range hl] at h1
  exact Option.some.inj h1
theorem isB_mem {R : RS} (W : RgW R) {d : PyData} {n : Nat} (h : isB R d = some n) : n ∈ R.o ∧ R.o.idxOf n < R.r.length ∧ R.o[R.o.idxOf n]? = some n ∧ ∃ b, R.he n = some b := by
  obtain ⟨_, hs⟩ := isB_int h
  obtain ⟨b, hb⟩ := Option.isSome_iff_exists.mp hs
  have hm := W.mem n b hb
  obtain ⟨j, h1, _, h3⟩ := idx_of hm
  rw [h3]
  refine ⟨hm, ?_, h1, b, hb⟩
  rw [← W.len]
  exact (List.getElem?_eq_some_iff.mp h1).1
theorem arcL_lt {r : Row} (h : 1 ≤ r.length) {p c : Nat} (hc : c ∈ arcL r p) : c < r.length := by
  unfold arcL at hc
  obtain ⟨j, _, rfl⟩ := List.mem_map.mp hc
  exact Nat.mod_lt _ (by omega)
def parOf (R : RS) (n : Nat) : V := parV R ((parL R.r).getD (R.o.idxOf n) none)
def kidsOf (R : RS) (n : Nat) : List Nat := (kidsL R.r (R.o.idxOf n)).map fun i => R.o.getD i 0
def arcOf (R : RS) (n : Nat) : List Nat := (arcL R.r (R.o.idxOf n)).map fun i => R.o.getD i 0
theorem kinK_val {R : RS} (W : RgW R) {i n : Nat} (hn : R.o[i]? = some n) (hl : i < R.r.length) : valV (kinK R R.r.length) (Sum.inl ((n : Nat) : Int)) = some (parV R ((parL R.r).getD i none)) := by
  have hp : (parL R.r)[i]? = some ((parL R.r).getD i none) := by
    rw [List.getD_eq_getElem?_getD, List.getElem?_eq_getElem (by rw [show (parL R.r).length = R.r.length from parA_len R.r R.r.length]; exact hl)]
    rfl
  have key : ∀ k, i < k → k ≤ R.r.length → valV (kinK R k) (Sum.inl ((n : Nat) : Int)) = some (parV R ((parL R.r).getD i none)) := by
    intro k
    induction k with
    | zero => intro h; omega
    | succ k ih =>
      intro h1 h2
      have hk1 : k < R.o.length := by rw [W.len]; omega
      have hk2 : k < (parL R.r).length := by rw [show (parL R.r).length = R.r.length from parA_len R.r R.r.length]; omega
      rw [← kinK_put W (List.getElem?_eq_getElem hk1) (List.getElem?_eq_getElem hk2), valV_put]
      by_cases c : i = k
      · subst c
        rw [List.getElem?_eq_getElem hk1] at hn
        have e := Option.some.inj hn
        rw [List.getElem?_eq_getElem hk2] at hp
        have e2 := Option.some.inj hp
        rw [← e, if_pos rfl, ← e2]
      · rw [if_neg, ih (by omega) (by omega)]
        intro z
        injection z with z
        have z' : n = R.o[k] := by omega
        have := (List.getElem?_inj (j := k) (by rw [W.len]; omega) W.nd).mp (hn.trans (by rw [z', List.getElem?_eq_getElem hk1]))
        exact c this
  exact key _ hl (Nat.le_refl _)
def spNums (K : PySem.W.Frag) : Sp := fun vs H Q _ => ∃ g C R, vs = [.ref g] ∧ IsRing K C ∧ Rg K H g C R ∧ RgW R ∧ Idn R ∧ ∀ v H', Same H H' → Dp K H' v (numD R.r.length) → Q v H'
def spBeadM (K : PySem.W.Frag) : Sp := fun vs H Q E => ∃ g C R v d, vs = [.ref g, v] ∧ IsRing K C ∧ Rg K H g C R ∧ RgW R ∧ TD K H v d ∧ (∀ n, isB R d = some n → ∀ u H', Same H H' → Q u H') ∧ (isB R d = none → NBx K v H E)
def spRowM (K : PySem.W.Frag) : Sp := fun vs H Q E => ∃ g C R v, vs = [.ref g, v] ∧ IsRing K C ∧ Rg K H g C R ∧ RgW R ∧ ((v = .non ∧ Idn R ∧ ∀ u H', Same H H' → Dp K H' u (.tuple (rowD R.r)) → Q u H') ∨
  ∃ d, TD K H v d ∧ v ≠ .non ∧ (∀ n, isB R d = some n → ∀ u H', Same H H' → Dp K H' u (.tuple (rowD (rot R.r (R.o.idxOf n)))) → Q u H') ∧ (isB R d = none → NBx K v H E))
def spTreesM (K : PySem.W.Frag) : Sp := fun vs H Q _ => ∃ g C R, vs = [.ref g] ∧ IsRing K C ∧ Rg K H g C R ∧ RgW R ∧ ∀ H', Same H H' → Q (.int ((R.r.length : Nat) - (arms R.r : Nat))) H'
def spParM (K : PySem.W.Frag) : Sp := fun vs H Q E => ∃ g C R v d, vs = [.ref g, v] ∧ IsRing K C ∧ Rg K H g C R ∧ RgW R ∧ TD K H v d ∧ (∀ n, isB R d = some n → ∀ H', Same H H' → Q (parOf R n) H') ∧ (isB R d = none → NBx K v H E)
def spKidM (K : PySem.W.Frag) (f : RS → Nat → List Nat) : Sp := fun vs H Q E => ∃ g C R v d, vs = [.ref g, v] ∧ IsRing K C ∧ Rg K H g C R ∧ RgW R ∧ TD K H v d ∧ (∀ n, isB R d = some n → ∀ a H', H a = none → Same H H' → H' a = some (.lst ((zs (f R n)).map V.int)) → Q (.ref a) H') ∧ (isB R d = none → NBx K v H E)
def spDeeds (K : PySem.W.Frag) : Sp := fun vs H Q _ => ∃ g C R, vs = [.ref g] ∧ IsRing K C ∧ Rg K H g C R ∧ RgW R ∧ Q (.int (R.hist : Nat)) H
def spLimit (K : PySem.W.Frag) : Sp := fun vs H Q _ => ∃ g C R, vs = [.ref g] ∧ IsRing K C ∧ Rg K H g C R ∧ RgW R ∧ Q (.int (R.room : Nat)) H
def spStr (K : PySem.W.Frag) : Sp := fun vs H Q _ => ∃ g C R, vs = [.ref g] ∧ IsRing K C ∧ Rg K H g C R ∧ RgW R ∧ ∀ H', Same H H' → Q (.str (rowT (leastR R.r))) H'
theorem NBx.mono {K : PySem.W.Frag} {v : V} {H H' : Hp} {E : XK} (h : NBx K v H E) (S : Same H H') : NBx K v H' E := fun x H2 hx S2 e => h x H2 (S.free hx) (S.trans S2) e
section
variable {P : Program} {w : World} {K : PySem.W.Frag} {mg : Str → Option Value} {base : Heap}
theorem ok_Ring_deeds (T : Txt K mg) : FO P w K mg base (L2.CX P w) 1 (a_Ring_deeds K) ["self"] (spDeeds K) := by
  refine T.d_Ring_deeds.ok sc_Ring_deeds (fun vs H Q E h => ?_) (fun cdv A outer s H vs Q E hr h => ?_)
  · obtain ⟨g, C, R, rfl, _⟩ := h
    rfl
  · obtain ⟨g, C, R, rfl, hC, ⟨dx, lo, hd, hh, kvs, hs, hR⟩, W, q⟩ := h
    refine ⟨_, (pss_one (ps_ret (pe_callB (id := "len") call_len (by rfl) T.f_len (by decide +kernel) (pa_cons (pe_fld (pv 0) rfl) pa_nil)))), ?_⟩
    refine ⟨_, rfl, g, C, dx, _, _, rfl, hR.ins, T.cls hC, T.n_history hC, rfl, _, hs.length, rfl, .inl ⟨hs, .inl (.inl hR.his), rfl⟩, ?_⟩
    rw [hR.hsl]
    exact q
theorem ok_Ring_limit (T : Txt K mg) : FO P w K mg base (L2.CX P w) 1 (a_Ring_limit K) ["self"] (spLimit K) := by
  refine T.d_Ring_limit.ok sc_Ring_limit (fun vs H Q E h => ?_) (fun cdv A outer s H vs Q E hr h => ?_)
  · obtain ⟨g, C, R, rfl, _⟩ := h
    rfl
  · obtain ⟨g, C, R, rfl, hC, ⟨dx, lo, hd, hh, kvs, hs, hR⟩, W, q⟩ := h
    refine ⟨_, (pss_one (ps_ret (pe_fld (pv 0) rfl))), ?_⟩
    exact ⟨_, rfl, g, C, dx, _, _, rfl, hR.ins, T.cls hC, T.n_room hC, rfl, q⟩
theorem ok_Ring_trees (T : Txt K mg) : FO P w K mg base (L2.CX P w) 6 (a_Ring_trees K) ["self"] (spTreesM K) := by
  refine T.d_Ring_trees.ok sc_Ring_trees (fun vs H Q E h => ?_) (fun cdv A outer s H vs Q E hr h => ?_)
  · obtain ⟨g, C, R, rfl, _⟩ := h
    rfl
  · obtain ⟨g, C, R, rfl, hC, ⟨dx, lo, hd, hh, kvs, hs, hR⟩, W, q⟩ := h
    have G_Ring_chain := ok_Ring_chain (P := P) (w := w) (base := base) T
    have G_trees_of := ok_trees_of (P := P) (w := w) (base := base) T
    refine ⟨_, (pss_one (ps_ret (pe_call G_trees_of (hr.mono (by decide)) rfl T.g_trees_of T.d_trees_of.kp T.b_trees_of .nil passE (pa_cons (pe_meth0 (pv 0) (T.cls hC) (T.mt_chain hC) G_Ring_chain (hr.mono (by decide)) T.b_Ring_chain .nil passE) pa_nil)))), ?_⟩
    exact ⟨_, rfl, g, dx, _, rfl, hR.ins, rfl, g, C, R, rfl, hC, ⟨dx, lo, hd, hh, kvs, hs, hR⟩, W, fun v H1 S1 hv => ⟨v, R.r, rfl, hv, W.good, fun H2 S2 => q H2 (S1.trans S2)⟩⟩
theorem ok_RingU_strU (T : Txt K mg) : FO P w K mg base (L2.CX P w) 6 (a_RingU_strU K) ["self"] (spStr K) := by
  refine T.d_RingU_strU.ok sc_RingU_strU (fun vs H Q E h => ?_) (fun cdv A outer s H vs Q E hr h => ?_)
  · obtain ⟨g, C, R, rfl, _⟩ := h
    rfl
  · obtain ⟨g, C, R, rfl, hC, ⟨dx, lo, hd, hh, kvs, hs, hR⟩, W, q⟩ := h
    have G_Ring_chain := ok_Ring_chain (P := P) (w := w) (base := base) T
    have G_least := ok_least (P := P) (w := w) (base := base) T
    have G_row_text := ok_row_text (P := P) (w := w) (base := base) T
    refine ⟨_, (pss_one (ps_ret (pe_callTy (T := "str") SkE.call_str_str (by rfl) T.f_str (by decide +kernel) (pa_cons (pe_call G_row_text (hr.mono (by decide)) rfl T.g_row_text T.d_row_text.kp T.b_row_text .nil passE (pa_cons (pe_call G_least (hr.mono (by decide)) rfl T.g_least T.d_least.kp T.b_least .nil passE (pa_cons (pe_meth0 (pv 0) (T.cls hC) (T.mt_chain hC) G_Ring_chain (hr.mono (by decide)) T.b_Ring_chain .nil passE) pa_nil)) pa_nil)) pa_nil)))), ?_⟩
    refine ⟨_, rfl, g, dx, _, rfl, hR.ins, rfl, g, C, R, rfl, hC, ⟨dx, lo, hd, hh, kvs, hs, hR⟩, W, fun v H1 S1 hv => ?_⟩
    refine ⟨v, R.r, rfl, hv, W.good, fun u H2 S2 hu => ⟨u, _, rfl, hu, (leastR_is W.good).2, fun H3 S3 => ⟨_, rfl, q H3 ((S1.trans S2).trans S3)⟩⟩⟩
theorem ok_Ring_bead (T : Txt K mg) : FO P w K mg base (L2.CX P w) 4 (a_Ring_bead K) ["self", "number"] (spBeadM K) := by
  refine T.d_Ring_bead.ok sc_Ring_bead (fun vs H Q E h => ?_) (fun cdv A outer s H vs Q E hr h => ?_)
  · obtain ⟨g, C, R, v, d, rfl, _⟩ := h
    rfl
  · obtain ⟨g, C, R, v, d, rfl, hC, ⟨dx, lo, hd, hh, kvs, hs, hR⟩, W, hv, q1, q2⟩ := h
    have G_Ring_place := ok_Ring_place (P := P) (w := w) (base := base) T
    refine ⟨_, (pss_cons (ps_expr (pe_meth (pv 0) (T.cls hC) (T.mt_place hC) G_Ring_place (hr.mono (by decide)) T.b_Ring_place .nil passE (pa_cons (pv 1) pa_nil))) (pss_one (ps_ret (pe_dget (hu_of hr) (pe_fld (pv 0) rfl) (pv 1) (fun _ _ => rfl))))), ?_⟩
    refine ⟨_, rfl, g, dx, _, rfl, hR.ins, rfl, _, rfl, g, C, R, v, d, rfl, hC, ⟨dx, lo, hd, hh, kvs, hs, hR⟩, W, hv, fun n hn H1 S1 => ?_, q2⟩
    obtain ⟨rfl, hs⟩ := isB_int hn
    obtain ⟨b, hb⟩ := Option.isSome_iff_exists.mp hs
    have ev : v = .int ((n : Nat) : Int) := by
      rcases hv with hv | ⟨_, _, _, e⟩
      · exact hv.intI
      · cases e
    subst ev
    have hR1 := hR.mono S1
    obtain ⟨u, hu, hud⟩ := hR1.hR.som n b hb
    refine ⟨_, rfl, g, C, dx, _, _, rfl, hR1.ins, T.cls hC, T.n_held hC, rfl, _, rfl, hd, u, rfl, ?_, q1 n hn u _ S1⟩
    rw [← hu]
    exact DGet.k (k := Sum.inl ((n : Nat) : Int)) hR1.hel
theorem ok_Ring_parent (T : Txt K mg) : FO P w K mg base (L2.CX P w) 7 (a_Ring_parent K) ["self", "number"] (spParM K) := by
  refine T.d_Ring_parent.ok sc_Ring_parent (fun vs H Q E h => ?_) (fun cdv A outer s H vs Q E hr h => ?_)
  · obtain ⟨g, C, R, v, d, rfl, _⟩ := h
    rfl
  · obtain ⟨g, C, R, v, d, rfl, hC, ⟨dx, lo, hd, hh, kvs, hs, hR⟩, W, hv, q1, q2⟩ := h
    have G_Ring_kin := ok_Ring_kin (P := P) (w := w) (base := base) T
    have G_Ring_place := ok_Ring_place (P := P) (w := w) (base := base) T
    refine ⟨_, (pss_cons (ps_expr (pe_meth (pv 0) (T.cls hC) (T.mt_place hC) G_Ring_place (hr.mono (by decide)) T.b_Ring_place .nil passE (pa_cons (pv 1) pa_nil))) (pss_one (ps_ret (pe_dget (hu_of hr) (pe_meth0 (pv 0) (T.cls hC) (T.mt_kin hC) G_Ring_kin (hr.mono (by decide)) T.b_Ring_kin .nil passE) (pv 1) (fun _ _ => rfl))))), ?_⟩
    refine ⟨_, rfl, g, dx, _, rfl, hR.ins, rfl, _, rfl, g, C, R, v, d, rfl, hC, ⟨dx, lo, hd, hh, kvs, hs, hR⟩, W, hv, fun n hn H1 S1 => ?_, q2⟩
    obtain ⟨hm, hlt, hat, _⟩ := isB_mem W hn
    obtain ⟨rfl, _⟩ := isB_int hn
    have ev : v = .int ((n : Nat) : Int) := by
      rcases hv with hv | ⟨_, _, _, e⟩
      · exact hv.intI
      · cases e
    subst ev
    have hR1 := hR.mono S1
    refine ⟨_, rfl, g, dx, _, rfl, hR1.ins, rfl, g, C, R, rfl, hC, ⟨dx, lo, hd, hh, kvs, hs, hR1⟩, W, fun a H2 ha S2 hk => ?_⟩
    refine ⟨_, rfl, a, parOf R n, rfl, ?_, q1 n hn _ (S1.trans S2)⟩
    rw [show parOf R n = parV R ((parL R.r).getD (R.o.idxOf n) none) from rfl, ← kinK_val W hat hlt]
    exact DGet.k (k := Sum.inl ((n : Nat) : Int)) hk
theorem ok_Ring_children (T : Txt K mg) : FO P w K mg base (L2.CX P w) 6 (a_Ring_children K) ["self", "number"] (spKidM K kidsOf) := by
  refine T.d_Ring_children.ok sc_Ring_children (fun vs H Q E h => ?_) (fun cdv A outer s H vs Q E hr h => ?_)
  · obtain ⟨g, C, R, v, d, rfl, _⟩ := h
    rfl
  · obtain ⟨g, C, R, v, d, rfl, hC, ⟨dx, lo, hd, hh, kvs, hs, hR⟩, W, hv, q1, q2⟩ := h
    have G_Ring_chain := ok_Ring_chain (P := P) (w := w) (base := base) T
    have G_Ring_place := ok_Ring_place (P := P) (w := w) (base := base) T
    have G_children_kin := ok_children_kin (P := P) (w := w) (base := base) T
    refine ⟨_, (pss_one (ps_ret (pe_lc (own := [("at", 2)]) (g := gName 2) rfl sc_Ring_children.nd (pi_list (pe_call G_children_kin (hr.mono (by decide)) rfl T.g_children_kin T.d_children_kin.kp T.b_children_kin .nil passE (pa_cons (pe_meth0 (pv 0) (T.cls hC) (T.mt_chain hC) G_Ring_chain (hr.mono (by decide)) T.b_Ring_chain .nil passE) (pa_cons (pe_meth (pv 0) (T.cls hC) (T.mt_place hC) G_Ring_place (hr.mono (by decide)) T.b_Ring_place .nil passE (pa_cons (pv 1) pa_nil)) pa_nil)))) (blkOk_by (own := [("at", 2)]) (N := ["self", "number", "at"]) (sc := defScope s_Ring_children) (by decide +kernel)) (fun _ _ _ _ _ => pg_name (i := 2) sc_Ring_children.nd rfl (Or.inl rfl)) (fun _ _ _ _ _ => pts_nil) (fun _ _ _ _ _ => (pe_ix (ix_listK (K := K)) (pe_fldK (K := K) (pv 0) rfl) (pv 2) (fun _ _ => rfl)))))), ?_⟩
    refine ⟨_, rfl, g, dx, _, rfl, hR.ins, rfl, g, C, R, rfl, hC, ⟨dx, lo, hd, hh, kvs, hs, hR⟩, W, fun u H1 S1 hu => ?_⟩
    have hR1 := hR.mono S1
    refine ⟨_, rfl, g, dx, _, rfl, hR1.ins, rfl, _, rfl, g, C, R, v, d, rfl, hC, ⟨dx, lo, hd, hh, kvs, hs, hR1⟩, W, hv.mono S1, fun n hn H2 S2 => ?_, fun h => (q2 h).mono S1⟩
    obtain ⟨hm, hlt, hat, _⟩ := isB_mem W hn
    refine ⟨u, R.r, R.o.idxOf n, rfl, hu.mono S2, W.good, hlt, fun b H4 hb S4 hB => ?_⟩
    have S3 := (S1.trans S2).trans S4
    have hR3 := hR.mono S3
    refine ⟨b, rfl, ⟨_, hB⟩, fun D hD => ?_⟩
    have hlen : (kidsL R.r (R.o.idxOf n)).length ≤ 100 := by unfold kidsL; rw [List.length_map, List.length_range]; have := dn_le W.good (R.o.idxOf n); omega
    refine lcm (K := K) (walk_list (K := K) (a := b) (xs := (zs (kidsL R.r (R.o.idxOf n))).map V.int)) ((kidsOf R n).map fun k => .int (k : Nat)) (by unfold zs kidsOf; rw [List.length_map, List.length_map, List.length_map, List.length_map]) (by unfold zs; rw [List.length_map, List.length_map]; omega) hD (fun d h => ?_) (fun _ S => same_l S hB) (fun i x H5 H5' d' hi S y => ?_) gname_mono (fun H5 acc S5 hD5 hP => ?_)
    · obtain ⟨c, _, rfl⟩ := List.mem_map.mp h
      rfl
    · obtain ⟨rfl, hx⟩ := y
      rw [List.getElem?_map] at hx
      cases hc : (kidsL R.r (R.o.idxOf n))[i]? with
      | none =>
        unfold zs at hx
        rw [List.getElem?_map, hc] at hx
        cases hx
      | some c =>
        rw [zs_get hc] at hx
        have e := Option.some.inj hx
        subst e
        have hcl : c < R.o.length := by
          rw [W.len]
          exact kidsL_lt W.good.ne (List.mem_of_getElem? hc)
        have hd' : d' = .int ((R.o.getD c 0 : Nat) : Int) := by
          unfold kidsOf at hi
          rw [List.getElem?_map, List.getElem?_map, hc] at hi
          exact (Option.some.inj hi).symm
        subst hd'
        have hpo : R.o[c]? = some (R.o.getD c 0) := by
          rw [List.getD_eq_getElem?_getD, List.getElem?_eq_getElem hcl]
          rfl
        refine ⟨Same.refl _, fun Qy hy => ⟨rfl, _, rfl, g, C, dx, _, _, rfl, S _ _ hR3.ins, T.cls hC, T.n_order hC, rfl, _, rfl, lo, _, _, .int ((R.o.getD c 0 : Nat) : Int), rfl, rfl, .inl (.inl (S _ _ hR3.ord)), atI_nat (by rw [List.getElem?_map, zs_get hpo]; rfl), hy _ _ (Same.refl _) (.int _)⟩⟩
    · have e1 : acc = (zs (kidsOf R n)).map V.int := by
        have hP' : DpAll K H5 acc ((zs (kidsOf R n)).map PyData.int) := by
          unfold zs
          rw [List.map_map]
          exact hP
        exact hP'.ints
      rw [e1] at hD5
      exact q1 n hn D H5 (S3.free hD) (S3.trans S5) hD5
theorem ok_Ring_arc (T : Txt K mg) : FO P w K mg base (L2.CX P w) 6 (a_Ring_arc K) ["self", "number"] (spKidM K arcOf) := by
  refine T.d_Ring_arc.ok sc_Ring_arc (fun vs H Q E h => ?_) (fun cdv A outer s H vs Q E hr h => ?_)
  · obtain ⟨g, C, R, v, d, rfl, _⟩ := h
    rfl
  · obtain ⟨g, C, R, v, d, rfl, hC, ⟨dx, lo, hd, hh, kvs, hs, hR⟩, W, hv, q1, q2⟩ := h
    have G_Ring_chain := ok_Ring_chain (P := P) (w := w) (base := base) T
    have G_Ring_place := ok_Ring_place (P := P) (w := w) (base := base) T
    have G_arc_arcs := ok_arc_arcs (P := P) (w := w) (base := base) T
    refine ⟨_, (pss_one (ps_ret (pe_lc (own := [("at", 2)]) (g := gName 2) rfl sc_Ring_arc.nd (pi_list (pe_call G_arc_arcs (hr.mono (by decide)) rfl T.g_arc_arcs T.d_arc_arcs.kp T.b_arc_arcs .nil passE (pa_cons (pe_meth0 (pv 0) (T.cls hC) (T.mt_chain hC) G_Ring_chain (hr.mono (by decide)) T.b_Ring_chain .nil passE) (pa_cons (pe_meth (pv 0) (T.cls hC) (T.mt_place hC) G_Ring_place (hr.mono (by decide)) T.b_Ring_place .nil passE (pa_cons (pv 1) pa_nil)) pa_nil)))) (blkOk_by (own := [("at", 2)]) (N := ["self", "number", "at"]) (sc := defScope s_Ring_arc) (by decide +kernel)) (fun _ _ _ _ _ => pg_name (i := 2) sc_Ring_arc.nd rfl (Or.inl rfl)) (fun _ _ _ _ _ => pts_nil) (fun _ _ _ _ _ => (pe_ix (ix_listK (K := K)) (pe_fldK (K := K) (pv 0) rfl) (pv 2) (fun _ _ => rfl)))))), ?_⟩
    refine ⟨_, rfl, g, dx, _, rfl, hR.ins, rfl, g, C, R, rfl, hC, ⟨dx, lo, hd, hh, kvs, hs, hR⟩, W, fun u H1 S1 hu => ?_⟩
    have hR1 := hR.mono S1
    refine ⟨_, rfl, g, dx, _, rfl, hR1.ins, rfl, _, rfl, g, C, R, v, d, rfl, hC, ⟨dx, lo, hd, hh, kvs, hs, hR1⟩, W, hv.mono S1, fun n hn H2 S2 => ?_, fun h => (q2 h).mono S1⟩
    obtain ⟨hm, hlt, hat, _⟩ := isB_mem W hn
    refine ⟨u, R.r, R.o.idxOf n, rfl, hu.mono S2, W.good, hlt, fun v4 H4 S4 hv4 => ?_⟩
    obtain ⟨b, rfl, hB⟩ := hv4
    have S3 := (S1.trans S2).trans S4
    have hR3 := hR.mono S3
    refine ⟨b, rfl, ⟨_, hB⟩, fun D hD => ?_⟩
    have hlen : (arcL R.r (R.o.idxOf n)).length ≤ 100 := by rw [arcL_len]; have := arcLen_le R.r (R.o.idxOf n); have := W.good.le; omega
    refine lcm (K := K) (walk_list (K := K) (a := b) (xs := (zs (arcL R.r (R.o.idxOf n))).map V.int)) ((arcOf R n).map fun k => .int (k : Nat)) (by unfold zs arcOf; rw [List.length_map, List.length_map, List.length_map, List.length_map]) (by unfold zs; rw [List.length_map, List.length_map]; omega) hD (fun d h => ?_) (fun _ S => same_l S hB) (fun i x H5 H5' d' hi S y => ?_) gname_mono (fun H5 acc S5 hD5 hP => ?_)
    · obtain ⟨c, _, rfl⟩ := List.mem_map.mp h
      rfl
    · obtain ⟨rfl, hx⟩ := y
      rw [List.getElem?_map] at hx
      cases hc : (arcL R.r (R.o.idxOf n))[i]? with
      | none =>
        unfold zs at hx
        rw [List.getElem?_map, hc] at hx
        cases hx
      | some c =>
        rw [zs_get hc] at hx
        have e := Option.some.inj hx
        subst e
        have hcl : c < R.o.length := by
          rw [W.len]
          exact arcL_lt W.good.ne (List.mem_of_getElem? hc)
        have hd' : d' = .int ((R.o.getD c 0 : Nat) : Int) := by
          unfold arcOf at hi
          rw [List.getElem?_map, List.getElem?_map, hc] at hi
          exact (Option.some.inj hi).symm
        subst hd'
        have hpo : R.o[c]? = some (R.o.getD c 0) := by
          rw [List.getD_eq_getElem?_getD, List.getElem?_eq_getElem hcl]
          rfl
        refine ⟨Same.refl _, fun Qy hy => ⟨rfl, _, rfl, g, C, dx, _, _, rfl, S _ _ hR3.ins, T.cls hC, T.n_order hC, rfl, _, rfl, lo, _, _, .int ((R.o.getD c 0 : Nat) : Int), rfl, rfl, .inl (.inl (S _ _ hR3.ord)), atI_nat (by rw [List.getElem?_map, zs_get hpo]; rfl), hy _ _ (Same.refl _) (.int _)⟩⟩
    · have e1 : acc = (zs (arcOf R n)).map V.int := by
        have hP' : DpAll K H5 acc ((zs (arcOf R n)).map PyData.int) := by
          unfold zs
          rw [List.map_map]
          exact hP
        exact hP'.ints
      rw [e1] at hD5
      exact q1 n hn D H5 (S3.free hD) (S3.trans S5) hD5
theorem ok_Ring_numbers (T : Txt K mg) : FO P w K mg base (L2.CX P w) 1 (a_Ring_numbers K) ["self"] (spNums K) := by
  refine T.d_Ring_numbers.ok sc_Ring_numbers (fun vs H Q E h => ?_) (fun cdv A outer s H vs Q E hr h => ?_)
  · obtain ⟨g, C, R, rfl, _⟩ := h
    rfl
  · obtain ⟨g, C, R, rfl, hC, ⟨dx, lo, hd, hh, kvs, hs, hR⟩, W, hI, q⟩ := h
    refine ⟨_, (pss_cons (ps_set (i := 1) sc_Ring_numbers.nd rfl (Or.inl rfl) (pe_bm PySem.F.plainAttrs_list PySem.F.slot_list_index PySem.F.type_list_index mt_index (pe_fld (pv 0) rfl) (pa_cons (pe_callB (id := "min") (cr_min rfl) (by rfl) T.f_min (by decide +kernel) (pa_cons (pe_fld (pv 0) rfl) pa_nil)) pa_nil))) (pss_one (ps_ret (pe_callTy (T := "tuple") call_tuple_of (by rfl) T.f_tuple (by decide +kernel) (pa_cons (pe_op op_cat (pe_slice sl_list (pe_fld (pv 0) rfl) (po_some (pv 1)) po_none) (pe_slice sl_list (pe_fld (pv 0) rfl) po_none (po_some (pv 1)))) pa_nil))))), ?_⟩
    have hl := W.len
    have h1 := W.good.ne
    have h100 := W.good.le
    have h0 : R.o[0]? = some 0 := by rw [hI, List.getElem?_range (by omega)]
    have zl : (zs R.o).length = R.r.length := by unfold zs; rw [List.length_map, hl]
    refine ⟨_, rfl, g, C, dx, _, _, rfl, hR.ins, T.cls hC, T.n_order hC, rfl, .inl ⟨rfl, _, .inl (.inl hR.ord)⟩, _, rfl, g, C, dx, _, _, rfl, hR.ins, T.cls hC, T.n_order hC, rfl, lo, zs R.o, rfl, .inl (.inl hR.ord), by omega, fun m hm hle => ?_⟩
    have em : m = 0 := by
      have h2 := hle 0 (List.mem_of_getElem? (zs_get h0))
      unfold zs at hm
      obtain ⟨k, _, rfl⟩ := List.mem_map.mp hm
      omega
    subst em
    refine ⟨lo, _, .int 0, 0, .int 0, rfl, rfl, .inl (.inl hR.ord), rfl, flat_ints _, by rw [List.getElem?_map, zs_get h0]; rfl, rfl, fun m z hm => by omega, ?_⟩
    refine ⟨_, rfl, g, C, dx, _, _, rfl, hR.ins, T.cls hC, T.n_order hC, rfl, _, rfl, _, rfl, np ?_⟩
    refine sll_go (lo := some ((0 : Nat) : Int)) (.inl (.inl hR.ord)) fun b H1 hb S1 hB => ?_
    have hR1 := hR.mono S1
    refine ⟨_, rfl, g, C, dx, _, _, rfl, hR1.ins, T.cls hC, T.n_order hC, rfl, np ⟨_, rfl, _, rfl, ?_⟩⟩
    refine sll_go (hi := some ((0 : Nat) : Int)) (.inl (.inl hR1.ord)) fun c H2 hc S2 hC2 => ?_
    rw [cut_drop (by omega)] at hB
    rw [cut_take (by omega)] at hC2
    refine ⟨b, c, _, _, rfl, rfl, S2 _ _ hB, hC2, ?_, fun p hp => ⟨p, _, rfl, .inl ⟨.inl (.inl upd_same), fun l hl => ?_⟩⟩⟩
    · rw [List.drop_zero, List.take_zero, List.length_map, zl]
      exact le_line (by show R.r.length + 0 ≤ _; omega)
    · have S3 : Same H (upd (upd H2 p (.lst (((zs R.o).map V.int).drop 0 ++ ((zs R.o).map V.int).take 0))) l (.tup (((zs R.o).map V.int).drop 0 ++ ((zs R.o).map V.int).take 0))) := ((S1.trans S2).trans (same_new hp)).trans (same_new hl)
      refine q _ _ S3 (.tup (SqT.of upd_same) ?_)
      rw [List.drop_zero, List.take_zero, List.append_nil, ← hI]
      exact DpAll.of_ints
theorem ok_Ring_row (T : Txt K mg) : FO P w K mg base (L2.CX P w) 4 (a_Ring_row K) ["self", "first"] (spRowM K) := by
  refine T.d_Ring_row.ok sc_Ring_row (fun vs H Q E h => ?_) (fun cdv A outer s H vs Q E hr h => ?_)
  · obtain ⟨g, C, R, v, rfl, _⟩ := h
    rfl
  · obtain ⟨g, C, R, v, rfl, hC, ⟨dx, lo, hd, hh, kvs, hs, hR⟩, W, q0⟩ := h
    have G_Ring_chain := ok_Ring_chain (P := P) (w := w) (base := base) T
    have G_Ring_place := ok_Ring_place (P := P) (w := w) (base := base) T
    refine ⟨_, (pss_cons (ps_set (i := 2) sc_Ring_row.nd rfl (Or.inl rfl) (pe_ifExp (pt_cmpR op_isN (pv 1) pe_non (nomark _)) (pe_callB (id := "min") (cr_min rfl) (by rfl) T.f_min (by decide +kernel) (pa_cons (pe_fld (pv 0) rfl) pa_nil)) (pv 1))) (pss_cons (ps_set (i := 3) sc_Ring_row.nd rfl (Or.inl rfl) (pe_meth (pv 0) (T.cls hC) (T.mt_place hC) G_Ring_place (hr.mono (by decide)) T.b_Ring_place .nil passE (pa_cons (pv 2) pa_nil))) (pss_cons (ps_set (i := 4) sc_Ring_row.nd rfl (Or.inl rfl) (pe_meth0 (pv 0) (T.cls hC) (T.mt_chain hC) G_Ring_chain (hr.mono (by decide)) T.b_Ring_chain .nil passE)) (pss_one (ps_ret (pe_op op_catA (pe_slice sl_tupA (pv 4) (po_some (pv 3)) po_none) (pe_slice sl_tupA (pv 4) po_none (po_some (pv 3))))))))), ?_⟩
    have hl := W.len
    have h1 := W.good.ne
    have h100 := W.good.le
    have zl : (zs R.o).length = R.r.length := by unfold zs; rw [List.length_map, hl]
    rcases q0 with ⟨rfl, hI, q⟩ | ⟨d, hv, hne, q1, q2⟩
    · have h0 : R.o[0]? = some 0 := by rw [hI, List.getElem?_range (by omega)]
      refine ⟨_, rfl, rfl, _, rfl, iteT ?_⟩
      refine ⟨_, rfl, g, C, dx, _, _, rfl, hR.ins, T.cls hC, T.n_order hC, rfl, lo, zs R.o, rfl, .inl (.inl hR.ord), by omega, fun m hm hle => ?_⟩
      have em : m = 0 := by
        have h2 := hle 0 (List.mem_of_getElem? (zs_get h0))
        unfold zs at hm
        obtain ⟨k, _, rfl⟩ := List.mem_map.mp hm
        omega
      subst em
      refine ⟨_, rfl, g, dx, _, rfl, hR.ins, rfl, _, rfl, g, C, R, _, .int ((0 : Nat) : Int), rfl, hC, ⟨dx, lo, hd, hh, kvs, hs, hR⟩, W, .inl (.int _), fun n hn H1 S1 => ?_, fun h => ?_⟩
      · obtain ⟨hm, hlt, hat, _⟩ := isB_mem W hn
        have hR1 := hR.mono S1
        refine ⟨_, rfl, g, dx, _, rfl, hR1.ins, rfl, g, C, R, rfl, hC, ⟨dx, lo, hd, hh, kvs, hs, hR1⟩, W, fun t H2 S2 ht => ?_⟩
        obtain ⟨a, xs, rfl, hT, hA⟩ := ht.tupI
        have hx : xs.length = R.r.length := by rw [hA.len, rowD_len]
        refine ⟨_, rfl, _, rfl, _, rfl, np ?_⟩
        refine slt_go hT fun b H3 S3 hB => ?_
        refine ⟨_, rfl, np ⟨_, rfl, _, rfl, ?_⟩⟩
        refine slt_go (same_t S3 hT) fun c H4 S4 hC4 => ?_
        rw [cut_drop (by omega)] at hB
        rw [cut_take (by omega)] at hC4
        refine cat_go (same_t S4 hB) hC4 (by rw [List.length_drop, List.length_take]; omega) fun f H5 S5 hF => ?_
        have S6 := ((S1.trans S2).trans S3).trans (S4.trans S5)
        refine q _ _ S6 (.tup hF ?_)
        have e0 : R.o.idxOf n = 0 := by
          obtain ⟨e, _⟩ := isB_int hn
          have e' : ((0 : Nat) : Int) = ((n : Nat) : Int) := PyData.int.inj e
          have e2 : n = 0 := by omega
          subst e2
          exact hI.idx (by omega)
        have er : rot R.r (R.o.idxOf n) = R.r := by rw [e0]; unfold rot; rw [List.drop_zero, List.take_zero, List.append_nil]
        rw [← er]
        have hA5 := hA.mono ((S3.trans S4).trans S5)
        have e : rowD (rot R.r (R.o.idxOf n)) = (rowD R.r).drop (R.o.idxOf n) ++ (rowD R.r).take (R.o.idxOf n) := by
          unfold rowD rot
          rw [List.map_append, List.map_drop, List.map_take]
        rw [e]
        exact (hA5.drop _).append (hA5.take _)
      · exact absurd h (by
          obtain ⟨b, _, hb⟩ := W.at h0
          show ¬ (if (0 : Int) ≤ ((0 : Nat) : Int) ∧ (R.he 0).isSome = true then some 0 else none) = none
          rw [if_pos ⟨by omega, by rw [hb]; rfl⟩]
          exact fun z => by cases z)
    · refine ⟨_, rfl, rfl, _, rfl, ?_⟩
      rw [decide_eq_false hne]
      refine iteF ⟨_, rfl, ?_⟩
      refine ⟨_, rfl, g, dx, _, rfl, hR.ins, rfl, _, rfl, g, C, R, _, d, rfl, hC, ⟨dx, lo, hd, hh, kvs, hs, hR⟩, W, hv, fun n hn H1 S1 => ?_, q2⟩
      obtain ⟨hm, hlt, hat, _⟩ := isB_mem W hn
      have hR1 := hR.mono S1
      refine ⟨_, rfl, g, dx, _, rfl, hR1.ins, rfl, g, C, R, rfl, hC, ⟨dx, lo, hd, hh, kvs, hs, hR1⟩, W, fun t H2 S2 ht => ?_⟩
      obtain ⟨a, xs, rfl, hT, hA⟩ := ht.tupI
      have hx : xs.length = R.r.length := by rw [hA.len, rowD_len]
      refine ⟨_, rfl, _, rfl, _, rfl, np ?_⟩
      refine slt_go hT fun b H3 S3 hB => ?_
      refine ⟨_, rfl, np ⟨_, rfl, _, rfl, ?_⟩⟩
      refine slt_go (same_t S3 hT) fun c H4 S4 hC4 => ?_
      rw [cut_drop (by omega)] at hB
      rw [cut_take (by omega)] at hC4
      refine cat_go (same_t S4 hB) hC4 (by rw [List.length_drop, List.length_take]; omega) fun f H5 S5 hF => ?_
      have S6 := ((S1.trans S2).trans S3).trans (S4.trans S5)
      refine q1 n hn _ _ S6 (.tup hF ?_)
      have hA5 := hA.mono ((S3.trans S4).trans S5)
      have e : rowD (rot R.r (R.o.idxOf n)) = (rowD R.r).drop (R.o.idxOf n) ++ (rowD R.r).take (R.o.idxOf n) := by
        unfold rowD rot
        rw [List.map_append, List.map_drop, List.map_take]
      rw [e]
      exact (hA5.drop _).append (hA5.take _)
end
end Bt

namespace Bt
open PySem PySem.Spec PyProof.Rows L2
section
variable {K : PySem.W.Frag} {x qual : Str} {params : Arguments} {body : List Stmt} {scope : Scope} {dvs : List V} {kws : List (Str × V)} {f : Addr} {fd : FuncData} {ps : List Str}
/-- f(e, .., k = v, ..): defaults stand, keyword-only parameters without defaults, all given -/
theorem kbinds1 (F : FunD K x qual params body scope dvs kws f fd) (n : Nat) (ks : List Str) (g : {α : Type} → List α → List α → List α → List α) (hd : dvs ≠ [])
    (hrel : ∀ {vs ds zs : List V} {us its ws : List Value}, Vals vs us → Vals ds its → Vals zs ws → Vals (g vs ds zs) (g us its ws))
    (h : ∀ (T : Addr) (kV doc pm : Value) (an : Option Addr) (cdv ct : Value) (us its ws : List Value), us.length = n → its.length = dvs.length → ws.length = ks.length →
      ∃ k, bindArgs (PySem.W.fnOf x qual params body scope (.ref T) kV doc pm an cdv ct) ⟨us, ks.zip ws⟩ = seqItems? (.ref T) >>= k ∧ k (some its.toArray) = pure (ps.zip (g us its ws))) :
    ∃ its : List Value, KBn K fd ps n ks (fun us ws => g us its ws) (fun vs zs => g vs dvs zs) := by
  obtain ⟨oc, od, dV, kV, doc, pm, an, cdv, ct, osl, rfl, lk, hcd, hD, hK⟩ := F.ex
  rcases hD with ⟨e, _⟩ | ⟨_, T, o, its, m, rfl, lT, oT, rT⟩
  · exact absurd e hd
  · refine ⟨its, ⟨fun s us ws X l1 l2 => ?_, fun r1 r2 => hrel r1 rT r2⟩⟩
    obtain ⟨k, e1, e2⟩ := h T kV doc pm an cdv ct us its ws l1 rT.length.symm l2
    refine BindsTo.of_looks fun M => ?_
    rw [e1]
    exact looks_items X lT oT (.of_pure e2)
end
section
variable {K : PySem.W.Frag} {mg : Str → Option Value}
theorem b_row0 (T : Txt K mg) : ∃ ds, Vals [V.non] ds ∧ Binds K (fdAt K (a_Ring_row K)) ["self", "first"] ds :=
  T.d_Ring_row.binds0 1 (by simp) rfl fun D doc pm an cdv ct us ks h1 h2 => match us, h1, ks, h2 with
    | [_], _, [_], _ => ⟨_, _, _, _, _, _, rfl, rfl, rfl⟩
theorem b_rowK (T : Txt K mg) : ∃ mv : List Value, KBn K (fdAt K (a_Ring_row K)) ["self", "first"] 1 ["first"] (fun us ws => us ++ ws) (fun vs zs => vs ++ zs) :=
  T.d_Ring_row.kbinds0 1 ["first"] [] (fun {α} us mv ws => us ++ ws) (by simp) (by simp) (fun r1 _ r2 => r1.append r2) fun D doc pm an cdv ct us mv ws h1 h2 h3 => match us, h1, ws, h3, mv, h2 with
    | [_], _, [_], _, [], _ => rfl
theorem b_slide0 (T : Txt K mg) : ∃ ds, Vals [V.bl false] ds ∧ Binds K (fdAt K (a_Ring_slide K)) ["self", "first", "many", "behind", "turned"] ds :=
  T.d_Ring_slide.binds0 4 (by simp) rfl fun D doc pm an cdv ct us ks h1 h2 => match us, h1, ks, h2 with
    | [_, _, _, _], _, [_], _ => ⟨_, _, _, _, _, _, rfl, rfl, rfl⟩
theorem b_init0 (T : Txt K mg) : ∃ ds, Vals [V.int 100] ds ∧ Binds K (fdAt K (a_RingU_initU K)) ["self", "beads", "most"] ds :=
  T.d_RingU_initU.binds0 2 (by simp) rfl fun D doc pm an cdv ct us ks h1 h2 => match us, h1, ks, h2 with
    | [_, _], _, [_], _ => ⟨_, _, _, _, _, _, rfl, rfl, rfl⟩
theorem b_initK (T : Txt K mg) : ∃ mv : List Value, KBn K (fdAt K (a_RingU_initU K)) ["self", "beads", "most"] 2 ["most"] (fun us ws => us ++ ws) (fun vs zs => vs ++ zs) :=
  T.d_RingU_initU.kbinds0 2 ["most"] [] (fun {α} us mv ws => us ++ ws) (by simp) (by simp) (fun r1 _ r2 => r1.append r2) fun D doc pm an cdv ct us mv ws h1 h2 h3 => match us, h1, ws, h3, mv, h2 with
    | [_, _], _, [_], _, [], _ => rfl
theorem b_put2 (T : Txt K mg) : ∃ its : List Value, KBn K (fdAt K (a_Ring_put K)) ["self", "name", "arms", "behind"] 2 ["behind"] (fun us ws => us ++ its ++ ws) (fun vs zs => vs ++ [V.int 0] ++ zs) :=
  kbinds1 T.d_Ring_put 2 ["behind"] (fun {α} us its ws => us ++ its ++ ws) (by simp) (fun r1 r2 r3 => (r1.append r2).append r3) fun TT kV doc pm an cdv ct us its ws h1 h2 h3 => match us, h1, its, h2, ws, h3 with
    | [_, _], _, [_], _, [_], _ => ⟨_, rfl, rfl⟩
theorem b_put3 (T : Txt K mg) : ∃ its : List Value, KBn K (fdAt K (a_Ring_put K)) ["self", "name", "arms", "behind"] 3 ["behind"] (fun us ws => us ++ ws) (fun vs zs => vs ++ zs) :=
  kbinds1 T.d_Ring_put 3 ["behind"] (fun {α} us its ws => us ++ ws) (by simp) (fun r1 r2 r3 => r1.append r3) fun TT kV doc pm an cdv ct us its ws h1 h2 h3 => match us, h1, its, h2, ws, h3 with
    | [_, _, _], _, [_], _, [_], _ => ⟨_, rfl, rfl⟩
end
end Bt

namespace Bt
open PySem PySem.Spec PyProof.Rows L2
/-! ### the ring's refusals -/
def XE (K : PySem.W.Frag) (x : Str) (H : Hp) (E : XK) : Prop := ∀ H', Same H H' → E (.ref (He.ga K x)) none H'
theorem XE.mono {K : PySem.W.Frag} {x : Str} {H H' : Hp} {E : XK} (h : XE K x H E) (S : Same H H') : XE K x H' E := fun H2 S2 => h H2 (S.trans S2)
def FUx (K : PySem.W.Frag) (v : V) (H : Hp) (E : XK) : Prop := ∀ x H', H x = none → Same H H' → H' x = some (.xd [("most", v)]) → E (.ref (He.ga K "Full")) (some x) H'
theorem FUx.mono {K : PySem.W.Frag} {v : V} {H H' : Hp} {E : XK} (h : FUx K v H E) (S : Same H H') : FUx K v H' E := fun x H2 hx S2 e => h x H2 (S.free hx) (S.trans S2) e
def spExchX (K : PySem.W.Frag) : Sp := fun vs H Q E => ∃ g C R a da n b db, vs = [.ref g, a, b] ∧ IsRing K C ∧ Rg K H g C R ∧ RgW R ∧ TD K H a da ∧ isB R da = some n ∧ TD K H b db ∧ isB R db = none ∧ NBx K b H E
def spRunX (K : PySem.W.Frag) : Sp := fun vs H Q E => ∃ g C R a da n, vs = [.ref g, a, .int 0] ∧ IsRing K C ∧ Rg K H g C R ∧ RgW R ∧ TD K H a da ∧ isB R da = some n ∧ XE K "NoRun" H E
def spSlideX (K : PySem.W.Frag) : Sp := fun vs H Q E => ∃ g C R a da n, vs = [.ref g, a, .int 0, a, .bl false] ∧ IsRing K C ∧ Rg K H g C R ∧ RgW R ∧ TD K H a da ∧ isB R da = some n ∧ XE K "NoRun" H E
def spNoB (K : PySem.W.Frag) : Sp := fun vs H Q E => ∃ g C R a da, vs = [.ref g, a] ∧ IsRing K C ∧ Rg K H g C R ∧ RgW R ∧ TD K H a da ∧ isB R da = none ∧ NBx K a H E
def spPutX (K : PySem.W.Frag) : Sp := fun vs H Q E => ∃ g C R nv dn k b db, vs = [.ref g, nv, .int k, b] ∧ IsRing K C ∧ Rg K H g C R ∧ RgW R ∧ TD K H nv dn ∧ small dn = true ∧ TD K H b db ∧ ((dName dn = false ∧ XE K "NoName" H E) ∨ (dName dn = true ∧ k < 0 ∧ XE K "NoNumber" H E) ∨ (dName dn = true ∧ 0 ≤ k ∧ isB R db = none ∧ NBx K b H E))
section
variable {P : Program} {w : World} {K : PySem.W.Frag} {mg : Str → Option Value} {base : Heap}
theorem ok_Ring_exchange (T : Txt K mg) : FO P w K mg base (L2.CX P w) 4 (a_Ring_exchange K) ["self", "a", "b"] (spExchX K) := by
  refine T.d_Ring_exchange.ok sc_Ring_exchange (fun vs H Q E h => ?_) (fun cdv A outer s H vs Q E hr h => ?_)
  · obtain ⟨g, C, R, a, da, n, b, db, rfl, _⟩ := h
    rfl
  · obtain ⟨g, C, R, a, da, n, b, db, rfl, hC, ⟨dx, lo, hd, hh, kvs, hs, hR⟩, W, ha, hn, hb, hbn, q⟩ := h
    have G_Ring_place := ok_Ring_place (P := P) (w := w) (base := base) T
    refine ⟨_, (pss_cons (ps_par (i := 3) (j := 4) (by rfl) sc_Ring_exchange.nd rfl rfl (by decide) rfl rfl (pa_cons (pe_meth (pv 0) (T.cls hC) (T.mt_place hC) G_Ring_place (hr.mono (by decide)) T.b_Ring_place .nil passE (pa_cons (pv 1) pa_nil)) (pa_cons (pe_meth (pv 0) (T.cls hC) (T.mt_place hC) G_Ring_place (hr.mono (by decide)) T.b_Ring_place .nil passE (pa_cons (pv 2) pa_nil)) pa_nil)) (by rfl)) pss_never), ?_⟩
    refine ⟨_, rfl, g, dx, _, rfl, hR.ins, rfl, _, rfl, g, C, R, a, da, rfl, hC, ⟨dx, lo, hd, hh, kvs, hs, hR⟩, W, ha, fun m hm H1 S1 => ?_, fun h => absurd (h.symm.trans hn) (fun z => by cases z)⟩
    have hR1 := hR.mono S1
    exact ⟨_, rfl, g, dx, _, rfl, hR1.ins, rfl, _, rfl, g, C, R, b, db, rfl, hC, ⟨dx, lo, hd, hh, kvs, hs, hR1⟩, W, hb.mono S1, fun m hm => absurd (hm.symm.trans hbn) (fun z => by cases z), fun _ => q.mono S1⟩
theorem ok_Ring_run_of (T : Txt K mg) : FO P w K mg base (L2.CX P w) 4 (a_Ring_run_of K) ["self", "first", "many"] (spRunX K) := by
  refine T.d_Ring_run_of.ok sc_Ring_run_of (fun vs H Q E h => ?_) (fun cdv A outer s H vs Q E hr h => ?_)
  · obtain ⟨g, C, R, a, da, n, rfl, _⟩ := h
    rfl
  · obtain ⟨g, C, R, a, da, n, rfl, hC, ⟨dx, lo, hd, hh, kvs, hs, hR⟩, W, ha, hn, q⟩ := h
    have G_Ring_place := ok_Ring_place (P := P) (w := w) (base := base) T
    have G_is_count := ok_is_count (P := P) (w := w) (base := base) T
    refine ⟨_, (pss_cons (ps_set (i := 3) sc_Ring_run_of.nd rfl (Or.inl rfl) (pe_meth (pv 0) (T.cls hC) (T.mt_place hC) G_Ring_place (hr.mono (by decide)) T.b_Ring_place .nil passE (pa_cons (pv 1) pa_nil))) (pss_cons (ps_if (pt_not (pt_val (pe_call G_is_count (hr.mono (by decide)) rfl T.g_is_count T.d_is_count.kp T.b_is_count .nil passE (pa_cons (pv 2) (pa_cons pe_int (pa_cons (pe_op op_sub (pe_callB (id := "len") call_len (by rfl) T.f_len (by decide +kernel) (pa_cons (pe_fld (pv 0) rfl) pa_nil)) pe_int) pa_nil)))))) (pss_one (ps_raise rfl (takes_of rfl rfl rfl rfl) (pmk_own PySem.F.excBase_ValueError T.x_NoRun T.g_NoRun T.xk_NoRun (raises_own T.xs_NoRun T.xt_NoRun) rfl))) pss_nil) pss_never)), ?_⟩
    refine ⟨_, rfl, g, dx, _, rfl, hR.ins, rfl, _, rfl, g, C, R, a, da, rfl, hC, ⟨dx, lo, hd, hh, kvs, hs, hR⟩, W, ha, fun m hm H1 S1 => ?_, fun h => absurd (h.symm.trans hn) (fun z => by cases z)⟩
    have hR1 := hR.mono S1
    exact ⟨_, rfl, _, rfl, g, C, dx, _, _, rfl, hR1.ins, T.cls hC, T.n_order hC, rfl, _, _, rfl, .inl ⟨_, .inl (.inl hR1.ord), rfl⟩, _, _, rfl, rfl, _, .int 0, 1, _, rfl, .inl (.int 0), _, rfl, iteT (q.mono S1 _ (Same.refl _))⟩
theorem ok_Ring_slide (T : Txt K mg) : FO P w K mg base (L2.CX P w) 5 (a_Ring_slide K) ["self", "first", "many", "behind", "turned"] (spSlideX K) := by
  refine T.d_Ring_slide.ok sc_Ring_slide (fun vs H Q E h => ?_) (fun cdv A outer s H vs Q E hr h => ?_)
  · obtain ⟨g, C, R, a, da, n, rfl, _⟩ := h
    rfl
  · obtain ⟨g, C, R, a, da, n, rfl, hC, ⟨dx, lo, hd, hh, kvs, hs, hR⟩, W, ha, hn, q⟩ := h
    have G_Ring_place := ok_Ring_place (P := P) (w := w) (base := base) T
    have G_Ring_run_of := ok_Ring_run_of (P := P) (w := w) (base := base) T
    refine ⟨_, (pss_cons (ps_expr (pe_meth (pv 0) (T.cls hC) (T.mt_place hC) G_Ring_place (hr.mono (by decide)) T.b_Ring_place .nil passE (pa_cons (pv 1) pa_nil))) (pss_cons (ps_expr (pe_meth (pv 0) (T.cls hC) (T.mt_place hC) G_Ring_place (hr.mono (by decide)) T.b_Ring_place .nil passE (pa_cons (pv 3) pa_nil))) (pss_cons (ps_asg (pe_meth (pv 0) (T.cls hC) (T.mt_run_of hC) G_Ring_run_of (hr.mono (by decide)) T.b_Ring_run_of .nil passE (pa_cons (pv 1) (pa_cons (pv 2) pa_nil))) (pg_tup rfl (pgs_cons (pg_name (i := 5) sc_Ring_slide.nd rfl (Or.inl rfl)) (pgs_cons (pg_name (i := 6) sc_Ring_slide.nd rfl (Or.inl rfl)) pgs_nil)))) pss_never))), ?_⟩
    refine ⟨_, rfl, g, dx, _, rfl, hR.ins, rfl, _, rfl, g, C, R, a, da, rfl, hC, ⟨dx, lo, hd, hh, kvs, hs, hR⟩, W, ha, fun m hm H1 S1 => ?_, fun h => absurd (h.symm.trans hn) (fun z => by cases z)⟩
    have hR1 := hR.mono S1
    refine ⟨_, rfl, g, dx, _, rfl, hR1.ins, rfl, _, rfl, g, C, R, a, da, rfl, hC, ⟨dx, lo, hd, hh, kvs, hs, hR1⟩, W, ha.mono S1, fun m hm H2 S2 => ?_, fun h => absurd (h.symm.trans hn) (fun z => by cases z)⟩
    have S3 := S1.trans S2
    have hR2 := hR.mono S3
    exact ⟨_, rfl, g, dx, _, rfl, hR2.ins, rfl, _, rfl, _, rfl, g, C, R, a, da, n, rfl, hC, ⟨dx, lo, hd, hh, kvs, hs, hR2⟩, W, ha.mono S3, hn, q.mono S3⟩
theorem ok_Ring_loosen (T : Txt K mg) : FO P w K mg base (L2.CX P w) 4 (a_Ring_loosen K) ["self", "a"] (spNoB K) := by
  refine T.d_Ring_loosen.ok sc_Ring_loosen (fun vs H Q E h => ?_) (fun cdv A outer s H vs Q E hr h => ?_)
  · obtain ⟨g, C, R, a, da, rfl, _⟩ := h
    rfl
  · obtain ⟨g, C, R, b, db, rfl, hC, ⟨dx, lo, hd, hh, kvs, hs, hR⟩, W, hb, hbn, q⟩ := h
    have G_Ring_place := ok_Ring_place (P := P) (w := w) (base := base) T
    refine ⟨_, (pss_cons (ps_expr (pe_meth (pv 0) (T.cls hC) (T.mt_place hC) G_Ring_place (hr.mono (by decide)) T.b_Ring_place .nil passE (pa_cons (pv 1) pa_nil))) pss_never), ?_⟩
    exact ⟨_, rfl, g, dx, _, rfl, hR.ins, rfl, _, rfl, g, C, R, b, db, rfl, hC, ⟨dx, lo, hd, hh, kvs, hs, hR⟩, W, hb, fun m hm => absurd (hm.symm.trans hbn) (fun z => by cases z), fun _ => q⟩
theorem ok_Ring_bind (T : Txt K mg) : FO P w K mg base (L2.CX P w) 4 (a_Ring_bind K) ["self", "a"] (spNoB K) := by
  refine T.d_Ring_bind.ok sc_Ring_bind (fun vs H Q E h => ?_) (fun cdv A outer s H vs Q E hr h => ?_)
  · obtain ⟨g, C, R, a, da, rfl, _⟩ := h
    rfl
  · obtain ⟨g, C, R, b, db, rfl, hC, ⟨dx, lo, hd, hh, kvs, hs, hR⟩, W, hb, hbn, q⟩ := h
    have G_Ring_place := ok_Ring_place (P := P) (w := w) (base := base) T
    refine ⟨_, (pss_cons (ps_expr (pe_meth (pv 0) (T.cls hC) (T.mt_place hC) G_Ring_place (hr.mono (by decide)) T.b_Ring_place .nil passE (pa_cons (pv 1) pa_nil))) pss_never), ?_⟩
    exact ⟨_, rfl, g, dx, _, rfl, hR.ins, rfl, _, rfl, g, C, R, b, db, rfl, hC, ⟨dx, lo, hd, hh, kvs, hs, hR⟩, W, hb, fun m hm => absurd (hm.symm.trans hbn) (fun z => by cases z), fun _ => q⟩
theorem ok_Ring_take (T : Txt K mg) : FO P w K mg base (L2.CX P w) 4 (a_Ring_take K) ["self", "a"] (spNoB K) := by
  refine T.d_Ring_take.ok sc_Ring_take (fun vs H Q E h => ?_) (fun cdv A outer s H vs Q E hr h => ?_)
  · obtain ⟨g, C, R, a, da, rfl, _⟩ := h
    rfl
  · obtain ⟨g, C, R, b, db, rfl, hC, ⟨dx, lo, hd, hh, kvs, hs, hR⟩, W, hb, hbn, q⟩ := h
    have G_Ring_place := ok_Ring_place (P := P) (w := w) (base := base) T
    refine ⟨_, (pss_cons (ps_set (i := 2) sc_Ring_take.nd rfl (Or.inl rfl) (pe_meth (pv 0) (T.cls hC) (T.mt_place hC) G_Ring_place (hr.mono (by decide)) T.b_Ring_place .nil passE (pa_cons (pv 1) pa_nil))) pss_never), ?_⟩
    exact ⟨_, rfl, g, dx, _, rfl, hR.ins, rfl, _, rfl, g, C, R, b, db, rfl, hC, ⟨dx, lo, hd, hh, kvs, hs, hR⟩, W, hb, fun m hm => absurd (hm.symm.trans hbn) (fun z => by cases z), fun _ => q⟩
theorem ok_Ring_put (T : Txt K mg) : FO P w K mg base (L2.CX P w) 4 (a_Ring_put K) ["self", "name", "arms", "behind"] (spPutX K) := by
  refine T.d_Ring_put.ok sc_Ring_put (fun vs H Q E h => ?_) (fun cdv A outer s H vs Q E hr h => ?_)
  · obtain ⟨g, C, R, nv, dn, k, b, db, rfl, _⟩ := h
    rfl
  · obtain ⟨g, C, R, nv, dn, k, b, db, rfl, hC, ⟨dx, lo, hd, hh, kvs, hs, hR⟩, W, hnv, hsm, hb, q⟩ := h
    have G_Ring_place := ok_Ring_place (P := P) (w := w) (base := base) T
    have G_is_name := ok_is_name (P := P) (w := w) (base := base) T
    refine ⟨_, (pss_cons (ps_if (pt_not (pt_val (pe_call G_is_name (hr.mono (by decide)) rfl T.g_is_name T.d_is_name.kp T.b_is_name .nil passE (pa_cons (pv 1) pa_nil)))) (pss_one (ps_raise rfl (takes_of rfl rfl rfl rfl) (pmk_own PySem.F.excBase_ValueError T.x_NoName T.g_NoName T.xk_NoName (raises_own T.xs_NoName T.xt_NoName) rfl))) pss_nil) (pss_cons (ps_if (PW.pt (pw_or (pt_not (pt_val (pe_callB (id := "isinstance") call_isi (by rfl) T.f_isinstance (by decide +kernel) (pa_cons (pv 2) (pa_cons (pe_ty (n := "int") T.f_int) pa_nil))))) (pw_or (pt_val (pe_callB (id := "isinstance") call_isi (by rfl) T.f_isinstance (by decide +kernel) (pa_cons (pv 2) (pa_cons (pe_ty (n := "bool") T.f_bool) pa_nil)))) (pw_or1 (pt_cmpR op_lt (pv 2) pe_int (nomark _)))))) (pss_one (ps_raise rfl (takes_of rfl rfl rfl rfl) (pmk_own PySem.F.excBase_ValueError T.x_NoNumber T.g_NoNumber T.xk_NoNumber (raises_own T.xs_NoNumber T.xt_NoNumber) rfl))) pss_nil) (pss_cons (ps_set (i := 4) sc_Ring_put.nd rfl (Or.inl rfl) (pe_op op_add (pe_meth (pv 0) (T.cls hC) (T.mt_place hC) G_Ring_place (hr.mono (by decide)) T.b_Ring_place .nil passE (pa_cons (pv 3) pa_nil)) pe_int)) pss_never))), ?_⟩
    refine ⟨_, rfl, nv, dn, rfl, hnv, hsm, fun H1 S1 => ⟨_, rfl, ?_⟩⟩
    have hR1 := hR.mono S1
    rcases q with ⟨e, q⟩ | ⟨e, hk, q⟩ | ⟨e, hk, hbn, q⟩
    · rw [e]
      exact iteT (q H1 S1)
    · rw [e]
      refine iteF ?_
      refine ⟨_, rfl, _, _, _, _, _, rfl, .ty _, (show TyX K H1 (.int k) (.type "int") from (TD.ty (.inl (.int k)))), kit_int K (.int k), _, rfl, iteF ?_⟩
      refine ⟨_, rfl, _, _, _, _, _, rfl, .ty _, (show TyX K H1 (.int k) (.type "int") from (TD.ty (.inl (.int k)))), kit_bool K (.int k), _, rfl, iteF ?_⟩
      refine ⟨_, rfl, _, _, rfl, rfl, _, rfl, ?_⟩
      rw [decide_eq_true hk]
      exact iteT (q H1 S1)
    · rw [e]
      refine iteF ?_
      refine ⟨_, rfl, _, _, _, _, _, rfl, .ty _, (show TyX K H1 (.int k) (.type "int") from (TD.ty (.inl (.int k)))), kit_int K (.int k), _, rfl, iteF ?_⟩
      refine ⟨_, rfl, _, _, _, _, _, rfl, .ty _, (show TyX K H1 (.int k) (.type "int") from (TD.ty (.inl (.int k)))), kit_bool K (.int k), _, rfl, iteF ?_⟩
      refine ⟨_, rfl, _, _, rfl, rfl, _, rfl, ?_⟩
      rw [decide_eq_false (show ¬ k < 0 by omega)]
      refine iteF ?_
      exact ⟨_, rfl, g, dx, _, rfl, hR1.ins, rfl, _, rfl, g, C, R, b, db, rfl, hC, ⟨dx, lo, hd, hh, kvs, hs, hR1⟩, W, hb.mono S1, fun m hm => absurd (hm.symm.trans hbn) (fun z => by cases z), fun _ => q.mono S1⟩
end
end Bt

namespace Bt
open PySem PySem.Spec PyProof.Rows L2
def spRowF (K : PySem.W.Frag) (f : RS → Nat → Row) : Sp := fun vs H Q E => ∃ g C R v d, vs = [.ref g, v] ∧ IsRing K C ∧ Rg K H g C R ∧ RgW R ∧ TD K H v d ∧ (∀ n, isB R d = some n → ∀ u H', Same H H' → Dp K H' u (.tuple (rowD (f R n))) → Q u H') ∧ (isB R d = none → NBx K v H E)
def rowAt (R : RS) (n : Nat) : Row := rot R.r (R.o.idxOf n)
def rowBe (R : RS) (n : Nat) : Row := (rowAt R n).drop 1 ++ (rowAt R n).take 1
def spJoinX (K : PySem.W.Frag) : Sp := fun vs H Q E => ∃ g C R a da g' C' R' b db, vs = [.ref g, a, .ref g', b] ∧ IsRing K C ∧ Rg K H g C R ∧ RgW R ∧ TD K H a da ∧ IsRing K C' ∧ Rg K H g' C' R' ∧ RgW R' ∧ TD K H b db ∧
  ((isB R da = none ∧ NBx K a H E) ∨ ∃ n, isB R da = some n ∧ ((isB R' db = none ∧ NBx K b H E) ∨ ∃ m, isB R' db = some m ∧ 100 < R.r.length + R'.r.length ∧ FUx K (.int 100) H E))
def badSplit (r : Row) (m : Nat) : Prop := m ≤ arms (r.take m) ∨ r.length - m ≤ arms (r.drop m)
def spSplitX (K : PySem.W.Frag) : Sp := fun vs H Q E => ∃ g C R a da b db, vs = [.ref g, a, b] ∧ IsRing K C ∧ Rg K H g C R ∧ RgW R ∧ TD K H a da ∧ TD K H b db ∧
  ((isB R da = none ∧ NBx K a H E) ∨ ∃ n, isB R da = some n ∧ ((dCount db 1 ((R.r.length : Nat) - 1) = false ∧ XE K "NoRun" H E) ∨ ∃ m : Nat, db = .int (m : Nat) ∧ 1 ≤ m ∧ m < R.r.length ∧ badSplit (rowAt R n) m ∧ XE K "NoTree" H E))
section
variable {P : Program} {w : World} {K : PySem.W.Frag} {mg : Str → Option Value} {base : Heap}
theorem ok_row_from (T : Txt K mg) : FO P w K mg base (L2.CX P w) 5 (a_row_from K) ["ring", "number"] (spRowF K rowAt) := by
  refine T.d_row_from.ok sc_row_from (fun vs H Q E h => ?_) (fun cdv A outer s H vs Q E hr h => ?_)
  · obtain ⟨g, C, R, v, d, rfl, _⟩ := h
    rfl
  · obtain ⟨g, C, R, v, d, rfl, hC, ⟨dx, lo, hd, hh, kvs, hs, hR⟩, W, hv, q1, q2⟩ := h
    have G_Ring_bead := ok_Ring_bead (P := P) (w := w) (base := base) T
    have G_Ring_row := ok_Ring_row (P := P) (w := w) (base := base) T
    obtain ⟨mv, hkb⟩ := b_rowK T
    refine ⟨_, (pss_cons (ps_expr (pe_meth (pv 0) (T.cls hC) (T.mt_bead hC) G_Ring_bead (hr.mono (by decide)) T.b_Ring_bead .nil passE (pa_cons (pv 1) pa_nil))) (pss_one (ps_ret (pe_methN0 (pv 0) (T.cls hC) (T.mt_row hC) G_Ring_row (hr.mono (by decide)) hkb passE (pk_cons (pv 1) pk_nil))))), ?_⟩
    refine ⟨_, rfl, g, dx, _, rfl, hR.ins, rfl, _, rfl, g, C, R, v, d, rfl, hC, ⟨dx, lo, hd, hh, kvs, hs, hR⟩, W, hv, fun n hn u H1 S1 => ?_, q2⟩
    have hR1 := hR.mono S1
    refine ⟨_, rfl, g, dx, _, rfl, hR1.ins, rfl, _, rfl, rfl, rfl, g, C, R, v, rfl, hC, ⟨dx, lo, hd, hh, kvs, hs, hR1⟩, W, .inr ⟨d, hv.mono S1, ?_, fun n hn u H2 S2 hu => q1 n hn u H2 (S1.trans S2) hu, fun h => (q2 h).mono S1⟩⟩
    obtain ⟨rfl, _⟩ := isB_int hn
    rcases hv with hv | ⟨_, _, _, e⟩
    · rw [hv.intI]
      exact fun z => by cases z
    · cases e
theorem ok_row_behind (T : Txt K mg) : FO P w K mg base (L2.CX P w) 6 (a_row_behind K) ["ring", "number"] (spRowF K rowBe) := by
  refine T.d_row_behind.ok sc_row_behind (fun vs H Q E h => ?_) (fun cdv A outer s H vs Q E hr h => ?_)
  · obtain ⟨g, C, R, v, d, rfl, _⟩ := h
    rfl
  · obtain ⟨g, C, R, v, d, rfl, hC, hR, W, hv, q1, q2⟩ := h
    have G_row_from := ok_row_from (P := P) (w := w) (base := base) T
    refine ⟨_, (pss_cons (ps_set (i := 2) sc_row_behind.nd rfl (Or.inl rfl) (pe_call G_row_from (hr.mono (by decide)) rfl T.g_row_from T.d_row_from.kp T.b_row_from .nil passE (pa_cons (pv 0) (pa_cons (pv 1) pa_nil)))) (pss_one (ps_ret (pe_op op_catA (pe_slice sl_tupA (pv 2) (po_some pe_int) po_none) (pe_slice sl_tupA (pv 2) po_none (po_some pe_int)))))), ?_⟩
    refine ⟨_, rfl, _, rfl, g, C, R, v, d, rfl, hC, hR, W, hv, fun n hn t H1 S1 ht => ?_, q2⟩
    obtain ⟨a, xs, rfl, hT, hA⟩ := ht.tupI
    have h1 := W.good.ne
    have h100 := W.good.le
    have hl : (rowAt R n).length = R.r.length := rot_len _ _
    have hx : xs.length = R.r.length := by rw [hA.len, rowD_len, hl]
    refine ⟨_, rfl, _, rfl, np ?_⟩
    refine slt_go (lo := some ((1 : Nat) : Int)) hT fun b H3 S3 hB => ?_
    refine ⟨_, rfl, np ⟨_, rfl, ?_⟩⟩
    refine slt_go (hi := some ((1 : Nat) : Int)) (same_t S3 hT) fun c H4 S4 hC4 => ?_
    rw [cut_drop (by omega)] at hB
    rw [cut_take (by omega)] at hC4
    refine cat_go (same_t S4 hB) hC4 (by rw [List.length_drop, List.length_take]; omega) fun f H5 S5 hF => ?_
    refine q1 n hn _ _ ((S1.trans S3).trans (S4.trans S5)) (.tup hF ?_)
    have hA5 := hA.mono ((S3.trans S4).trans S5)
    have e : rowD (rowBe R n) = (rowD (rowAt R n)).drop 1 ++ (rowD (rowAt R n)).take 1 := by
      unfold rowD rowBe
      rw [List.map_append, List.map_drop, List.map_take]
    rw [e]
    exact (hA5.drop _).append (hA5.take _)
theorem ok_joined (T : Txt K mg) : FO P w K mg base (L2.CX P w) 7 (a_joined K) ["one", "a", "other", "b"] (spJoinX K) := by
  refine T.d_joined.ok sc_joined (fun vs H Q E h => ?_) (fun cdv A outer s H vs Q E hr h => ?_)
  · obtain ⟨g, C, R, a, da, g', C', R', b, db, rfl, _⟩ := h
    rfl
  · obtain ⟨g, C, R, a, da, g', C', R', b, db, rfl, hC, hR, W, ha, hC', hR', W', hb, q⟩ := h
    have G_FullU_initU := ok_FullU_initU (P := P) (w := w) (base := base) T
    have G_row_behind := ok_row_behind (P := P) (w := w) (base := base) T
    refine ⟨_, (pss_cons (ps_par (i := 4) (j := 5) (by rfl) sc_joined.nd rfl rfl (by decide) rfl rfl (pa_cons (pe_call G_row_behind (hr.mono (by decide)) rfl T.g_row_behind T.d_row_behind.kp T.b_row_behind .nil passE (pa_cons (pv 0) (pa_cons (pv 1) pa_nil))) (pa_cons (pe_call G_row_behind (hr.mono (by decide)) rfl T.g_row_behind T.d_row_behind.kp T.b_row_behind .nil passE (pa_cons (pv 2) (pa_cons (pv 3) pa_nil))) pa_nil)) (by rfl)) (pss_cons (ps_if (pt_cmpR op_gt (pe_op op_add (pe_callB (id := "len") call_len (by rfl) T.f_len (by decide +kernel) (pa_cons (pv 4) pa_nil)) (pe_callB (id := "len") call_len (by rfl) T.f_len (by decide +kernel) (pa_cons (pv 5) pa_nil))) (pe_gint T.most) (nomark _)) (pss_one (ps_raise rfl (takes_of rfl rfl rfl rfl) (pmk_oex T.ox_Full T.oi_Full T.ot_Full G_FullU_initU (hr.mono (by decide)) T.b_FullU_initU .nil passL rfl T.g_Full (pa_cons (pe_gint T.most) pa_nil)))) pss_nil) pss_never)), ?_⟩
    refine ⟨_, rfl, _, rfl, g, C, R, a, da, rfl, hC, hR, W, ha, fun n hn u H1 S1 hu => ?_, fun h => ?_⟩
    · rcases q with ⟨e, _⟩ | ⟨n', hn', q⟩
      · rw [e] at hn
        cases hn
      refine ⟨_, rfl, _, rfl, g', C', R', b, db, rfl, hC', hR'.mono S1, W', hb.mono S1, fun m hm v H2 S2 hv => ?_, fun h => ?_⟩
      · rcases q with ⟨e, _⟩ | ⟨m', hm', hbig, q⟩
        · rw [e] at hm
          cases hm
        obtain ⟨x, xs, rfl, hT, hA⟩ := (hu.mono S2).tupI
        obtain ⟨y, ys, rfl, hT', hA'⟩ := hv.tupI
        have l1 : xs.length = R.r.length := by rw [hA.len, rowD_len]; unfold rowBe; rw [List.length_append, List.length_drop, List.length_take]; have : (rowAt R n).length = R.r.length := rot_len _ _; have := W.good.ne; omega
        have l2 : ys.length = R'.r.length := by rw [hA'.len, rowD_len]; unfold rowBe; rw [List.length_append, List.length_drop, List.length_take]; have : (rowAt R' m).length = R'.r.length := rot_len _ _; have := W'.good.ne; omega
        refine ⟨_, _, rfl, _, rfl, _, xs.length, rfl, .inr ⟨xs, hT, rfl⟩, _, rfl, _, ys.length, rfl, .inr ⟨ys, hT', rfl⟩, _, _, rfl, rfl, _, _, rfl, rfl, _, rfl, ?_⟩
        rw [decide_eq_true (show (100 : Int) < (xs.length : Nat) + (ys.length : Nat) by omega)]
        exact iteT (ownX_go T.ox_Full T.fmo (q.mono (S1.trans S2)))
      · rcases q with ⟨e, q⟩ | ⟨m', hm', _⟩
        · exact q.mono S1
        · rw [h] at hm'
          cases hm'
    · rcases q with ⟨e, q⟩ | ⟨n', hn', _⟩
      · exact q
      · rw [h] at hn'
        cases hn'
theorem ok_split (T : Txt K mg) : FO P w K mg base (L2.CX P w) 6 (a_split K) ["ring", "first", "many"] (spSplitX K) := by
  refine T.d_split.ok sc_split (fun vs H Q E h => ?_) (fun cdv A outer s H vs Q E hr h => ?_)
  · obtain ⟨g, C, R, a, da, b, db, rfl, _⟩ := h
    rfl
  · obtain ⟨g, C, R, a, da, b, db, rfl, hC, hR, W, ha, hb, q⟩ := h
    have G_is_count := ok_is_count (P := P) (w := w) (base := base) T
    have G_is_row := ok_is_row (P := P) (w := w) (base := base) T
    have G_row_from := ok_row_from (P := P) (w := w) (base := base) T
    refine ⟨_, (pss_cons (ps_set (i := 3) sc_split.nd rfl (Or.inl rfl) (pe_call G_row_from (hr.mono (by decide)) rfl T.g_row_from T.d_row_from.kp T.b_row_from .nil passE (pa_cons (pv 0) (pa_cons (pv 1) pa_nil)))) (pss_cons (ps_if (pt_not (pt_val (pe_call G_is_count (hr.mono (by decide)) rfl T.g_is_count T.d_is_count.kp T.b_is_count .nil passE (pa_cons (pv 2) (pa_cons pe_int (pa_cons (pe_op op_sub (pe_callB (id := "len") call_len (by rfl) T.f_len (by decide +kernel) (pa_cons (pv 3) pa_nil)) pe_int) pa_nil)))))) (pss_one (ps_raise rfl (takes_of rfl rfl rfl rfl) (pmk_own PySem.F.excBase_ValueError T.x_NoRun T.g_NoRun T.xk_NoRun (raises_own T.xs_NoRun T.xt_NoRun) rfl))) pss_nil) (pss_cons (ps_par (i := 4) (j := 5) (by rfl) sc_split.nd rfl rfl (by decide) rfl rfl (pa_cons (pe_slice sl_tupA (pv 3) po_none (po_some (pv 2))) (pa_cons (pe_slice sl_tupA (pv 3) (po_some (pv 2)) po_none) pa_nil)) (by rfl)) (pss_cons (ps_if (PW.pt (pw_or (pt_not (pt_val (pe_call G_is_row (hr.mono (by decide)) rfl T.g_is_row T.d_is_row.kp T.b_is_row .nil passE (pa_cons (pv 4) pa_nil)))) (pw_or1 (pt_not (pt_val (pe_call G_is_row (hr.mono (by decide)) rfl T.g_is_row T.d_is_row.kp T.b_is_row .nil passE (pa_cons (pv 5) pa_nil))))))) (pss_one (ps_raise rfl (takes_of rfl rfl rfl rfl) (pmk_own PySem.F.excBase_ValueError T.x_NoTree T.g_NoTree T.xk_NoTree (raises_own T.xs_NoTree T.xt_NoTree) rfl))) pss_nil) pss_never)))), ?_⟩
    refine ⟨_, rfl, _, rfl, g, C, R, a, da, rfl, hC, hR, W, ha, fun n hn u H1 S1 hu => ?_, fun h => ?_⟩
    · rcases q with ⟨e, _⟩ | ⟨n', hn', q⟩
      · rw [e] at hn
        cases hn
      have en : n' = n := by rw [hn] at hn'; exact (Option.some.inj hn').symm
      subst en
      obtain ⟨x, xs, rfl, hT, hA⟩ := hu.tupI
      have h1 := W.good.ne
      have h100 := W.good.le
      have hl : (rowAt R n').length = R.r.length := rot_len _ _
      have hx : xs.length = R.r.length := by rw [hA.len, rowD_len, hl]
      refine ⟨_, rfl, _, rfl, _, xs.length, rfl, .inr ⟨xs, hT, rfl⟩, _, _, rfl, rfl, b, db, 1, _, rfl, hb.mono S1, _, rfl, ?_⟩
      rw [hx]
      rcases q with ⟨e, q⟩ | ⟨m, rfl, m1, m2, bad, q⟩
      · rw [e]
        exact iteT (q H1 S1)
      · have ed : dCount (.int (m : Nat)) 1 ((R.r.length : Nat) - 1) = true := by
          show (decide ((1 : Int) ≤ (m : Nat)) && decide (((m : Nat) : Int) ≤ (R.r.length : Nat) - 1)) = true
          rw [decide_eq_true (by omega), decide_eq_true (by omega)]
          rfl
        have eb : b = .int ((m : Nat) : Int) := by
          rcases hb with hb | ⟨_, _, _, e⟩
          · exact hb.intI
          · cases e
        subst eb
        rw [ed]
        refine iteF ?_
        refine ⟨_, rfl, np ⟨_, rfl, _, rfl, ?_⟩⟩
        refine slt_go (hi := some ((m : Nat) : Int)) hT fun c H2 S2 hc => ?_
        refine ⟨_, rfl, _, rfl, _, rfl, np ?_⟩
        refine slt_go (lo := some ((m : Nat) : Int)) (same_t S2 hT) fun d H3 S3 hd => ?_
        rw [cut_take (by omega)] at hc
        rw [cut_drop (by omega)] at hd
        have g1 := W.good.rot (R.o.idxOf n')
        have hA3 := hA.mono (S2.trans S3)
        have dc : Dp K H3 (.ref c) (.tuple (rowD ((rowAt R n').take m))) := .tup (same_t S3 hc) (by unfold rowD; rw [List.map_take]; exact hA3.take _)
        have dd : Dp K H3 (.ref d) (.tuple (rowD ((rowAt R n').drop m))) := .tup hd (by unfold rowD; rw [List.map_drop]; exact hA3.drop _)
        have sm1 : small (.tuple (rowD ((rowAt R n').take m))) = true := by
          show smallAll _ = true
          exact small_row fun b hb => g1.nm b (List.mem_of_mem_take hb)
        have sm2 : small (.tuple (rowD ((rowAt R n').drop m))) = true := by
          show smallAll _ = true
          exact small_row fun b hb => g1.nm b (List.mem_of_mem_drop hb)
        have l1 : ((rowAt R n').take m).length = m := by rw [List.length_take]; omega
        have l2 : ((rowAt R n').drop m).length = R.r.length - m := by rw [List.length_drop]; omega
        refine ⟨_, _, rfl, _, rfl, _, _, rfl, .inl dc, sm1, fun H4 S4 => ⟨_, rfl, ?_⟩⟩
        have r1 : dRow (.tuple (rowD ((rowAt R n').take m))) = decide (arms ((rowAt R n').take m) < m) := by
          have := rowB_iff (r := (rowAt R n').take m) (by omega) (by omega) fun b hb => g1.nm b (List.mem_of_mem_take hb)
          rw [l1] at this
          exact this
        have r2 : dRow (.tuple (rowD ((rowAt R n').drop m))) = decide (arms ((rowAt R n').drop m) < R.r.length - m) := by
          have := rowB_iff (r := (rowAt R n').drop m) (by omega) (by omega) fun b hb => g1.nm b (List.mem_of_mem_drop hb)
          rw [l2] at this
          exact this
        rw [r1]
        have S04 := ((S1.trans S2).trans S3).trans S4
        by_cases c1 : arms ((rowAt R n').take m) < m
        · rw [decide_eq_true c1]
          refine iteF ?_
          refine ⟨_, rfl, _, _, rfl, .inl (dd.mono S4), sm2, fun H5 S5 => ⟨_, rfl, ?_⟩⟩
          rw [r2]
          have c2 : ¬ arms ((rowAt R n').drop m) < R.r.length - m := by
            rcases bad with h | h
            · omega
            · rw [hl] at h
              omega
          rw [decide_eq_false c2]
          exact iteT (q H5 (S04.trans S5))
        · rw [decide_eq_false c1]
          exact iteT (iteT (q H4 S04))
    · rcases q with ⟨e, q⟩ | ⟨n', hn', _⟩
      · exact q
      · rw [h] at hn'
        cases hn'
end
end Bt

namespace Bt
open PySem PySem.Spec PyProof.Rows L2
/-! ### the grove's refusals -/
abbrev GvC (K : PySem.W.Frag) : Addr := He.ga K "Grove"
def spGraftX (K : PySem.W.Frag) : Sp := fun vs H Q E => ∃ g R a da b db t dt, vs = [.ref g, a, b, t] ∧ Rg K H g (GvC K) R ∧ RgW R ∧ TD K H a da ∧ TD K H b db ∧ TD K H t dt ∧
  ((isB R da = none ∧ NBx K a H E) ∨ ∃ n, isB R da = some n ∧ ((isB R db = none ∧ NBx K b H E) ∨ ∃ p, isB R db = some p ∧ ((p ∈ arcOf R n ∧ XE K "Within" H E) ∨ (p ∉ arcOf R n ∧ dCount dt 0 (((kidsOf R p).filter fun k => decide (k ≠ n)).length : Nat) = false ∧ XE K "NoNumber" H E))))
def spUprootX (K : PySem.W.Frag) : Sp := fun vs H Q E => ∃ g R a da, vs = [.ref g, a] ∧ Rg K H g (GvC K) R ∧ RgW R ∧ TD K H a da ∧
  ((isB R da = none ∧ NBx K a H E) ∨ ∃ n, isB R da = some n ∧ parOf R n = .non ∧ XE K "NoParent" H E)
def spBudX (K : PySem.W.Frag) : Sp := fun vs H Q E => ∃ g R nv dv b db t dt, vs = [.ref g, nv, b, t] ∧ Rg K H g (GvC K) R ∧ RgW R ∧ TD K H nv dv ∧ small dv = true ∧ TD K H b db ∧ TD K H t dt ∧
  ((dName dv = false ∧ XE K "NoName" H E) ∨ (dName dv = true ∧ ((isB R db = none ∧ NBx K b H E) ∨ ∃ p, isB R db = some p ∧ ((dCount dt 0 ((kidsOf R p).length : Nat) = false ∧ XE K "NoNumber" H E) ∨ (dCount dt 0 ((kidsOf R p).length : Nat) = true ∧ R.r.length = R.room ∧ FUx K (.int (R.room : Nat)) H E)))))
def spNipX (K : PySem.W.Frag) : Sp := fun vs H Q E => ∃ g R a da, vs = [.ref g, a] ∧ Rg K H g (GvC K) R ∧ RgW R ∧ TD K H a da ∧
  ((isB R da = none ∧ NBx K a H E) ∨ ∃ n, isB R da = some n ∧ ((0 < dn R.r (R.o.idxOf n) ∧ XE K "HasArms" H E) ∨ (dn R.r (R.o.idxOf n) = 0 ∧ parOf R n = .non ∧ arms R.r + 1 = R.r.length ∧ XE K "NoTree" H E)))
def spSwapX (K : PySem.W.Frag) : Sp := fun vs H Q E => ∃ g R a da b db, vs = [.ref g, a, b] ∧ Rg K H g (GvC K) R ∧ RgW R ∧ TD K H a da ∧ TD K H b db ∧
  ((isB R da = none ∧ NBx K a H E) ∨ ∃ n, isB R da = some n ∧ ((isB R db = none ∧ NBx K b H E) ∨ ∃ m, isB R db = some m ∧ (n ∈ arcOf R m ∨ m ∈ arcOf R n) ∧ XE K "Within" H E))
theorem td_int {K : PySem.W.Frag} {H : Hp} {v : V} {R : RS} {d : PyData} {n : Nat} (h : TD K H v d) (hn : isB R d = some n) : v = .int ((n : Nat) : Int) := by
  obtain ⟨rfl, _⟩ := isB_int hn
  rcases h with h | ⟨_, _, _, e⟩
  · exact h.intI
  · cases e
theorem mem_zs {n : Nat} {l : List Nat} : ((n : Nat) : Int) ∈ zs l ↔ n ∈ l := by
  unfold zs
  constructor
  · intro h
    obtain ⟨k, hk, e⟩ := List.mem_map.mp h
    have : k = n := by omega
    rw [← this]
    exact hk
  · exact fun h => List.mem_map_of_mem h
theorem filter_zs (n : Nat) : ∀ l : List Nat, (zs l).filter (fun k => decide (k ∉ [((n : Nat) : Int)])) = zs (l.filter fun k => decide (k ≠ n))
  | [] => rfl
  | k :: l => by
    have ih := filter_zs n l
    show ((((k : Nat) : Int) :: zs l).filter _) = zs ((k :: l).filter _)
    rw [List.filter_cons, List.filter_cons, ih]
    by_cases c : k = n
    · rw [if_neg (by simp [c]), if_neg (by simp [c])]
    · rw [if_pos (by simp; omega), if_pos (by simpa using c)]
      rfl
theorem bead_arms {R : RS} (W : RgW R) {n : Nat} {b : Str × Nat} (hb : R.he n = some b) : b.2 = dn R.r (R.o.idxOf n) := by
  obtain ⟨j, h1, _, h3⟩ := idx_of (W.mem n b hb)
  obtain ⟨c, hc, hc'⟩ := W.at h1
  rw [hb] at hc'
  have e := Option.some.inj hc'
  subst e
  rw [h3]
  unfold dn
  have hj := (List.getElem?_eq_some_iff.mp hc).1
  rw [Nat.mod_eq_of_lt hj, hc]
  rfl
section
variable {P : Program} {w : World} {K : PySem.W.Frag} {mg : Str → Option Value} {base : Heap}
theorem ok_Grove_uproot (T : Txt K mg) : FO P w K mg base (L2.CX P w) 8 (a_Grove_uproot K) ["self", "number"] (spUprootX K) := by
  refine T.d_Grove_uproot.ok sc_Grove_uproot (fun vs H Q E h => ?_) (fun cdv A outer s H vs Q E hr h => ?_)
  · obtain ⟨g, R, a, da, rfl, _⟩ := h
    rfl
  · obtain ⟨g, R, a, da, rfl, ⟨dx, lo, hd, hh, kvs, hs, hR⟩, W, ha, q⟩ := h
    have G_Ring_parent := ok_Ring_parent (P := P) (w := w) (base := base) T
    have hC : IsRing K (GvC K) := .inr rfl
    refine ⟨_, (pss_cons (ps_set (i := 2) sc_Grove_uproot.nd rfl (Or.inl rfl) (pe_meth (pv 0) (T.cls hC) (T.mt_parent hC) G_Ring_parent (hr.mono (by decide)) T.b_Ring_parent .nil passE (pa_cons (pv 1) pa_nil))) (pss_cons (ps_if (pt_cmpR op_isN (pv 2) pe_non (nomark _)) (pss_one (ps_raise rfl (takes_of rfl rfl rfl rfl) (pmk_own PySem.F.excBase_ValueError T.x_NoParent T.g_NoParent T.xk_NoParent (raises_own T.xs_NoParent T.xt_NoParent) rfl))) pss_nil) pss_never)), ?_⟩
    refine ⟨_, rfl, g, dx, _, rfl, hR.ins, rfl, _, rfl, g, _, R, a, da, rfl, hC, ⟨dx, lo, hd, hh, kvs, hs, hR⟩, W, ha, fun n hn H1 S1 => ?_, fun h => ?_⟩
    · rcases q with ⟨e, _⟩ | ⟨n', hn', hp, q⟩
      · rw [e] at hn
        cases hn
      have en : n' = n := by rw [hn] at hn'; exact (Option.some.inj hn').symm
      subst en
      rw [hp]
      exact ⟨_, rfl, rfl, _, rfl, iteT (q H1 S1)⟩
    · rcases q with ⟨e, q⟩ | ⟨n', hn', _⟩
      · exact q
      · rw [h] at hn'
        cases hn'
theorem ok_Grove_nip (T : Txt K mg) : FO P w K mg base (L2.CX P w) 8 (a_Grove_nip K) ["self", "number"] (spNipX K) := by
  refine T.d_Grove_nip.ok sc_Grove_nip (fun vs H Q E h => ?_) (fun cdv A outer s H vs Q E hr h => ?_)
  · obtain ⟨g, R, a, da, rfl, _⟩ := h
    rfl
  · obtain ⟨g, R, a, da, rfl, ⟨dx, lo, hd, hh, kvs, hs, hR⟩, W, ha, q⟩ := h
    have G_Ring_parent := ok_Ring_parent (P := P) (w := w) (base := base) T
    have G_Ring_trees := ok_Ring_trees (P := P) (w := w) (base := base) T
    have hC : IsRing K (GvC K) := .inr rfl
    refine ⟨_, (pss_cons (ps_set (i := 2) sc_Grove_nip.nd rfl (Or.inl rfl) (pe_meth (pv 0) (T.cls hC) (T.mt_parent hC) G_Ring_parent (hr.mono (by decide)) T.b_Ring_parent .nil passE (pa_cons (pv 1) pa_nil))) (pss_cons (ps_if (pt_cmpR op_gt (pe_ix ix_tup (pe_dget (hu_of hr) (pe_fld (pv 0) rfl) (pv 1) (fun _ _ => rfl)) pe_int (fun _ _ => rfl)) pe_int (nomark _)) (pss_one (ps_raise rfl (takes_of rfl rfl rfl rfl) (pmk_own PySem.F.excBase_ValueError T.x_HasArms T.g_HasArms T.xk_HasArms (raises_own T.xs_HasArms T.xt_HasArms) rfl))) pss_nil) (pss_cons (ps_if (PW.pt (pw_and (pt_cmpR op_isN (pv 2) pe_non (nomark _)) (pw_and1 (pt_cmpR op_eq (pe_meth0 (pv 0) (T.cls hC) (T.mt_trees hC) G_Ring_trees (hr.mono (by decide)) T.b_Ring_trees .nil passE) pe_int (nomark _))))) (pss_one (ps_raise rfl (takes_of rfl rfl rfl rfl) (pmk_own PySem.F.excBase_ValueError T.x_NoTree T.g_NoTree T.xk_NoTree (raises_own T.xs_NoTree T.xt_NoTree) rfl))) pss_nil) pss_never))), ?_⟩
    refine ⟨_, rfl, g, dx, _, rfl, hR.ins, rfl, _, rfl, g, _, R, a, da, rfl, hC, ⟨dx, lo, hd, hh, kvs, hs, hR⟩, W, ha, fun n hn H1 S1 => ?_, fun h => ?_⟩
    · rcases q with ⟨e, _⟩ | ⟨n', hn', q⟩
      · rw [e] at hn
        cases hn
      have en : n' = n := by rw [hn] at hn'; exact (Option.some.inj hn').symm
      subst en
      have ev := td_int ha hn
      subst ev
      have hR1 := hR.mono S1
      obtain ⟨_, _, _, b, hb⟩ := isB_mem W hn
      obtain ⟨u, hu, hud⟩ := hR1.hR.som n' b hb
      obtain ⟨t, rfl, hB⟩ := bead_at hud
      have hba := bead_arms W hb
      refine ⟨_, rfl, g, _, dx, _, _, rfl, hR1.ins, T.cls hC, T.n_held hC, rfl, _, rfl, hd, .ref t, rfl, (by rw [← hu]; exact DGet.k (k := Sum.inl ((n' : Nat) : Int)) hR1.hel), t, _, 1, _, rfl, rfl, hB, rfl, _, _, rfl, rfl, _, rfl, ?_⟩
      rcases q with ⟨h0, q⟩ | ⟨h0, hp, htr, q⟩
      · rw [decide_eq_true (show (0 : Int) < ((b.2 : Nat) : Int) by omega)]
        exact iteT (q H1 S1)
      · rw [decide_eq_false (show ¬ (0 : Int) < ((b.2 : Nat) : Int) by omega)]
        refine iteF ?_
        rw [hp]
        refine ⟨_, rfl, rfl, _, rfl, iteT ?_⟩
        refine ⟨_, rfl, g, dx, _, rfl, hR1.ins, rfl, g, _, R, rfl, hC, ⟨dx, lo, hd, hh, kvs, hs, hR1⟩, W, fun H2 S2 => ⟨rfl, _, rfl, ?_⟩⟩
        have e1 : (V.int ((R.r.length : Nat) - (arms R.r : Nat)) : V) = .int 1 := by
          congr 1
          omega
        rw [decide_eq_true e1]
        exact iteT (q H2 (S1.trans S2))
    · rcases q with ⟨e, q⟩ | ⟨n', hn', _⟩
      · exact q
      · rw [h] at hn'
        cases hn'
theorem ok_Grove_swap (T : Txt K mg) : FO P w K mg base (L2.CX P w) 7 (a_Grove_swap K) ["self", "a", "b"] (spSwapX K) := by
  refine T.d_Grove_swap.ok sc_Grove_swap (fun vs H Q E h => ?_) (fun cdv A outer s H vs Q E hr h => ?_)
  · obtain ⟨g, R, a, da, b, db, rfl, _⟩ := h
    rfl
  · obtain ⟨g, R, a, da, b, db, rfl, ⟨dx, lo, hd, hh, kvs, hs, hR⟩, W, ha, hb, q⟩ := h
    have G_Ring_arc := ok_Ring_arc (P := P) (w := w) (base := base) T
    have hC : IsRing K (GvC K) := .inr rfl
    refine ⟨_, (pss_cons (ps_par (i := 3) (j := 4) (by rfl) sc_Grove_swap.nd rfl rfl (by decide) rfl rfl (pa_cons (pe_meth (pv 0) (T.cls hC) (T.mt_arc hC) G_Ring_arc (hr.mono (by decide)) T.b_Ring_arc .nil passE (pa_cons (pv 1) pa_nil)) (pa_cons (pe_meth (pv 0) (T.cls hC) (T.mt_arc hC) G_Ring_arc (hr.mono (by decide)) T.b_Ring_arc .nil passE (pa_cons (pv 2) pa_nil)) pa_nil)) (by rfl)) (pss_cons (ps_if (PW.pt (pw_or (pt_cmpR op_in_seq (pv 1) (pv 4) rfl) (pw_or1 (pt_cmpR op_in_seq (pv 2) (pv 3) rfl)))) (pss_one (ps_raise rfl (takes_of rfl rfl rfl rfl) (pmk_own PySem.F.excBase_ValueError T.x_Within T.g_Within T.xk_Within (raises_own T.xs_Within T.xt_Within) rfl))) pss_nil) pss_never)), ?_⟩
    refine ⟨_, rfl, g, dx, _, rfl, hR.ins, rfl, _, rfl, g, _, R, a, da, rfl, hC, ⟨dx, lo, hd, hh, kvs, hs, hR⟩, W, ha, fun n hn x H1 hx S1 hX => ?_, fun h => ?_⟩
    · rcases q with ⟨e, _⟩ | ⟨n', hn', q⟩
      · rw [e] at hn
        cases hn
      have en : n' = n := by rw [hn] at hn'; exact (Option.some.inj hn').symm
      subst en
      have ev := td_int ha hn
      subst ev
      have hR1 := hR.mono S1
      refine ⟨_, rfl, g, dx, _, rfl, hR1.ins, rfl, _, rfl, g, _, R, b, db, rfl, hC, ⟨dx, lo, hd, hh, kvs, hs, hR1⟩, W, hb.mono S1, fun m hm y H2 hy S2 hY => ?_, fun h => ?_⟩
      · rcases q with ⟨e, _⟩ | ⟨m', hm', hin, q⟩
        · rw [e] at hm
          cases hm
        have em : m' = m := by rw [hm] at hm'; exact (Option.some.inj hm').symm
        subst em
        have ev := td_int hb hm
        subst ev
        refine ⟨_, _, rfl, _, rfl, _, rfl, y, _, rfl, .inl (.inl (.inl hY)), rfl, flat_ints _, _, rfl, ?_⟩
        show (if inV (V.int ((n' : Nat) : Int)) ((zs (arcOf R m')).map V.int) = true then _ else _)
        rw [inV_int]
        by_cases c : n' ∈ arcOf R m'
        · rw [decide_eq_true (mem_zs.mpr c)]
          exact iteT (iteT (q H2 (S1.trans S2)))
        · rw [decide_eq_false (fun z => c (mem_zs.mp z))]
          refine iteF ?_
          refine ⟨_, rfl, _, rfl, x, _, rfl, .inl (.inl (.inl (S2 _ _ hX))), rfl, flat_ints _, _, rfl, ?_⟩
          show (if inV (V.int ((m' : Nat) : Int)) ((zs (arcOf R n')).map V.int) = true then _ else _)
          rw [inV_int]
          have c2 : m' ∈ arcOf R n' := hin.resolve_left c
          rw [decide_eq_true (mem_zs.mpr c2)]
          exact iteT (q H2 (S1.trans S2))
      · rcases q with ⟨e, q⟩ | ⟨m', hm', _⟩
        · exact q.mono S1
        · rw [h] at hm'
          cases hm'
    · rcases q with ⟨e, q⟩ | ⟨n', hn', _⟩
      · exact q
      · rw [h] at hn'
        cases hn'
theorem ok_Grove_budX (T : Txt K mg) : FO P w K mg base (L2.CX P w) 7 (a_Grove_bud K) ["self", "name", "parent", "at"] (spBudX K) := by
  refine T.d_Grove_bud.ok sc_Grove_bud (fun vs H Q E h => ?_) (fun cdv A outer s H vs Q E hr h => ?_)
  · obtain ⟨g, R, nv, dv, b, db, t, dt, rfl, _⟩ := h
    rfl
  · obtain ⟨g, R, nv, dv, b, db, t, dt, rfl, ⟨dx, lo, hd, hh, kvs, hs, hR⟩, W, hnv, hsm, hb, ht, q⟩ := h
    have G_FullU_initU := ok_FullU_initU (P := P) (w := w) (base := base) T
    have G_Ring_children := ok_Ring_children (P := P) (w := w) (base := base) T
    have G_is_count := ok_is_count (P := P) (w := w) (base := base) T
    have G_is_name := ok_is_name (P := P) (w := w) (base := base) T
    have hC : IsRing K (GvC K) := .inr rfl
    refine ⟨_, (pss_cons (ps_if (pt_not (pt_val (pe_call G_is_name (hr.mono (by decide)) rfl T.g_is_name T.d_is_name.kp T.b_is_name .nil passE (pa_cons (pv 1) pa_nil)))) (pss_one (ps_raise rfl (takes_of rfl rfl rfl rfl) (pmk_own PySem.F.excBase_ValueError T.x_NoName T.g_NoName T.xk_NoName (raises_own T.xs_NoName T.xt_NoName) rfl))) pss_nil) (pss_cons (ps_set (i := 4) sc_Grove_bud.nd rfl (Or.inl rfl) (pe_meth (pv 0) (T.cls hC) (T.mt_children hC) G_Ring_children (hr.mono (by decide)) T.b_Ring_children .nil passE (pa_cons (pv 2) pa_nil))) (pss_cons (ps_if (pt_not (pt_val (pe_call G_is_count (hr.mono (by decide)) rfl T.g_is_count T.d_is_count.kp T.b_is_count .nil passE (pa_cons (pv 3) (pa_cons pe_int (pa_cons (pe_callB (id := "len") call_len (by rfl) T.f_len (by decide +kernel) (pa_cons (pv 4) pa_nil)) pa_nil)))))) (pss_one (ps_raise rfl (takes_of rfl rfl rfl rfl) (pmk_own PySem.F.excBase_ValueError T.x_NoNumber T.g_NoNumber T.xk_NoNumber (raises_own T.xs_NoNumber T.xt_NoNumber) rfl))) pss_nil) (pss_cons (ps_if (pt_cmpR op_eq (pe_callB (id := "len") call_len (by rfl) T.f_len (by decide +kernel) (pa_cons (pe_fld (pv 0) rfl) pa_nil)) (pe_fld (pv 0) rfl) (nomark _)) (pss_one (ps_raise rfl (takes_of rfl rfl rfl rfl) (pmk_oex T.ox_Full T.oi_Full T.ot_Full G_FullU_initU (hr.mono (by decide)) T.b_FullU_initU .nil passL rfl T.g_Full (pa_cons (pe_fld (pv 0) rfl) pa_nil)))) pss_nil) pss_never)))), ?_⟩
    refine ⟨_, rfl, nv, dv, rfl, hnv, hsm, fun H1 S1 => ⟨_, rfl, ?_⟩⟩
    have hR1 := hR.mono S1
    rcases q with ⟨e, q⟩ | ⟨e, q⟩
    · rw [e]
      exact iteT (q H1 S1)
    rw [e]
    refine iteF ?_
    refine ⟨_, rfl, g, dx, _, rfl, hR1.ins, rfl, _, rfl, g, _, R, b, db, rfl, hC, ⟨dx, lo, hd, hh, kvs, hs, hR1⟩, W, hb.mono S1, fun n hn x H2 hx S2 hX => ?_, fun h => ?_⟩
    · rcases q with ⟨e, _⟩ | ⟨n', hn', q⟩
      · rw [e] at hn
        cases hn
      have en : n' = n := by rw [hn] at hn'; exact (Option.some.inj hn').symm
      subst en
      have hR2 := hR1.mono S2
      have S3 := S1.trans S2
      have zl : ((zs (kidsOf R n')).map V.int).length = (kidsOf R n').length := by unfold zs; rw [List.length_map, List.length_map]
      refine ⟨_, rfl, _, rfl, _, _, rfl, .inl ⟨_, .inl (.inl hX), rfl⟩, t, dt, 0, _, rfl, ht.mono S3, _, rfl, ?_⟩
      rw [zl]
      rcases q with ⟨e, q⟩ | ⟨e, hfull, q⟩
      · rw [e]
        exact iteT (q H2 S3)
      · rw [e]
        refine iteF ?_
        have ol : ((zs R.o).map V.int).length = R.r.length := by unfold zs; rw [List.length_map, List.length_map, W.len]
        refine ⟨_, rfl, g, _, dx, _, _, rfl, hR2.ins, T.cls hC, T.n_order hC, rfl, _, _, rfl, .inl ⟨_, .inl (.inl hR2.ord), rfl⟩, _, rfl, g, _, dx, _, _, rfl, hR2.ins, T.cls hC, T.n_room hC, rfl, rfl, _, rfl, ?_⟩
        rw [ol, hfull, decide_eq_true rfl]
        exact iteT ⟨_, rfl, g, _, dx, _, _, rfl, hR2.ins, T.cls hC, T.n_room hC, rfl, ownX_go T.ox_Full T.fmo (q.mono S3)⟩
    · rcases q with ⟨e, q⟩ | ⟨n', hn', _⟩
      · exact q.mono S1
      · rw [h] at hn'
        cases hn'
theorem ok_Grove_graft (T : Txt K mg) : FO P w K mg base (L2.CX P w) 8 (a_Grove_graft K) ["self", "number", "parent", "at"] (spGraftX K) := by
  refine T.d_Grove_graft.ok sc_Grove_graft (fun vs H Q E h => ?_) (fun cdv A outer s H vs Q E hr h => ?_)
  · obtain ⟨g, R, a, da, b, db, t, dt, rfl, _⟩ := h
    rfl
  · obtain ⟨g, R, a, da, b, db, t, dt, rfl, ⟨dx, lo, hd, hh, kvs, hs, hR⟩, W, ha, hb, ht, q⟩ := h
    have G_Ring_arc := ok_Ring_arc (P := P) (w := w) (base := base) T
    have G_Ring_children := ok_Ring_children (P := P) (w := w) (base := base) T
    have G_Ring_parent := ok_Ring_parent (P := P) (w := w) (base := base) T
    have G_Ring_place := ok_Ring_place (P := P) (w := w) (base := base) T
    have G_is_count := ok_is_count (P := P) (w := w) (base := base) T
    have G_without := ok_without (P := P) (w := w) (base := base) T
    have hC : IsRing K (GvC K) := .inr rfl
    refine ⟨_, (pss_cons (ps_set (i := 4) sc_Grove_graft.nd rfl (Or.inl rfl) (pe_meth (pv 0) (T.cls hC) (T.mt_parent hC) G_Ring_parent (hr.mono (by decide)) T.b_Ring_parent .nil passE (pa_cons (pv 1) pa_nil))) (pss_cons (ps_expr (pe_meth (pv 0) (T.cls hC) (T.mt_place hC) G_Ring_place (hr.mono (by decide)) T.b_Ring_place .nil passE (pa_cons (pv 2) pa_nil))) (pss_cons (ps_set (i := 5) sc_Grove_graft.nd rfl (Or.inl rfl) (pe_meth (pv 0) (T.cls hC) (T.mt_arc hC) G_Ring_arc (hr.mono (by decide)) T.b_Ring_arc .nil passE (pa_cons (pv 1) pa_nil))) (pss_cons (ps_if (pt_cmpR op_in_seq (pv 2) (pv 5) rfl) (pss_one (ps_raise rfl (takes_of rfl rfl rfl rfl) (pmk_own PySem.F.excBase_ValueError T.x_Within T.g_Within T.xk_Within (raises_own T.xs_Within T.xt_Within) rfl))) pss_nil) (pss_cons (ps_set (i := 6) sc_Grove_graft.nd rfl (Or.inl rfl) (pe_call G_without (hr.mono (by decide)) rfl T.g_without T.d_without.kp T.b_without .nil passE (pa_cons (pe_meth (pv 0) (T.cls hC) (T.mt_children hC) G_Ring_children (hr.mono (by decide)) T.b_Ring_children .nil passE (pa_cons (pv 2) pa_nil)) (pa_cons (pe_lst (pa_cons (pv 1) pa_nil)) pa_nil)))) (pss_cons (ps_if (pt_not (pt_val (pe_call G_is_count (hr.mono (by decide)) rfl T.g_is_count T.d_is_count.kp T.b_is_count .nil passE (pa_cons (pv 3) (pa_cons pe_int (pa_cons (pe_callB (id := "len") call_len (by rfl) T.f_len (by decide +kernel) (pa_cons (pv 6) pa_nil)) pa_nil)))))) (pss_one (ps_raise rfl (takes_of rfl rfl rfl rfl) (pmk_own PySem.F.excBase_ValueError T.x_NoNumber T.g_NoNumber T.xk_NoNumber (raises_own T.xs_NoNumber T.xt_NoNumber) rfl))) pss_nil) pss_never)))))), ?_⟩
    refine ⟨_, rfl, g, dx, _, rfl, hR.ins, rfl, _, rfl, g, _, R, a, da, rfl, hC, ⟨dx, lo, hd, hh, kvs, hs, hR⟩, W, ha, fun n hn H1 S1 => ?_, fun h => ?_⟩
    · rcases q with ⟨e, _⟩ | ⟨n', hn', q⟩
      · rw [e] at hn
        cases hn
      have en : n' = n := by rw [hn] at hn'; exact (Option.some.inj hn').symm
      subst en
      have ev := td_int ha hn
      subst ev
      have hR1 := hR.mono S1
      refine ⟨_, rfl, g, dx, _, rfl, hR1.ins, rfl, _, rfl, g, _, R, b, db, rfl, hC, ⟨dx, lo, hd, hh, kvs, hs, hR1⟩, W, hb.mono S1, fun m hm H2 S2 => ?_, fun h => ?_⟩
      · rcases q with ⟨e, _⟩ | ⟨m', hm', q⟩
        · rw [e] at hm
          cases hm
        have em : m' = m := by rw [hm] at hm'; exact (Option.some.inj hm').symm
        subst em
        have ev := td_int hb hm
        subst ev
        have hR2 := hR1.mono S2
        have S3 := S1.trans S2
        refine ⟨_, rfl, g, dx, _, rfl, hR2.ins, rfl, _, rfl, g, _, R, _, _, rfl, hC, ⟨dx, lo, hd, hh, kvs, hs, hR2⟩, W, ha.mono S3, fun n2 hn2 x H3 hx S4 hX => ?_, fun h => absurd (h.symm.trans hn) (fun z => by cases z)⟩
        have en : n' = n2 := by rw [hn] at hn2; exact Option.some.inj hn2
        subst en
        have S5 := S3.trans S4
        refine ⟨_, rfl, _, rfl, x, _, rfl, .inl (.inl (.inl hX)), rfl, flat_ints _, _, rfl, ?_⟩
        show (if inV (V.int ((m' : Nat) : Int)) ((zs (arcOf R n')).map V.int) = true then _ else _)
        rw [inV_int]
        rcases q with ⟨c, q⟩ | ⟨c, hct, q⟩
        · rw [decide_eq_true (mem_zs.mpr c)]
          exact iteT (q H3 S5)
        · rw [decide_eq_false (fun z => c (mem_zs.mp z))]
          refine iteF ?_
          have hR3 := hR2.mono S4
          refine ⟨_, rfl, g, dx, _, rfl, hR3.ins, rfl, _, rfl, g, _, R, _, _, rfl, hC, ⟨dx, lo, hd, hh, kvs, hs, hR3⟩, W, hb.mono S5, fun m2 hm2 y H4 hy S6 hY => ?_, fun h => absurd (h.symm.trans hm) (fun z => by cases z)⟩
          have em : m' = m2 := by rw [hm] at hm2; exact Option.some.inj hm2
          subst em
          refine ⟨_, rfl, (by show 1 ≤ sizeLine; decide), fun l hl => ?_⟩
          have S7 : Same H4 (upd H4 l (.lst [.int ((n' : Nat) : Int)])) := same_new hl
          have kl : (kidsOf R m').length < 100 := by unfold kidsOf; rw [List.length_map]; unfold kidsL; rw [List.length_map, List.length_range]; exact dn_le W.good _
          refine ⟨y, l, zs (kidsOf R m'), [((n' : Nat) : Int)], rfl, .inl (.inl (S7 _ _ hY)), .inl (.inl upd_same), by unfold zs; rw [List.length_map]; omega, fun c H6 hc S8 hL => ?_⟩
          have S9 := ((S5.trans S6).trans S7).trans S8
          rw [filter_zs] at hL
          refine ⟨_, rfl, _, rfl, _, _, rfl, .inl ⟨_, .inl (.inl hL), rfl⟩, t, dt, 0, _, rfl, ht.mono S9, _, rfl, ?_⟩
          have zl : ((zs ((kidsOf R m').filter fun k => decide (k ≠ n'))).map V.int).length = ((kidsOf R m').filter fun k => decide (k ≠ n')).length := by unfold zs; rw [List.length_map, List.length_map]
          rw [zl, hct]
          exact iteT (q H6 S9)
      · rcases q with ⟨e, q⟩ | ⟨m', hm', _⟩
        · exact q.mono S1
        · rw [h] at hm'
          cases hm'
    · rcases q with ⟨e, q⟩ | ⟨n', hn', _⟩
      · exact q
      · rw [h] at hn'
        cases hn'
end
end Bt

namespace Bt
open PySem PySem.Spec PyProof.Rows L2
/-! ### a deed of the grove -/
/-- tuples stand -/
def tupish : HO → Prop
  | .tup _ => True
  | .frz _ (.tup _) => True
  | _ => False
def SameT (H H' : Hp) : Prop := ∀ b u, tupish u → H b = some u → H' b = some u
theorem Same.t {H H' : Hp} (S : Same H H') : SameT H H' := fun b u _ e => S b u e
theorem SameT.trans {H H' H'' : Hp} (S : SameT H H') (S2 : SameT H' H'') : SameT H H'' := fun b u t e => S2 b u t (S b u t e)
theorem sameT_upd {H : Hp} {a : Addr} {o u : HO} (ha : H a = some o) (n : ¬ tupish o) : SameT H (upd H a u) := fun b v t e => by
  have nb : b ≠ a := by
    rintro rfl
    rw [ha] at e
    cases e
    exact n t
  rw [upd_ne nb]
  exact e
section
variable {K : PySem.W.Frag} {H H' : Hp}
theorem sqt_T {a : Addr} {xs : List V} (S : SameT H H') (h : SqT K H a xs) : SqT K H' a xs := by
  rcases h with (h | ⟨o, h⟩) | h
  · exact .inl (.inl (S _ _ True.intro h))
  · exact .inl (.inr ⟨o, S _ _ True.intro h⟩)
  · exact .inr h
theorem dp_bead_T {v : V} {b : Str × Nat} (S : SameT H H') (h : Dp K H v (beadD b)) : Dp K H' v (beadD b) := by
  obtain ⟨t, rfl, hB⟩ := bead_at h
  exact bead_mk (sqt_T S hB)
theorem HeldR.monoT {kvs : List (Key × V)} {he : Nat → Option (Str × Nat)} (h : HeldR K H kvs he) (S : SameT H H') : HeldR K H' kvs he :=
  ⟨h.len, h.non, fun n b e => by obtain ⟨v, e1, e2⟩ := h.som n b e; exact ⟨v, e1, dp_bead_T S e2⟩⟩
end
/-- a ring that stands apart from what H0 tells -/
structure RgN (K : PySem.W.Frag) (H0 H : Hp) (g C : Addr) (R : RS) (hh : Addr) (kl : Nat) : Prop where
  S : Same H0 H
  ng : H0 g = none
  nh : H0 hh = none
  ex : ∃ dx lo hd kvs hs, RgA K H g C R dx lo hd hh kvs hs ∧ kvs.length ≤ kl ∧ H0 lo = none
theorem RgN.mono {K : PySem.W.Frag} {H0 H H' : Hp} {g C : Addr} {R : RS} {hh : Addr} {kl : Nat} (h : RgN K H0 H g C R hh kl) (S : Same H H') : RgN K H0 H' g C R hh kl := by
  obtain ⟨dx, lo, hd, kvs, hs, a, l⟩ := h.ex
  exact ⟨h.S.trans S, h.ng, h.nh, dx, lo, hd, kvs, hs, a.mono S, l⟩
theorem RgN.rg {K : PySem.W.Frag} {H0 H : Hp} {g C : Addr} {R : RS} {hh : Addr} {kl : Nat} (h : RgN K H0 H g C R hh kl) : Rg K H g C R := by
  obtain ⟨dx, lo, hd, kvs, hs, a, l⟩ := h.ex
  exact ⟨dx, lo, hd, hh, kvs, hs, a⟩
def doneR (R : RS) (o : List Nat) (he : Nat → Option (Str × Nat)) (c : Nat) (r : Row) : RS := ⟨o, he, c, R.room, R.hist + 1, r⟩
def spDone (K : PySem.W.Frag) : Sp := fun vs H Q E => ∃ g C R hh kl H0 lo hd o he c r kvs, vs = [.ref g, .ref lo, .ref hd, .int ((c : Nat) : Int)] ∧ IsRing K C ∧ RgN K H0 H g C R hh kl ∧ RgW R ∧ RgW (doneR R o he c r) ∧ R.r.length < 64 ∧
  lo ≠ hh ∧ H0 lo = none ∧ H lo = some (.lst ((zs o).map V.int)) ∧ H hd = some (.dK kvs) ∧ HeldR K H kvs he ∧ ∀ v H', RgN K H0 H' g C (doneR R o he c r) hh kvs.length → Q v H'
theorem kinK_sc (R : RS) {k : Key} {v : V} (h : valV (kinK R R.r.length) k = some v) : scV v := by
  unfold valV at h
  obtain ⟨kv, hf, e⟩ := Option.map_eq_some_iff.mp h
  have hm := List.mem_of_find?_eq_some hf
  unfold kinK at hm
  obtain ⟨p, _, rfl⟩ := List.mem_map.mp hm
  subst e
  obtain ⟨a, p⟩ := p
  cases p with
  | none => exact .inl rfl
  | some q => exact .inr ⟨_, rfl⟩
theorem kinK_keys {R : RS} (W : RgW R) : (kinK R R.r.length).map (·.1) = (zs R.o).map Sum.inl := by
  have hl := W.len
  have hpl : (parL R.r).length = R.r.length := parA_len R.r R.r.length
  unfold kinK zs
  rw [List.take_of_length_le (by rw [List.length_zip]; omega), List.map_map, List.map_map]
  have : ((R.o.zip (parL R.r)).map fun p => (Sum.inl ((p.1 : Nat) : Int) : Key)) = ((R.o.zip (parL R.r)).map Prod.fst).map fun k => Sum.inl ((k : Nat) : Int) := by
    rw [List.map_map]
    rfl
  show ((R.o.zip (parL R.r)).map fun p => (Sum.inl ((p.1 : Nat) : Int) : Key)) = _
  rw [this, List.map_fst_zip (by omega)]
  rfl
section
variable {P : Program} {w : World} {K : PySem.W.Frag} {mg : Str → Option Value} {base : Heap}
theorem ok_Ring_done (T : Txt K mg) : FO P w K mg base (L2.CX P w) 7 (a_Ring_done K) ["self", "order", "held", "coming"] (spDone K) := by
  refine T.d_Ring_done.ok sc_Ring_done (fun vs H Q E h => ?_) (fun cdv A outer s H vs Q E hr h => ?_)
  · obtain ⟨g, C, R, hh, kl, H0, lo, hd, o, he, c, r, kvs, rfl, _⟩ := h
    rfl
  · obtain ⟨g, C, R, hh, kl, H0, lo', hd', o, he, c, r, kvs', rfl, hC, hN, W, W', h64, nlo, n0lo, hlo, hhd, hHe, q⟩ := h
    obtain ⟨dx, lo, hd, kvs, hs, hR, hkl, _⟩ := hN.ex
    have G_Ring_kin := ok_Ring_kin (P := P) (w := w) (base := base) T
    have G_moves_between := ok_moves_between (P := P) (w := w) (base := base) T
    refine ⟨_, (pss_cons (ps_set (i := 4) sc_Ring_done.nd rfl (Or.inl rfl) (pe_meth0 (pv 0) (T.cls hC) (T.mt_kin hC) G_Ring_kin (hr.mono (by decide)) T.b_Ring_kin .nil passE)) (pss_cons (ps_expr (pe_bm PySem.F.plainAttrs_list PySem.F.slot_list_append PySem.F.type_list_append mt_append (pe_fld (pv 0) rfl) (pa_cons (pe_tup (pa_cons (pe_fld (pv 0) rfl) (pa_cons (pe_fld (pv 0) rfl) (pa_cons (pe_fld (pv 0) rfl) pa_nil)))) pa_nil))) (pss_cons (ps_fld (pv 0) (pv 1) rfl) (pss_cons (ps_fld (pv 0) (pv 2) rfl) (pss_cons (ps_fld (pv 0) (pv 3) rfl) (pss_one (ps_ret (pe_call G_moves_between (hr.mono (by decide)) rfl T.g_moves_between T.d_moves_between.kp T.b_moves_between .nil passE (pa_cons (pv 4) (pa_cons (pe_meth0 (pv 0) (T.cls hC) (T.mt_kin hC) G_Ring_kin (hr.mono (by decide)) T.b_Ring_kin .nil passE) pa_nil)))))))))), ?_⟩
    refine ⟨_, rfl, g, dx, _, rfl, hR.ins, rfl, g, C, R, rfl, hC, ⟨dx, lo, hd, hh, kvs, hs, hR⟩, W, fun a H1 ha S1 hk => ?_⟩
    have hR1 := hR.mono S1
    refine ⟨_, rfl, g, C, dx, _, _, rfl, hR1.ins, T.cls hC, T.n_history hC, rfl, .inl ⟨rfl, _, .inl (.inl hR1.his)⟩, ?_⟩
    refine ⟨_, rfl, g, C, dx, _, _, rfl, hR1.ins, T.cls hC, T.n_order hC, rfl, _, rfl, g, C, dx, _, _, rfl, hR1.ins, T.cls hC, T.n_held hC, rfl, _, rfl, g, C, dx, _, _, rfl, hR1.ins, T.cls hC, T.n_coming hC, rfl, (by show 3 ≤ sizeLine; decide), fun t ht => ?_⟩
    have S2 : Same H1 (upd H1 t (.tup [.ref lo, .ref hd, .int ((R.c : Nat) : Int)])) := same_new ht
    generalize upd H1 t (.tup [.ref lo, .ref hd, .int ((R.c : Nat) : Int)]) = H2 at S2
    have hR2 := hR1.mono S2
    have hz := W.hz
    refine ⟨hh, hs, .ref t, rfl, rfl, hR2.his, (by rw [hR.hsl]; exact lt_line (by omega)), ?_⟩
    have S02 := (hN.S.trans S1).trans S2
    -- the history
    have hlo2 := S2 _ _ (S1 _ _ hlo)
    have hhd2 := S2 _ _ (S1 _ _ hhd)
    have hk2 := S2 _ _ hk
    have hHe2 : HeldR K H2 kvs' he := hHe.mono (S1.trans S2)
    have ins2 := hR2.ins
    have his2 := hR2.his
    have n_gh : g ≠ hh := fun e => by rw [e, his2] at ins2; cases ins2
    have n_dh : hd' ≠ hh := fun e => by rw [e, his2] at hhd2; cases hhd2
    have n_ah : a ≠ hh := fun e => by rw [e, his2] at hk2; cases hk2
    have n_lg : lo' ≠ g := fun e => by rw [e, ins2] at hlo2; cases hlo2
    have n_dg : hd' ≠ g := fun e => by rw [e, ins2] at hhd2; cases hhd2
    have n_ag : a ≠ g := fun e => by rw [e, ins2] at hk2; cases hk2
    have S03 : Same H0 (upd H2 hh (.lst (hs ++ [.ref t]))) := same_upd S02 hN.nh
    have T3 : SameT H2 (upd H2 hh (.lst (hs ++ [.ref t]))) := sameT_upd his2 (fun z => z)
    have ins3 : (upd H2 hh (.lst (hs ++ [.ref t]))) g = _ := (upd_ne n_gh).trans ins2
    have lo3 : (upd H2 hh (.lst (hs ++ [.ref t]))) lo' = _ := (upd_ne nlo).trans hlo2
    have hd3 : (upd H2 hh (.lst (hs ++ [.ref t]))) hd' = _ := (upd_ne n_dh).trans hhd2
    have k3 : (upd H2 hh (.lst (hs ++ [.ref t]))) a = _ := (upd_ne n_ah).trans hk2
    have hh3 : (upd H2 hh (.lst (hs ++ [.ref t]))) hh = some (.lst (hs ++ [.ref t])) := upd_same
    generalize upd H2 hh (.lst (hs ++ [.ref t])) = H3 at S03 T3 ins3 lo3 hd3 k3 hh3
    refine ⟨_, rfl, _, rfl, g, C, dx, _, rfl, ins3, T.cls hC, T.n_order hC, (by show 5 < 1000; decide), ?_⟩
    have ins4 : (upd H3 g (.ins C dx (putF "order" (.ref lo') (rfs lo hd hh R.c R.room)))) g = some (.ins C dx (rfs lo' hd hh R.c R.room)) := upd_same
    have S04 : Same H0 (upd H3 g (.ins C dx (putF "order" (.ref lo') (rfs lo hd hh R.c R.room)))) := same_upd S03 hN.ng
    have kp4 : ∀ b u, b ≠ g → H3 b = some u → (upd H3 g (.ins C dx (putF "order" (.ref lo') (rfs lo hd hh R.c R.room)))) b = some u := fun b u n e => (upd_ne n).trans e
    have T4 : SameT H3 (upd H3 g (.ins C dx (putF "order" (.ref lo') (rfs lo hd hh R.c R.room)))) := sameT_upd ins3 (fun z => z)
    generalize upd H3 g (.ins C dx (putF "order" (.ref lo') (rfs lo hd hh R.c R.room))) = H4 at ins4 S04 kp4 T4
    refine ⟨_, rfl, _, rfl, g, C, dx, _, rfl, ins4, T.cls hC, T.n_held hC, (by show 5 < 1000; decide), ?_⟩
    have ins5 : (upd H4 g (.ins C dx (putF "held" (.ref hd') (rfs lo' hd hh R.c R.room)))) g = some (.ins C dx (rfs lo' hd' hh R.c R.room)) := upd_same
    have S05 : Same H0 (upd H4 g (.ins C dx (putF "held" (.ref hd') (rfs lo' hd hh R.c R.room)))) := same_upd S04 hN.ng
    have kp5 : ∀ b u, b ≠ g → H4 b = some u → (upd H4 g (.ins C dx (putF "held" (.ref hd') (rfs lo' hd hh R.c R.room)))) b = some u := fun b u n e => (upd_ne n).trans e
    have T5 : SameT H4 (upd H4 g (.ins C dx (putF "held" (.ref hd') (rfs lo' hd hh R.c R.room)))) := sameT_upd ins4 (fun z => z)
    generalize upd H4 g (.ins C dx (putF "held" (.ref hd') (rfs lo' hd hh R.c R.room))) = H5 at ins5 S05 kp5 T5
    refine ⟨_, rfl, _, rfl, g, C, dx, _, rfl, ins5, T.cls hC, T.n_coming hC, (by show 5 < 1000; decide), ?_⟩
    have ins6 : (upd H5 g (.ins C dx (putF "coming" (.int ((c : Nat) : Int)) (rfs lo' hd' hh R.c R.room)))) g = some (.ins C dx (rfs lo' hd' hh c R.room)) := upd_same
    have S06 : Same H0 (upd H5 g (.ins C dx (putF "coming" (.int ((c : Nat) : Int)) (rfs lo' hd' hh R.c R.room)))) := same_upd S05 hN.ng
    have kp6 : ∀ b u, b ≠ g → H5 b = some u → (upd H5 g (.ins C dx (putF "coming" (.int ((c : Nat) : Int)) (rfs lo' hd' hh R.c R.room)))) b = some u := fun b u n e => (upd_ne n).trans e
    have T6 : SameT H5 (upd H5 g (.ins C dx (putF "coming" (.int ((c : Nat) : Int)) (rfs lo' hd' hh R.c R.room)))) := sameT_upd ins5 (fun z => z)
    generalize upd H5 g (.ins C dx (putF "coming" (.int ((c : Nat) : Int)) (rfs lo' hd' hh R.c R.room))) = H6 at ins6 S06 kp6 T6
    have kp : ∀ b u, b ≠ g → H3 b = some u → H6 b = some u := fun b u n e => kp6 b u n (kp5 b u n (kp4 b u n e))
    have hR6 : RgA K H6 g C (doneR R o he c r) dx lo' hd' hh kvs' (hs ++ [.ref t]) := ⟨ins6, kp _ _ n_lg lo3, kp _ _ n_dg hd3, hHe2.monoT (((T3.trans T4).trans T5).trans T6), kp _ _ (Ne.symm n_gh) hh3, by rw [List.length_append, hR.hsl]; rfl⟩
    have hk6 : H6 a = some (.dK (kinK R R.r.length)) := kp _ _ n_ag k3
    refine ⟨_, rfl, _, rfl, g, dx, _, rfl, ins6, rfl, g, C, _, rfl, hC, ⟨dx, lo', hd', hh, kvs', _, hR6⟩, W', fun b H7 hb S7 hk7 => ?_⟩
    refine ⟨a, b, _, _, zs R.o, rfl, S7 _ _ hk6, hk7, kinK_keys W, by unfold zs; rw [List.length_map, W.len]; exact h64, fun k v h => kinK_sc R h, fun k v h => kinK_sc _ h, fun v H8 S8 => ?_⟩
    exact q v H8 (RgN.mono ⟨S06, hN.ng, hN.nh, dx, lo', hd', kvs', _, hR6, Nat.le_refl _, n0lo⟩ (S7.trans S8))
end
end Bt

namespace Bt
open PySem PySem.Spec PyProof.Rows L2
def bump (he : Nat → Option (Str × Nat)) (x : Option Nat) (δ : Int) : Nat → Option (Str × Nat) := fun j => if x = some j then (he j).map fun b => (b.1, (((b.2 : Nat) : Int) + δ).toNat) else he j
def BumpOk (he : Nat → Option (Str × Nat)) (x : Option Nat) (δ : Int) : Prop := ∀ k, x = some k → ∃ b, he k = some b ∧ 0 ≤ ((b.2 : Nat) : Int) + δ
def spWam (K : PySem.W.Frag) : Sp := fun vs H Q E => ∃ g R old new hh kl H0, vs = [.ref g, optV old, optV new] ∧ RgN K H0 H g (GvC K) R hh kl ∧ RgW R ∧ kl ≤ 500 ∧ BumpOk R.he old (-1) ∧ BumpOk (bump R.he old (-1)) new 1 ∧
  ∀ f kvs H', H f = none → Same H H' → H' f = some (.dK kvs) → HeldR K H' kvs (bump (bump R.he old (-1)) new 1) → kvs.length ≤ kl + 2 → Q (.ref f) H'
theorem HeldR.put {K : PySem.W.Frag} {H H' : Hp} {kvs : List (Key × V)} {he : Nat → Option (Str × Nat)} (h : HeldR K H kvs he) (S : SameT H H') {k : Nat} {b : Str × Nat} {v : V} (hv : Dp K H' v (beadD b)) (hl : kvs.length < 1000) :
    HeldR K H' (putK kvs (Sum.inl ((k : Nat) : Int)) v) (fun j => if j = k then some b else he j) := by
  have inj : ∀ n : Nat, (Sum.inl ((n : Nat) : Int) : Key) = Sum.inl ((k : Nat) : Int) ↔ n = k := fun n => by
    constructor
    · intro z
      injection z with z
      omega
    · rintro rfl
      rfl
  refine ⟨?_, fun n e => ?_, fun n c e => ?_⟩
  · have := length_putK kvs (Sum.inl ((k : Nat) : Int)) v
    omega
  · by_cases c : n = k
    · rw [if_pos c] at e
      cases e
    · rw [if_neg c] at e
      rw [valV_put, if_neg (fun z => c ((inj n).mp z))]
      exact h.non n e
  · by_cases d : n = k
    · rw [if_pos d] at e
      have e' := Option.some.inj e
      subst e'
      exact ⟨v, by rw [valV_put, if_pos ((inj n).mpr d)], hv⟩
    · rw [if_neg d] at e
      obtain ⟨u, e1, e2⟩ := h.som n c e
      exact ⟨u, by rw [valV_put, if_neg (fun z => d ((inj n).mp z))]; exact e1, dp_bead_T S e2⟩
section
variable {P : Program} {w : World} {K : PySem.W.Frag} {mg : Str → Option Value} {base : Heap}
theorem ok_Grove_with_arm_moved (T : Txt K mg) : FO P w K mg base (L2.CX P w) 1 (a_Grove_with_arm_moved K) ["self", "old", "new"] (spWam K) := by
  refine T.d_Grove_with_arm_moved.ok sc_Grove_with_arm_moved (fun vs H Q E h => ?_) (fun cdv A outer s H vs Q E hr h => ?_)
  · obtain ⟨g, R, old, new, hh, kl, H0, rfl, _⟩ := h
    rfl
  · obtain ⟨g, R, old, new, hh, kl, H0, rfl, hN, W, hkl, ok1, ok2, q⟩ := h
    obtain ⟨dx, lo, hd, kvs, hs, hR, hkv, _⟩ := hN.ex
    have hC : IsRing K (GvC K) := .inr rfl
    refine ⟨_, (pss_cons (ps_set (i := 3) sc_Grove_with_arm_moved.nd rfl (Or.inl rfl) (pe_callTy (T := "dict") call_dictD (by rfl) T.f_dict (by decide +kernel) (pa_cons (pe_fld (pv 0) rfl) pa_nil))) (pss_cons (ps_for (passes_of rfl) rfl (pi_tup (pe_tup (pa_cons (pe_tup (pa_cons (pv 1) (pa_cons (pe_un un_neg pe_int) pa_nil))) (pa_cons (pe_tup (pa_cons (pv 2) (pa_cons pe_int pa_nil))) pa_nil)))) (pg_tup rfl (pgs_cons (pg_name (i := 4) sc_Grove_with_arm_moved.nd rfl (Or.inl rfl)) (pgs_cons (pg_name (i := 5) sc_Grove_with_arm_moved.nd rfl (Or.inl rfl)) pgs_nil))) (pss_one (ps_if (pt_cmpR op_notN (pv 4) pe_non (nomark _)) (pss_cons (ps_asg (pe_dget (hu_of hr) (pv 3) (pv 4) (fun _ _ => rfl)) (pg_tup rfl (pgs_cons (pg_name (i := 6) sc_Grove_with_arm_moved.nd rfl (Or.inl rfl)) (pgs_cons (pg_name (i := 7) sc_Grove_with_arm_moved.nd rfl (Or.inl rfl)) pgs_nil)))) (pss_one (ps_dput (hu_of hr) (pv 3) (pv 4) (pe_tup (pa_cons (pv 6) (pa_cons (pe_op op_add (pv 7) (pv 5)) pa_nil))) rfl))) pss_nil))) (pss_one (ps_ret (pv 3))))), ?_⟩
    refine ⟨_, rfl, g, _, dx, _, _, rfl, hR.ins, T.cls hC, T.n_held hC, rfl, hd, kvs, rfl, .inl hR.hel, fun f hf => ?_⟩
    have S1 : Same H (upd H f (.dK kvs)) := same_new hf
    have hF1 : (upd H f (.dK kvs)) f = some (.dK kvs) := upd_same
    generalize upd H f (.dK kvs) = H1 at S1 hF1
    refine ⟨_, rfl, _, rfl, (by show 2 ≤ sizeLine; decide), fun t1 ht1 => ?_⟩
    have S2 : Same H1 (upd H1 t1 (.tup [optV old, .int (-1)])) := same_new ht1
    have h1 : (upd H1 t1 (.tup [optV old, .int (-1)])) t1 = some (.tup [optV old, .int (-1)]) := upd_same
    generalize upd H1 t1 (.tup [optV old, .int (-1)]) = H2 at S2 h1
    refine ⟨_, rfl, (by show 2 ≤ sizeLine; decide), fun t2 ht2 => ?_⟩
    have S3 : Same H2 (upd H2 t2 (.tup [optV new, .int 1])) := same_new ht2
    have h2 : (upd H2 t2 (.tup [optV new, .int 1])) t2 = some (.tup [optV new, .int 1]) := upd_same
    generalize upd H2 t2 (.tup [optV new, .int 1]) = H3 at S3 h2
    refine ⟨(by show 2 ≤ sizeLine; decide), fun t3 ht3 => ?_⟩
    have S4 : Same H3 (upd H3 t3 (.tup [.ref t1, .ref t2])) := same_new ht3
    have h3 : (upd H3 t3 (.tup [.ref t1, .ref t2])) t3 = some (.tup [.ref t1, .ref t2]) := upd_same
    generalize upd H3 t3 (.tup [.ref t1, .ref t2]) = H4 at S4 h3
    have S14 := (S2.trans S3).trans S4
    have S04 := S1.trans S14
    refine ⟨t3, rfl, ⟨_, SqT.of h3⟩, ?_⟩
    refine for_it (walk_tup (K := K) (a := t3) (xs := [.ref t1, .ref t2])) (fun k σ H' => ∃ kv x4 x5 x6 x7, σ = [some (.ref g), some (optV old), some (optV new), some (.ref f), x4, x5, x6, x7] ∧ Same H H' ∧ SameT H4 H' ∧ H' f = some (.dK kv) ∧
      HeldR K H' kv (if k = 0 then R.he else if k = 1 then bump R.he old (-1) else bump (bump R.he old (-1)) new 1) ∧ kv.length ≤ kl + k) ⟨kvs, none, none, none, none, rfl, S04, (Bt.Same.t (Same.refl _)), S14 _ _ hF1, hR.hR.mono S04, hkv⟩ (fun i σ H' _ ⟨_, _, _, _, _, _, _, S, _⟩ => sqt_T S (SqT.of h3)) ?_ ?_
    · rintro k x σ H5 H5' hk ⟨kv, x4, x5, x6, x7, rfl, S, ST, hF, hH, hl⟩ ⟨rfl, hx⟩
      obtain ⟨o, δ, t, he, hxt, hT, hδ, hH', hok, hnx⟩ : ∃ (o : Option Nat) (δ : Int) (t : Addr) (he : Nat → Option (Str × Nat)), x = .ref t ∧ SqT K H5' t [optV o, .int δ] ∧ (δ = -1 ∨ δ = 1) ∧ HeldR K H5' kv he ∧ BumpOk he o δ ∧
          (if k + 1 = 0 then R.he else if k + 1 = 1 then bump R.he old (-1) else bump (bump R.he old (-1)) new 1) = bump he o δ := by
        have hk2 : k = 0 ∨ k = 1 := by
          have : k < 2 := hk
          omega
        rcases hk2 with rfl | rfl
        · exact ⟨old, -1, t1, R.he, (Option.some.inj hx).symm, sqt_T ST (SqT.of (S4 _ _ (S3 _ _ h1))), .inl rfl, hH, ok1, rfl⟩
        · exact ⟨new, 1, t2, _, (Option.some.inj hx).symm, sqt_T ST (SqT.of (S4 _ _ h2)), .inr rfl, hH, ok2, rfl⟩
      subst hxt
      refine ⟨t, _, rfl, hT, rfl, _, _, rfl, _, _, rfl, rfl, ?_⟩
      cases o with
      | none =>
        refine ⟨_, rfl, rfl, _, rfl, iteF ?_⟩
        refine ⟨kv, _, _, _, _, rfl, S, ST, hF, ?_, by omega⟩
        have e : bump he none δ = he := by
          funext j
          exact if_neg (fun z => by cases z)
        rw [hnx, e]
        exact hH'
      | some n =>
        refine ⟨_, rfl, rfl, _, rfl, iteT ?_⟩
        obtain ⟨b, hb, hb0⟩ := hok n rfl
        obtain ⟨v, hv, hvd⟩ := hH'.som n b hb
        obtain ⟨tb, rfl, hB⟩ := bead_at hvd
        refine ⟨_, rfl, _, rfl, f, .ref tb, rfl, ?_, tb, _, rfl, hB, rfl, _, _, rfl, _, _, rfl, rfl, ?_⟩
        · rw [← hv]
          exact DGet.k (k := Sum.inl ((n : Nat) : Int)) hF
        have e1 : ((b.2 : Nat) : Int) + δ = ((((b.2 : Nat) : Int) + δ).toNat : Nat) := (Int.toNat_of_nonneg hb0).symm
        refine ⟨_, rfl, _, rfl, _, rfl, _, _, rfl, rfl, (by show 2 ≤ sizeLine; decide), fun t4 ht4 => ?_⟩
        have S6 : Same H5' (upd H5' t4 (.tup [.str b.1, .int (((b.2 : Nat) : Int) + δ)])) := same_new ht4
        have h6 : (upd H5' t4 (.tup [.str b.1, .int (((b.2 : Nat) : Int) + δ)])) t4 = some (.tup [.str b.1, .int (((b.2 : Nat) : Int) + δ)]) := upd_same
        generalize upd H5' t4 (.tup [.str b.1, .int (((b.2 : Nat) : Int) + δ)]) = H6 at S6 h6
        have hF6 := S6 _ _ hF
        refine ⟨_, rfl, _, rfl, f, _, rfl, DPut.k (k := Sum.inl ((n : Nat) : Int)) hF6 (lt_line (by have : k < 2 := hk; omega)), ?_⟩
        have T7 : SameT H6 (upd H6 f (.dK (putK kv (Sum.inl ((n : Nat) : Int)) (.ref t4)))) := sameT_upd hF6 (fun z => z)
        refine ⟨_, _, _, _, _, rfl, same_upd (S.trans S6) hf, (ST.trans (Bt.Same.t S6)).trans T7, upd_same, ?_, ?_⟩
        · have hb6 : Dp K (upd H6 f (.dK (putK kv (Sum.inl ((n : Nat) : Int)) (.ref t4)))) (.ref t4) (beadD (b.1, (((b.2 : Nat) : Int) + δ).toNat)) := by
            refine bead_mk (sqt_T T7 ?_)
            show SqT K H6 t4 [.str b.1, .int ((((b.2 : Nat) : Int) + δ).toNat : Nat)]
            rw [← e1]
            exact SqT.of h6
          have hp := (hH'.mono S6).put T7 hb6 (k := n) (by have : k < 2 := hk; omega)
          have e : bump he (some n) δ = fun j => if j = n then some (b.1, (((b.2 : Nat) : Int) + δ).toNat) else he j := by
            funext j
            show (if some n = some j then _ else _) = _
            by_cases c : j = n
            · rw [if_pos (by rw [c]), if_pos c, c, hb]
              rfl
            · rw [if_neg (fun z => c (Option.some.inj z).symm), if_neg c]
          rw [hnx, e]
          exact hp
        · have := length_putK kv (Sum.inl ((n : Nat) : Int)) (.ref t4)
          omega
    · rintro σ H5 ⟨kv, x4, x5, x6, x7, rfl, S, ST, hF, hH, hl⟩
      exact ⟨_, rfl, q f kv H5 hf S hF hH hl⟩
end
end Bt

namespace Bt
open PySem PySem.Spec PyProof.Rows L2
def spAhead (K : PySem.W.Frag) : Sp := fun vs H Q E => ∃ v p u u', vs = [v, .int p, u, .int 0, u'] ∧ Q (.int p) H
/-! ### a bead buds under the first one, and is nipped -/
abbrev abead : Str × Nat := ("a", 0)
def budO (R : RS) : List Nat := R.o.take 1 ++ [R.c] ++ R.o.drop 1
def budHe (R : RS) : Nat → Option (Str × Nat) := fun j => if j = R.c then some abead else bump (bump R.he none (-1)) (some 0) 1 j
def budRow (r : Row) : Row := (r.take 1).map (fun b => (b.1, b.2 + 1)) ++ [abead] ++ r.drop 1
def budR (R : RS) : RS := doneR R (budO R) (budHe R) (R.c + 1) (budRow R.r)
def nipR (R : RS) : RS := doneR (budR R) R.o R.he (R.c + 1) R.r
structure Ini (R : RS) : Prop where
  W : RgW R
  idn : Idn R
  c : R.c ≤ 900
  h : R.hist ≤ 900
  l : R.r.length < 60
theorem Ini.parts {R : RS} (I : Ini R) : ∃ t b rt, R.o = 0 :: t ∧ R.r = b :: rt ∧ R.he 0 = some b ∧ t.map R.he = rt.map some ∧ 0 ∉ t ∧ t.Nodup ∧ R.c ∉ R.o ∧ R.he R.c = none := by
  have h1 := I.W.good.ne
  have ho := I.idn
  unfold Idn at ho
  obtain ⟨n, hn⟩ : ∃ n, R.r.length = n + 1 := ⟨R.r.length - 1, by omega⟩
  rw [hn, List.range_succ_eq_map] at ho
  cases hr : R.r with
  | nil => rw [hr] at hn; cases hn
  | cons b rt =>
    have hrow := I.W.row
    rw [ho, hr, List.map_cons, List.map_cons] at hrow
    have e1 := (List.cons.inj hrow).1
    have e2 := (List.cons.inj hrow).2
    have hnd := I.W.nd
    rw [ho, List.nodup_cons] at hnd
    have hcn : R.he R.c = none := by
      cases e : R.he R.c with
      | none => rfl
      | some b => have := I.W.lt _ _ e; omega
    refine ⟨_, b, rt, ho, rfl, e1, e2, hnd.1, hnd.2, fun hm => ?_, hcn⟩
    obtain ⟨i, hi⟩ := List.mem_iff_getElem?.mp hm
    obtain ⟨b', _, hb'⟩ := I.W.at hi
    rw [hcn] at hb'
    cases hb'
theorem bump_none (he : Nat → Option (Str × Nat)) (δ : Int) : bump he none δ = he := by
  funext j
  exact if_neg fun z => by cases z
theorem budHe_c (R : RS) : budHe R R.c = some abead := if_pos rfl
theorem budHe_0 {R : RS} {b : Str × Nat} (hb : R.he 0 = some b) (hc : R.c ≠ 0) : budHe R 0 = some (b.1, b.2 + 1) := by
  unfold budHe
  rw [if_neg (fun z => hc z.symm), bump_none]
  unfold bump
  rw [if_pos rfl, hb]
  show some (b.1, (((b.2 : Nat) : Int) + 1).toNat) = _
  rfl
theorem budHe_n {R : RS} {j : Nat} (h0 : j ≠ 0) (hc : j ≠ R.c) : budHe R j = R.he j := by
  unfold budHe
  rw [if_neg hc, bump_none]
  unfold bump
  rw [if_neg fun z => h0 (Option.some.inj z).symm]
theorem Ini.c0 {R : RS} (I : Ini R) : R.c ≠ 0 := fun e => by
  obtain ⟨t, b, rt, ho, hr, hb, _, _, _, hc, _⟩ := I.parts
  rw [ho, e] at hc
  exact hc (List.mem_cons_self ..)
theorem nameB_a : nameB "a" = true := by decide +kernel
theorem budW {R : RS} (I : Ini R) : RgW (budR R) := by
  obtain ⟨t, b, rt, ho, hr, hb, hm, h0, hnd, hc, hcn⟩ := I.parts
  have eo : budO R = 0 :: R.c :: t := by unfold budO; rw [ho]; rfl
  have er : budRow R.r = (b.1, b.2 + 1) :: abead :: rt := by unfold budRow; rw [hr]; rfl
  have hct : R.c ∉ t := fun z => hc (by rw [ho]; exact List.mem_cons_of_mem _ z)
  have g := I.W.good
  have gl := I.l
  refine ⟨?_, ?_, ⟨?_, ?_, fun d hd => ?_, ?_⟩, fun n d hd => ?_, fun n d hd => ?_, ?_, I.W.rz, ?_⟩
  · show (budO R).map (budHe R) = (budRow R.r).map some
    rw [eo, er]
    show budHe R 0 :: budHe R R.c :: t.map (budHe R) = some (b.1, b.2 + 1) :: some abead :: rt.map some
    rw [budHe_0 hb I.c0, budHe_c, ← hm]
    have e : t.map (budHe R) = t.map R.he := List.map_congr_left fun j hj => budHe_n (fun z => h0 (by rw [← z]; exact hj)) fun z => hct (by rw [← z]; exact hj)
    rw [e]
  · show (budO R).Nodup
    rw [eo, List.nodup_cons, List.nodup_cons]
    refine ⟨fun z => ?_, hct, hnd⟩
    rcases List.mem_cons.mp z with z | z
    · exact I.c0 z.symm
    · exact h0 z
  · show 1 ≤ (budRow R.r).length
    rw [er]
    show 1 ≤ rt.length + 1 + 1
    omega
  · show (budRow R.r).length ≤ 100
    rw [er]
    rw [hr] at gl
    have gl' : rt.length + 1 < 60 := gl
    show rt.length + 1 + 1 ≤ 100
    omega
  · have hd' : d ∈ budRow R.r := hd
    rw [er] at hd'
    rcases List.mem_cons.mp hd' with e | hd'
    · rw [e]
      exact g.nm b (by rw [hr]; exact List.mem_cons_self ..)
    · rcases List.mem_cons.mp hd' with e | hd'
      · rw [e]
        exact nameB_a
      · exact g.nm d (by rw [hr]; exact List.mem_cons_of_mem _ hd')
  · show arms (budRow R.r) < (budRow R.r).length
    have hlt := g.lt
    rw [er]
    rw [hr] at hlt
    have e1 : arms ((b.1, b.2 + 1) :: abead :: rt) = (b.2 + 1) + (0 + arms rt) := rfl
    have e2 : arms (b :: rt) = b.2 + arms rt := rfl
    rw [e1]
    rw [e2] at hlt
    have hlt' : b.2 + arms rt < rt.length + 1 := hlt
    show _ < rt.length + 1 + 1
    omega
  · show n < R.c + 1
    have hd' : budHe R n = some d := hd
    by_cases c1 : n = R.c
    · omega
    · by_cases c2 : n = 0
      · omega
      · rw [budHe_n c2 c1] at hd'
        have := I.W.lt _ _ hd'
        omega
  · show n ∈ budO R
    rw [eo]
    have hd' : budHe R n = some d := hd
    by_cases c1 : n = R.c
    · rw [c1]
      exact List.mem_cons_of_mem _ (List.mem_cons_self ..)
    · by_cases c2 : n = 0
      · rw [c2]
        exact List.mem_cons_self ..
      · rw [budHe_n c2 c1] at hd'
        have := I.W.mem _ _ hd'
        rw [ho] at this
        rcases List.mem_cons.mp this with e | e
        · exact absurd e c2
        · exact List.mem_cons_of_mem _ (List.mem_cons_of_mem _ e)
  · show R.c + 1 ≤ 1000
    have := I.c
    omega
  · show R.hist + 1 ≤ 1000
    have := I.h
    omega
theorem nipW {R : RS} (I : Ini R) : RgW (nipR R) := by
  refine ⟨I.W.row, I.W.nd, I.W.good, fun n d hd => ?_, I.W.mem, ?_, I.W.rz, ?_⟩
  · show n < R.c + 1
    have := I.W.lt _ _ hd
    omega
  · show R.c + 1 ≤ 1000
    have := I.c
    omega
  · show R.hist + 1 + 1 ≤ 1000
    have := I.h
    omega
theorem bud_idx {R : RS} (I : Ini R) : (budO R).idxOf R.c = 1 := by
  obtain ⟨t, b, rt, ho, hr, hb, hm, h0, hnd, hc, hcn⟩ := I.parts
  have eo : budO R = 0 :: R.c :: t := by unfold budO; rw [ho]; rfl
  rw [eo, List.idxOf_cons, beq_eq_false_iff_ne.mpr (fun z => I.c0 z.symm), List.idxOf_cons_self]
  rfl
theorem bud_par {R : RS} (I : Ini R) : parOf (budR R) R.c = .int 0 := by
  obtain ⟨t, b, rt, ho, hr, hb, hm, h0, hnd, hc, hcn⟩ := I.parts
  have eo : budO R = 0 :: R.c :: t := by unfold budO; rw [ho]; rfl
  have er : budRow R.r = (b.1, b.2 + 1) :: abead :: rt := by unfold budRow; rw [hr]; rfl
  have W := budW I
  have h2 : 2 ≤ (budRow R.r).length := by
    rw [er]
    show 2 ≤ rt.length + 1 + 1
    omega
  have hd : 1 ≤ dn (budRow R.r) 0 := by
    unfold dn
    rw [Nat.zero_mod, er]
    show 1 ≤ b.2 + 1
    omega
  have hp := par_one (r := budRow R.r) W.good h2 hd
  unfold parOf
  have e1 : (budR R).o.idxOf R.c = 1 := bud_idx I
  rw [e1]
  have e2 : (parL (budR R).r).getD 1 none = some 0 := by
    rw [List.getD_eq_getElem?_getD]
    show ((parL (budRow R.r))[1]?).getD none = _
    rw [hp]
    rfl
  rw [e2]
  show V.int (((budO R).getD 0 0 : Nat) : Int) = _
  rw [eo]
  rfl
def spBud (K : PySem.W.Frag) : Sp := fun vs H Q E => ∃ g R hh kl H0, vs = [.ref g, .str "a", .int 0, .int 0] ∧ RgN K H0 H g (GvC K) R hh kl ∧ Ini R ∧ kl ≤ 400 ∧ R.r.length ≠ R.room ∧ ∀ H', RgN K H0 H' g (GvC K) (budR R) hh (kl + 3) → Q (.int (R.c : Nat)) H'
def spNip (K : PySem.W.Frag) : Sp := fun vs H Q E => ∃ g R hh kl H0, vs = [.ref g, .int (R.c : Nat)] ∧ RgN K H0 H g (GvC K) (budR R) hh kl ∧ Ini R ∧ kl ≤ 400 ∧ ∀ v H', RgN K H0 H' g (GvC K) (nipR R) hh (kl + 3) → Q v H'
section
variable {P : Program} {w : World} {K : PySem.W.Frag} {mg : Str → Option Value} {base : Heap}
theorem ok_Grove_ahead_of_child (T : Txt K mg) : FO P w K mg base (L2.CX P w) 1 (a_Grove_ahead_of_child K) ["self", "parent", "others", "at", "moving"] (spAhead K) := by
  refine T.d_Grove_ahead_of_child.ok sc_Grove_ahead_of_child (fun vs H Q E h => ?_) (fun cdv A outer s H vs Q E hr h => ?_)
  · obtain ⟨v, p, u, u', rfl, _⟩ := h
    rfl
  · obtain ⟨v, p, u, u', rfl, q⟩ := h
    refine ⟨_, (pss_cons (ps_if (pt_cmpR op_eq (pv 3) pe_int (nomark _)) (pss_one (ps_ret (pv 1))) pss_nil) pss_never), ?_⟩
    exact ⟨_, rfl, rfl, _, rfl, iteT ⟨_, rfl, q⟩⟩
theorem ok_Grove_bud (T : Txt K mg) : FO P w K mg base (L2.CX P w) 8 (a_Grove_bud K) ["self", "name", "parent", "at"] (spBud K) := by
  refine T.d_Grove_bud.ok sc_Grove_bud (fun vs H Q E h => ?_) (fun cdv A outer s H vs Q E hr h => ?_)
  · obtain ⟨g, R, hh, kl, H0, rfl, _⟩ := h
    rfl
  · obtain ⟨g, R, hh, kl, H0, rfl, hN, I, hkl, hroom, q⟩ := h
    have G_FullU_initU := ok_FullU_initU (P := P) (w := w) (base := base) T
    have G_Grove_ahead_of_child := ok_Grove_ahead_of_child (P := P) (w := w) (base := base) T
    have G_Grove_with_arm_moved := ok_Grove_with_arm_moved (P := P) (w := w) (base := base) T
    have G_Ring_children := ok_Ring_children (P := P) (w := w) (base := base) T
    have G_Ring_done := ok_Ring_done (P := P) (w := w) (base := base) T
    have G_is_count := ok_is_count (P := P) (w := w) (base := base) T
    have G_is_name := ok_is_name (P := P) (w := w) (base := base) T
    have G_put_behind := ok_put_behind (P := P) (w := w) (base := base) T
    have hC : IsRing K (GvC K) := .inr rfl
    have hG : GvC K = He.ga K "Grove" := rfl
    obtain ⟨dx, lo, hd, kvs, hs, hR, hkv, _⟩ := hN.ex
    obtain ⟨t, b, rt, ho, hr', hb, hm, h0, hnd, hcm, hcn⟩ := I.parts
    have W := I.W
    refine ⟨_, (pss_cons (ps_if (pt_not (pt_val (pe_call G_is_name (hr.mono (by decide)) rfl T.g_is_name T.d_is_name.kp T.b_is_name .nil passE (pa_cons (pv 1) pa_nil)))) (pss_one (ps_raise rfl (takes_of rfl rfl rfl rfl) (pmk_own PySem.F.excBase_ValueError T.x_NoName T.g_NoName T.xk_NoName (raises_own T.xs_NoName T.xt_NoName) rfl))) pss_nil) (pss_cons (ps_set (i := 4) sc_Grove_bud.nd rfl (Or.inl rfl) (pe_meth (pv 0) (T.cls hC) (T.mt_children hC) G_Ring_children (hr.mono (by decide)) T.b_Ring_children .nil passE (pa_cons (pv 2) pa_nil))) (pss_cons (ps_if (pt_not (pt_val (pe_call G_is_count (hr.mono (by decide)) rfl T.g_is_count T.d_is_count.kp T.b_is_count .nil passE (pa_cons (pv 3) (pa_cons pe_int (pa_cons (pe_callB (id := "len") call_len (by rfl) T.f_len (by decide +kernel) (pa_cons (pv 4) pa_nil)) pa_nil)))))) (pss_one (ps_raise rfl (takes_of rfl rfl rfl rfl) (pmk_own PySem.F.excBase_ValueError T.x_NoNumber T.g_NoNumber T.xk_NoNumber (raises_own T.xs_NoNumber T.xt_NoNumber) rfl))) pss_nil) (pss_cons (ps_if (pt_cmpR op_eq (pe_callB (id := "len") call_len (by rfl) T.f_len (by decide +kernel) (pa_cons (pe_fld (pv 0) rfl) pa_nil)) (pe_fld (pv 0) rfl) (nomark _)) (pss_one (ps_raise rfl (takes_of rfl rfl rfl rfl) (pmk_oex T.ox_Full T.oi_Full T.ot_Full G_FullU_initU (hr.mono (by decide)) T.b_FullU_initU .nil passL rfl T.g_Full (pa_cons (pe_fld (pv 0) rfl) pa_nil)))) pss_nil) (pss_cons (ps_set (i := 5) sc_Grove_bud.nd rfl (Or.inl rfl) (pe_fld (pv 0) rfl)) (pss_cons (ps_set (i := 6) sc_Grove_bud.nd rfl (Or.inl rfl) (pe_meth (pv 0) (T.cls hC) (T.mg_with_arm_moved hG) G_Grove_with_arm_moved (hr.mono (by decide)) T.b_Grove_with_arm_moved .nil passE (pa_cons pe_non (pa_cons (pv 2) pa_nil)))) (pss_cons (ps_dput (hu_of hr) (pv 6) (pv 5) (pe_tup (pa_cons (pv 1) (pa_cons pe_int pa_nil))) rfl) (pss_cons (ps_set (i := 7) sc_Grove_bud.nd rfl (Or.inl rfl) (pe_meth (pv 0) (T.cls hC) (T.mg_ahead_of_child hG) G_Grove_ahead_of_child (hr.mono (by decide)) T.b_Grove_ahead_of_child .nil passE (pa_cons (pv 2) (pa_cons (pv 4) (pa_cons (pv 3) (pa_cons (pe_lst pa_nil) pa_nil)))))) (pss_cons (ps_expr (pe_meth (pv 0) (T.cls hC) (T.mt_done hC) G_Ring_done (hr.mono (by decide)) T.b_Ring_done .nil passE (pa_cons (pe_call G_put_behind (hr.mono (by decide)) rfl T.g_put_behind T.d_put_behind.kp T.b_put_behind .nil passE (pa_cons (pe_fld (pv 0) rfl) (pa_cons (pv 7) (pa_cons (pe_lst (pa_cons (pv 5) pa_nil)) pa_nil)))) (pa_cons (pv 6) (pa_cons (pe_op op_add (pv 5) pe_int) pa_nil))))) (pss_one (ps_ret (pv 5)))))))))))), ?_⟩
    have nm : dName (.str "a") = true := nameB_a
    refine ⟨_, rfl, _, .str "a", rfl, .inl (.str _), (by decide +kernel), fun H1 S1 => ⟨_, rfl, ?_⟩⟩
    rw [nm]
    refine iteF ?_
    have hR1 := hR.mono S1
    have hN1 := hN.mono S1
    have hB0 : isB R (.int (0 : Nat)) = some 0 := by
      show (if (0 : Int) ≤ ((0 : Nat) : Int) ∧ (R.he 0).isSome = true then some 0 else none) = _
      rw [if_pos ⟨by omega, by rw [hb]; rfl⟩]
    refine ⟨_, rfl, g, dx, _, rfl, hR1.ins, rfl, _, rfl, g, _, R, _, .int (0 : Nat), rfl, hC, hN1.rg, W, .inl (.int _), fun n hn x H2 hx S2 hX => ?_, fun h => absurd (h.symm.trans hB0) (fun z => by cases z)⟩
    have hR2 := hR1.mono S2
    have hN2 := hN1.mono S2
    refine ⟨_, rfl, _, rfl, _, _, rfl, .inl ⟨_, .inl (.inl hX), rfl⟩, .int 0, .int 0, 0, _, rfl, .inl (.int 0), _, rfl, ?_⟩
    have ec : dCount (.int 0) 0 (((zs (kidsOf R n)).map V.int).length : Nat) = true := by
      show (decide ((0 : Int) ≤ 0) && decide ((0 : Int) ≤ (((zs (kidsOf R n)).map V.int).length : Nat))) = true
      rw [decide_eq_true (by omega), decide_eq_true (by omega)]
      rfl
    rw [ec]
    refine iteF ?_
    have ol : ((zs R.o).map V.int).length = R.r.length := by unfold zs; rw [List.length_map, List.length_map, W.len]
    refine ⟨_, rfl, g, _, dx, _, _, rfl, hR2.ins, T.cls hC, T.n_order hC, rfl, _, _, rfl, .inl ⟨_, .inl (.inl hR2.ord), rfl⟩, _, rfl, g, _, dx, _, _, rfl, hR2.ins, T.cls hC, T.n_room hC, rfl, rfl, _, rfl, ?_⟩
    rw [ol, decide_eq_false (fun z => hroom (by injection z with z; omega))]
    refine iteF ?_
    refine ⟨_, rfl, g, _, dx, _, _, rfl, hR2.ins, T.cls hC, T.n_coming hC, rfl, ?_⟩
    refine ⟨_, rfl, g, dx, _, rfl, hR2.ins, rfl, _, rfl, g, R, none, some 0, hh, kl, H0, rfl, hN2, W, by omega, (fun k hk => by cases hk), (fun k hk => ?_), fun f kv H3 hf S3 hF hH hl => ?_⟩
    · have : k = 0 := (Option.some.inj hk).symm
      subst this
      exact ⟨b, by rw [bump_none]; exact hb, by omega⟩
    have hR3 := hR2.mono S3
    have hN3 := hN2.mono S3
    refine ⟨_, rfl, (by show 2 ≤ sizeLine; decide), fun t1 ht1 => ?_⟩
    have S4 : Same H3 (upd H3 t1 (.tup [.str "a", .int 0])) := same_new ht1
    have h4 : (upd H3 t1 (.tup [.str "a", .int 0])) t1 = some (.tup [.str "a", .int 0]) := upd_same
    generalize upd H3 t1 (.tup [.str "a", .int 0]) = H4 at S4 h4
    have hF4 := S4 _ _ hF
    have klz : kv.length < 1000 := by omega
    refine ⟨_, rfl, _, rfl, f, _, rfl, DPut.k (k := Sum.inl ((R.c : Nat) : Int)) hF4 (lt_line (by omega)), ?_⟩
    -- the dict f is not told of by H2
    have hR4' := hR3.mono S4
    have n_fg : f ≠ g := fun e => by rw [e, hR4'.ins] at hF4; cases hF4
    have n_fh : f ≠ hh := fun e => by rw [e, hR4'.his] at hF4; cases hF4
    have S24 := S3.trans S4
    have S5 : Same H2 (upd H4 f (.dK (putK kv (Sum.inl ((R.c : Nat) : Int)) (.ref t1)))) := same_upd S24 hf
    have T5 : SameT H4 (upd H4 f (.dK (putK kv (Sum.inl ((R.c : Nat) : Int)) (.ref t1)))) := sameT_upd hF4 (fun z => z)
    have hF5 : (upd H4 f (.dK (putK kv (Sum.inl ((R.c : Nat) : Int)) (.ref t1)))) f = some (.dK (putK kv (Sum.inl ((R.c : Nat) : Int)) (.ref t1))) := upd_same
    have hb5 : Dp K (upd H4 f (.dK (putK kv (Sum.inl ((R.c : Nat) : Int)) (.ref t1)))) (.ref t1) (beadD abead) := bead_mk (sqt_T T5 (SqT.of h4))
    have hH5 := (hH.mono S4).put T5 hb5 (k := R.c) klz
    have hl5 := length_putK kv (Sum.inl ((R.c : Nat) : Int)) (.ref t1)
    generalize upd H4 f (.dK (putK kv (Sum.inl ((R.c : Nat) : Int)) (.ref t1))) = H5 at S5 T5 hF5 hb5 hH5
    have hR5 := hR2.mono S5
    have hN5 := hN2.mono S5
    refine ⟨_, rfl, g, dx, _, rfl, hR5.ins, rfl, _, rfl, _, rfl, _, rfl, (by show 0 ≤ sizeLine; decide), fun l0 hl0 => ⟨_, 0, _, _, rfl, ?_⟩⟩
    have S6 : Same H5 (upd H5 l0 (.lst [])) := same_new hl0
    generalize upd H5 l0 (.lst []) = H6 at S6
    have hR6 := hR5.mono S6
    refine ⟨_, rfl, g, dx, _, rfl, hR6.ins, rfl, ?_⟩
    refine ⟨_, rfl, g, _, dx, _, _, rfl, hR6.ins, T.cls hC, T.n_order hC, rfl, _, rfl, _, rfl, (by show 1 ≤ sizeLine; decide), fun l1 hl1 => ?_⟩
    have S7 : Same H6 (upd H6 l1 (.lst [.int ((R.c : Nat) : Int)])) := same_new hl1
    have h7 : (upd H6 l1 (.lst [.int ((R.c : Nat) : Int)])) l1 = some (.lst [.int ((R.c : Nat) : Int)]) := upd_same
    generalize upd H6 l1 (.lst [.int ((R.c : Nat) : Int)]) = H7 at S7 h7
    have hR7 := hR6.mono S7
    refine ⟨lo, l1, zs R.o, [((R.c : Nat) : Int)], 0, 0, rfl, hR7.ord, h7, ?_, ?_, fun m hm => by omega, fun o' H8 ho8 S8 hL8 => ?_⟩
    · have := W.good.le
      have e := W.len
      unfold zs
      rw [List.length_map]
      show _ + 1 ≤ _
      omega
    · rw [ho]
      rfl
    have S58 := (S6.trans S7).trans S8
    have hR8 := hR7.mono S8
    have n_oh : o' ≠ hh := fun e => by rw [e, hR7.his] at ho8; cases ho8
    have eL : (zs R.o).take (0 + 1) ++ [((R.c : Nat) : Int)] ++ (zs R.o).drop (0 + 1) = zs (budO R) := by
      unfold zs budO
      rw [List.map_append, List.map_append, List.map_take, List.map_drop]
      rfl
    rw [eL] at hL8
    refine ⟨_, rfl, _, rfl, _, _, rfl, rfl, ?_⟩
    refine ⟨g, _, R, hh, kl, H0, o', f, budO R, budHe R, R.c + 1, budRow R.r, _, rfl, hC, (hN5.mono S58), W, budW I, by have := I.l; omega, n_oh, (hN5.mono (S6.trans S7)).S.free ho8, hL8, S58 _ _ hF5, ?_, fun v H9 hN9 => ⟨_, rfl, q H9 ?_⟩⟩
    · have e : budHe R = fun j => if j = R.c then some abead else bump (bump R.he none (-1)) (some 0) 1 j := rfl
      rw [e]
      exact hH5.mono S58
    · obtain ⟨dx9, lo9, hd9, kvs9, hs9, hR9, hkv9, hlo9⟩ := hN9.ex
      exact ⟨hN9.S, hN9.ng, hN9.nh, dx9, lo9, hd9, kvs9, hs9, hR9, by omega, hlo9⟩
end
end Bt

namespace Bt
open PySem PySem.Spec PyProof.Rows L2
theorem valV_drop (k j : Key) : ∀ kvs : List (Key × V), valV (dropK kvs k) j = if j = k then none else valV kvs j
  | [] => by
    by_cases c : j = k
    · rw [if_pos c]; rfl
    · rw [if_neg c]; rfl
  | p :: r => by
    have ih := valV_drop k j r
    unfold dropK at ih ⊢
    rw [List.filter_cons]
    by_cases c : p.1 = k
    · rw [if_neg (by simpa using c), ih]
      by_cases d : j = k
      · rw [if_pos d, if_pos d]
      · rw [if_neg d, if_neg d, valV_neg (fun z => d (z.symm.trans c))]
    · rw [if_pos (by simpa using c)]
      by_cases e : p.1 = j
      · rw [valV_pos e, if_neg (fun z => c (e.trans z)), valV_pos e]
      · rw [valV_neg e, ih]
        by_cases d : j = k
        · rw [if_pos d, if_pos d]
        · rw [if_neg d, if_neg d, valV_neg e]
theorem nip_he {R : RS} (I : Ini R) : (fun j => if j = R.c then none else bump (bump (budHe R) (some 0) (-1)) none 1 j) = R.he := by
  obtain ⟨t, b, rt, ho, hr', hb, hm, h0, hnd, hcm, hcn⟩ := I.parts
  funext j
  rw [bump_none]
  by_cases c : j = R.c
  · rw [if_pos c, c, hcn]
  · rw [if_neg c]
    unfold bump
    by_cases d : j = 0
    · rw [d, if_pos rfl, budHe_0 hb I.c0, hb]
      show some (b.1, ((((b.2 + 1 : Nat) : Int)) + -1).toNat) = some b
      have e : ((((b.2 + 1 : Nat) : Int)) + -1).toNat = b.2 := by omega
      rw [e]
    · rw [if_neg (fun z => d (Option.some.inj z).symm), budHe_n d c]
theorem bud_filter {R : RS} (I : Ini R) : (budO R).filter (fun k => decide (k ≠ R.c)) = R.o := by
  obtain ⟨t, b, rt, ho, hr', hb, hm, h0, hnd, hcm, hcn⟩ := I.parts
  have eo : budO R = 0 :: R.c :: t := by unfold budO; rw [ho]; rfl
  have hct : ∀ k ∈ t, k ≠ R.c := fun k hk z => hcm (by rw [ho, ← z]; exact List.mem_cons_of_mem _ hk)
  rw [eo, List.filter_cons, if_pos (by simpa using fun z => I.c0 z.symm), List.filter_cons, if_neg (by simp), ho]
  congr 1
  exact List.filter_eq_self.mpr fun k hk => by simpa using hct k hk
section
variable {P : Program} {w : World} {K : PySem.W.Frag} {mg : Str → Option Value} {base : Heap}
theorem ok_Grove_nipG (T : Txt K mg) : FO P w K mg base (L2.CX P w) 8 (a_Grove_nip K) ["self", "number"] (spNip K) := by
  refine T.d_Grove_nip.ok sc_Grove_nip (fun vs H Q E h => ?_) (fun cdv A outer s H vs Q E hr h => ?_)
  · obtain ⟨g, R, hh, kl, H0, rfl, _⟩ := h
    rfl
  · obtain ⟨g, R, hh, kl, H0, rfl, hN, I, hkl, q⟩ := h
    have G_Grove_with_arm_moved := ok_Grove_with_arm_moved (P := P) (w := w) (base := base) T
    have G_Ring_done := ok_Ring_done (P := P) (w := w) (base := base) T
    have G_Ring_parent := ok_Ring_parent (P := P) (w := w) (base := base) T
    have G_Ring_trees := ok_Ring_trees (P := P) (w := w) (base := base) T
    have G_without := ok_without (P := P) (w := w) (base := base) T
    have hC : IsRing K (GvC K) := .inr rfl
    have hG : GvC K = He.ga K "Grove" := rfl
    obtain ⟨dx, lo, hd, kvs, hs, hR, hkv, _⟩ := hN.ex
    have W := budW I
    have hec : (budR R).he R.c = some abead := budHe_c R
    have hB : isB (budR R) (.int (R.c : Nat)) = some R.c := by
      show (if (0 : Int) ≤ ((R.c : Nat) : Int) ∧ ((budR R).he R.c).isSome = true then some R.c else none) = _
      rw [if_pos ⟨by omega, by rw [hec]; rfl⟩]
    refine ⟨_, (pss_cons (ps_set (i := 2) sc_Grove_nip.nd rfl (Or.inl rfl) (pe_meth (pv 0) (T.cls hC) (T.mt_parent hC) G_Ring_parent (hr.mono (by decide)) T.b_Ring_parent .nil passE (pa_cons (pv 1) pa_nil))) (pss_cons (ps_if (pt_cmpR op_gt (pe_ix ix_tup (pe_dget (hu_of hr) (pe_fld (pv 0) rfl) (pv 1) (fun _ _ => rfl)) pe_int (fun _ _ => rfl)) pe_int (nomark _)) (pss_one (ps_raise rfl (takes_of rfl rfl rfl rfl) (pmk_own PySem.F.excBase_ValueError T.x_HasArms T.g_HasArms T.xk_HasArms (raises_own T.xs_HasArms T.xt_HasArms) rfl))) pss_nil) (pss_cons (ps_if (PW.pt (pw_and (pt_cmpR op_isN (pv 2) pe_non (nomark _)) (pw_and1 (pt_cmpR op_eq (pe_meth0 (pv 0) (T.cls hC) (T.mt_trees hC) G_Ring_trees (hr.mono (by decide)) T.b_Ring_trees .nil passE) pe_int (nomark _))))) (pss_one (ps_raise rfl (takes_of rfl rfl rfl rfl) (pmk_own PySem.F.excBase_ValueError T.x_NoTree T.g_NoTree T.xk_NoTree (raises_own T.xs_NoTree T.xt_NoTree) rfl))) pss_nil) (pss_cons (ps_set (i := 3) sc_Grove_nip.nd rfl (Or.inl rfl) (pe_meth (pv 0) (T.cls hC) (T.mg_with_arm_moved hG) G_Grove_with_arm_moved (hr.mono (by decide)) T.b_Grove_with_arm_moved .nil passE (pa_cons (pv 2) (pa_cons pe_non pa_nil)))) (pss_cons (ps_expr (pe_dpop1 (pv 3) (pv 1) ⟨rfl, rfl, rfl, rfl⟩)) (pss_one (ps_expr (pe_meth (pv 0) (T.cls hC) (T.mt_done hC) G_Ring_done (hr.mono (by decide)) T.b_Ring_done .nil passE (pa_cons (pe_call G_without (hr.mono (by decide)) rfl T.g_without T.d_without.kp T.b_without .nil passE (pa_cons (pe_fld (pv 0) rfl) (pa_cons (pe_lst (pa_cons (pv 1) pa_nil)) pa_nil))) (pa_cons (pv 3) (pa_cons (pe_fld (pv 0) rfl) pa_nil))))))))))), ?_⟩
    refine ⟨_, rfl, g, dx, _, rfl, hR.ins, rfl, _, rfl, g, _, _, _, .int (R.c : Nat), rfl, hC, hN.rg, W, .inl (.int _), fun n hn H1 S1 => ?_, fun h => absurd (h.symm.trans hB) (fun z => by cases z)⟩
    have en : n = R.c := by rw [hB] at hn; exact (Option.some.inj hn).symm
    subst en
    have hR1 := hR.mono S1
    have hN1 := hN.mono S1
    rw [bud_par I]
    obtain ⟨u, hu, hud⟩ := hR1.hR.som R.c abead hec
    obtain ⟨t, rfl, hT⟩ := bead_at hud
    refine ⟨_, rfl, g, _, dx, _, _, rfl, hR1.ins, T.cls hC, T.n_held hC, rfl, _, rfl, hd, .ref t, rfl, (by rw [← hu]; exact DGet.k (k := Sum.inl ((R.c : Nat) : Int)) hR1.hel), t, _, 1, _, rfl, rfl, hT, rfl, _, _, rfl, rfl, _, rfl, ?_⟩
    refine iteF ?_
    refine ⟨_, rfl, rfl, _, rfl, iteF (iteF ?_)⟩
    obtain ⟨t0, b, rt, ho, hr', hb, hm, h0, hnd, hcm, hcn⟩ := I.parts
    refine ⟨_, rfl, g, dx, _, rfl, hR1.ins, rfl, _, rfl, g, budR R, some 0, none, hh, kl, H0, rfl, hN1, W, by omega, (fun k hk => ?_), (fun k hk => by cases hk), fun f kv H2 hf S2 hF hH hl => ?_⟩
    · have : k = 0 := (Option.some.inj hk).symm
      subst this
      exact ⟨(b.1, b.2 + 1), budHe_0 hb I.c0, by show 0 ≤ ((b.2 + 1 : Nat) : Int) + -1; omega⟩
    have hR2 := hR1.mono S2
    have hN2 := hN1.mono S2
    have hc2 : bump (bump (budR R).he (some 0) (-1)) none 1 R.c = some abead := by
      rw [bump_none]
      unfold bump
      rw [if_neg (fun z => I.c0 (Option.some.inj z).symm)]
      exact hec
    obtain ⟨v, hv, hvd⟩ := hH.som R.c abead hc2
    have n_fh : f ≠ hh := fun e => by rw [e] at hF; rw [hR2.his] at hF; cases hF
    refine ⟨_, rfl, f, rfl, .inl ⟨_, .inl hF⟩, _, rfl, kv, Sum.inl ((R.c : Nat) : Int), v, hF, rfl, hv, ?_⟩
    have S3 : Same H1 (upd H2 f (.dK (dropK kv (Sum.inl ((R.c : Nat) : Int))))) := same_upd S2 hf
    have T3 : SameT H2 (upd H2 f (.dK (dropK kv (Sum.inl ((R.c : Nat) : Int))))) := sameT_upd hF (fun z => z)
    have hF3 : (upd H2 f (.dK (dropK kv (Sum.inl ((R.c : Nat) : Int))))) f = some (.dK (dropK kv (Sum.inl ((R.c : Nat) : Int)))) := upd_same
    have hl3 := dropK_le kv (Sum.inl ((R.c : Nat) : Int))
    have hH3 : HeldR K (upd H2 f (.dK (dropK kv (Sum.inl ((R.c : Nat) : Int))))) (dropK kv (Sum.inl ((R.c : Nat) : Int))) R.he := by
      have inj : ∀ n : Nat, (Sum.inl ((n : Nat) : Int) : Key) = Sum.inl ((R.c : Nat) : Int) ↔ n = R.c := fun n => by
        constructor
        · intro z
          injection z with z
          omega
        · rintro rfl
          rfl
      refine ⟨by omega, fun n e => ?_, fun n d e => ?_⟩
      · rw [valV_drop]
        by_cases c : n = R.c
        · rw [if_pos ((inj n).mpr c)]
        · rw [if_neg (fun z => c ((inj n).mp z))]
          refine hH.non n ?_
          have e2 : (if n = R.c then none else bump (bump (budHe R) (some 0) (-1)) none 1 n) = R.he n := congrFun (nip_he I) n
          rw [if_neg c] at e2
          exact e2.trans e
      · have c : n ≠ R.c := fun z => by rw [z, hcn] at e; cases e
        have e2 : (if n = R.c then none else bump (bump (budHe R) (some 0) (-1)) none 1 n) = R.he n := congrFun (nip_he I) n
        rw [if_neg c] at e2
        obtain ⟨u, u1, u2⟩ := hH.som n d (e2.trans e)
        exact ⟨u, by rw [valV_drop, if_neg (fun z => c ((inj n).mp z))]; exact u1, dp_bead_T T3 u2⟩
    generalize upd H2 f (.dK (dropK kv (Sum.inl ((R.c : Nat) : Int)))) = H3 at S3 T3 hF3 hH3
    have hR3 := hR1.mono S3
    have hN3 := hN1.mono S3
    refine ⟨_, rfl, g, dx, _, rfl, hR3.ins, rfl, ?_⟩
    refine ⟨_, rfl, g, _, dx, _, _, rfl, hR3.ins, T.cls hC, T.n_order hC, rfl, _, rfl, (by show 1 ≤ sizeLine; decide), fun l1 hl1 => ?_⟩
    have S4 : Same H3 (upd H3 l1 (.lst [.int ((R.c : Nat) : Int)])) := same_new hl1
    have h4 : (upd H3 l1 (.lst [.int ((R.c : Nat) : Int)])) l1 = some (.lst [.int ((R.c : Nat) : Int)]) := upd_same
    generalize upd H3 l1 (.lst [.int ((R.c : Nat) : Int)]) = H4 at S4 h4
    have hR4 := hR3.mono S4
    have bl : (budO R).length ≤ 100 := by
      have e := W.len
      have := W.good.le
      have e' : (budO R).length = (budR R).r.length := e
      omega
    refine ⟨lo, l1, zs (budO R), [((R.c : Nat) : Int)], rfl, .inl (.inl hR4.ord), .inl (.inl h4), by unfold zs; rw [List.length_map]; omega, fun o' H5 ho5 S5 hL5 => ?_⟩
    rw [filter_zs, bud_filter I] at hL5
    have n_oh : o' ≠ hh := fun e => by rw [e, hR4.his] at ho5; cases ho5
    have S35 := S4.trans S5
    have hR5 := hR3.mono S35
    refine ⟨_, rfl, _, rfl, g, _, dx, _, _, rfl, hR5.ins, T.cls hC, T.n_coming hC, rfl, ?_⟩
    refine ⟨g, _, budR R, hh, kl, H0, o', f, R.o, R.he, R.c + 1, R.r, _, rfl, hC, hN3.mono S35, W, nipW I, by have := I.l; have e : (budR R).r.length = R.r.length + 1 := (by rw [hr']; show (budRow R.r).length = _; unfold budRow; rw [hr']; rfl); omega, n_oh, (hN3.mono S4).S.free ho5, hL5, S35 _ _ hF3, hH3.mono S35, fun v H9 hN9 => q .non H9 ?_⟩
    obtain ⟨dx9, lo9, hd9, kvs9, hs9, hR9, hkv9, hlo9⟩ := hN9.ex
    exact ⟨hN9.S, hN9.ng, hN9.nh, dx9, lo9, hd9, kvs9, hs9, hR9, by omega, hlo9⟩
end
end Bt

namespace Bt
open PySem PySem.Spec PyProof.Rows L2
/-! ### dict(enumerate(xs)) -/
def enumL {α : Type} : List α → Nat → List (Key × α)
  | [], _ => []
  | x :: xs, i => (Sum.inl ((i : Nat) : Int), x) :: enumL xs (i + 1)
theorem enumL_len {α : Type} : ∀ (xs : List α) (i : Nat), (enumL xs i).length = xs.length
  | [], _ => rfl
  | x :: xs, i => by
    show (enumL xs (i + 1)).length + 1 = xs.length + 1
    rw [enumL_len]
theorem enumL_get {α : Type} : ∀ (xs : List α) (i j : Nat), (enumL xs i)[j]? = (xs[j]?).map fun x => (Sum.inl ((i + j : Nat) : Int), x)
  | [], i, j => by simp [enumL]
  | x :: xs, i, 0 => rfl
  | x :: xs, i, j + 1 => by
    show (enumL xs (i + 1))[j]? = _
    rw [enumL_get xs (i + 1) j, List.getElem?_cons_succ]
    have e : i + 1 + j = i + (j + 1) := by omega
    rw [e]
theorem enumL_kv {xs : List V} {us : List Value} (r : Vals xs us) : ∀ i, KV (enumL xs i) (enumL us i) := by
  induction r with
  | nil => intro i; exact .nil
  | cons h t ih => intro i; exact .cons ⟨rfl, h⟩ (ih (i + 1))
theorem enumL_val : ∀ (xs : List V) (i n : Nat), valV (enumL xs i) (Sum.inl ((n : Nat) : Int)) = if i ≤ n then xs[n - i]? else none
  | [], i, n => by
    by_cases c : i ≤ n
    · rw [if_pos c]; rfl
    · rw [if_neg c]; rfl
  | x :: xs, i, n => by
    by_cases e : i = n
    · subst e
      rw [if_pos (Nat.le_refl _), Nat.sub_self]
      exact valV_pos rfl
    · have ne : ¬ (Sum.inl ((i : Nat) : Int) : Key) = Sum.inl ((n : Nat) : Int) := fun z => by
        injection z with z
        omega
      show valV ((Sum.inl ((i : Nat) : Int), x) :: enumL xs (i + 1)) _ = _
      rw [valV_neg ne, enumL_val xs (i + 1) n]
      by_cases c : i ≤ n
      · have c2 : i + 1 ≤ n := by omega
        rw [if_pos c, if_pos c2]
        have e3 : n - i = (n - (i + 1)) + 1 := by omega
        rw [e3, List.getElem?_cons_succ]
      · rw [if_neg c, if_neg (by omega)]
theorem enumL_merge : ∀ (xs : List V) (i : Nat) (acc : List (Key × V)), (∀ p ∈ acc, ∃ j : Nat, p.1 = Sum.inl ((j : Nat) : Int) ∧ j < i) → mergeK acc (enumL xs i) = acc ++ enumL xs i
  | [], i, acc, _ => (List.append_nil acc).symm
  | x :: xs, i, acc, h => by
    show mergeK (putK acc (Sum.inl ((i : Nat) : Int)) x) (enumL xs (i + 1)) = _
    have hn : valV acc (Sum.inl ((i : Nat) : Int)) = none := by
      have h2 : (acc.any fun kv => decide (kv.1 = Sum.inl ((i : Nat) : Int))) = false := by
        rw [List.any_eq_false]
        intro p hp hd
        obtain ⟨j, e, hj⟩ := h p hp
        have z := of_decide_eq_true hd
        rw [e] at z
        injection z with z
        omega
      rw [valV_any] at h2
      cases e : valV acc (Sum.inl ((i : Nat) : Int)) with
      | none => rfl
      | some v => rw [e] at h2; cases h2
    rw [putK_new _ hn, enumL_merge xs (i + 1) _ fun p hp => ?_]
    · rw [List.append_assoc]
      rfl
    · rcases List.mem_append.mp hp with h1 | h1
      · obtain ⟨j, e, hj⟩ := h p h1
        exact ⟨j, e, by omega⟩
      · have e : p = (Sum.inl ((i : Nat) : Int), x) := by simpa using h1
        exact ⟨i, by rw [e], by omega⟩
def tDEnum (K : PySem.W.Frag) (te : TE) : TE := fun σ H Q => te σ H fun x H1 => ∃ a xs, x = .ref a ∧ SqL K H1 a xs ∧ ∀ p, H1 p = none → Q (.ref p) (upd H1 p (.dK (enumL xs 0)))
theorem pe_dictEnum {X : Cx} {e : Expr} {te : TE} {p1 p2 pos1 pos2 : Pos} (hc : X.calm = true) (hg : Gl X "dict") (hm : X.mg "dict" = none) (hg2 : Gl X "enumerate") (hm2 : X.mg "enumerate" = none) (he : PE X e te)
    (n1 : starEach [.Call (.Name "enumerate" p2) [e] [] pos2] X.env = (false, eval (.Call (.Name "enumerate" p2) [e] [] pos2) X.env) :: starEach [] X.env := by rfl)
    (n2 : starEach [e] X.env = (false, eval e X.env) :: starEach [] X.env := by rfl) :
    PE X (.Call (.Name "dict" p1) [.Call (.Name "enumerate" p2) [e] [] pos2] [] pos1) (tDEnum X.K te) := by
  refine ⟨fun pins s σ H Q I h => ?_⟩
  refine Call_ (ld_blt I hg hm PyProof.Rows.boot_dict (PyProof.Rows.callWith_type1 (args_cons (wpAny_mono (Q := fun u s1 => ∃ it e' l items xs H1, u = .ref e' ∧ (∃ old, IsEnum s1.heap e' it 0 old) ∧ s1.heap.IsListIter it l 0 ∧ s1.heap.IsList l items ∧ e' ≠ it ∧ l ≠ e' ∧ l ≠ it ∧ Inv X pins σ H1 s1 ∧ (∀ b ∈ [e', it], FpOk X pins H1 b) ∧ Vals xs items.toList ∧ xs.length ≤ sizeLine ∧
    (∀ p, H1 p = none → Q (.ref p) (upd H1 p (.dK (enumL xs 0))))) ?_ (fun u s1 hq => args_nil ?_) (fun _ _ z => z)) n1) n1))
  · refine Call_ (ld_blt I hg2 hm2 boot_enumerate (PyProof.Rows.callWith_type1 (args_cons (thn (he.run pins s σ H _ I h) fun v s1 ⟨x, H1, I1, r, a, xs, ex, hq, q⟩ => args_nil ?_) n2) n2))
    subst ex
    cases r
    obtain ⟨its, rv, pl, hz⟩ := I1.list hq
    have hal : a < s1.heap.objs.size := by
      obtain ⟨o, ho, _⟩ := pl.isList
      exact Heap.lt_size ho
    refine call_enumerate_list pl.isList fun h' hen hit hsz hk => ?_
    refine ⟨s1.heap.objs.size, s1.heap.objs.size + 1, a, its.toArray, xs, H1, rfl, ⟨_, hen⟩, hit, pl.isList.at fun o z => hk _ _ z, Nat.succ_ne_self _, Nat.ne_of_lt (Nat.lt_succ_of_lt hal), Nat.ne_of_lt hal, I1.kept (t' := s1.toks) hk, fun b hb => ?_, by simpa using rv, hz, q⟩
    have hle : s1.heap.objs.size ≤ b := by
      have e' : b = s1.heap.objs.size + 1 ∨ b = s1.heap.objs.size := by simpa using hb
      rcases e' with z | z
      · rw [z]; exact Nat.le_add_right _ _
      · rw [z]; exact Nat.le_refl _
    exact I1.fpOk hle (I1.hok.fresh hle)
  · obtain ⟨it, e', l, items, xs, H1, eu, hen, hit, hl, n1, n2, n3, I1, hf, rv, hz, q⟩ := hq
    subst eu
    have ev : (enumL items.toList 0).length = items.size := by rw [enumL_len, Array.length_toList]
    have hzs : items.size ≤ sizeLine := by
      have e : xs.length = items.toList.length := Paired.length rv
      exact Nat.le_trans (Nat.le_of_eq ((Array.length_toList (xs := items)).symm.trans e.symm)) hz
    refine PySem.call_dict_pairs (knd := mixKind X.prog X.w) (kvs := enumL items.toList 0) (PairArg.enumerate e' it l n1 n2 n3 items) (I1.ok.hd hc) ⟨hen, hit, hl⟩ ⟨ev, fun i key v hk => ?_⟩ hzs fun h' tk hd' k => ?_
    · obtain ⟨⟨t, rfl⟩, hv⟩ := hk
      refine ⟨Sum.inl ((i : Nat) : Int), ?_, ?_⟩
      · rw [enumL_get, Array.getElem?_toList, hv, Nat.zero_add]
        rfl
      · exact kV_is (k := Sum.inl ((i : Nat) : Int)) ⟨t, rfl⟩
    · have hm : (s1.heap.objs.size == sysModules) = false := beq_eq_false_iff_ne.mpr (Nat.ne_of_gt I1.big)
      have em := enumL_merge xs 0 [] (fun p hp => by cases hp)
      rw [List.nil_append] at em
      have rel : KV (enumL xs 0) (merged [] (enumL items.toList 0)) := by
        rw [← em]
        exact KV.merge (enumL_kv rv 0) .nil
      refine ⟨.ref s1.heap.objs.size, upd H1 s1.heap.objs.size (.dK (enumL xs 0)), I1.turnedNew (t' := tk) k hf (Nat.le_refl _) (show ObjOk X.prog X.w _ _ _ (.dK (enumL xs 0)) from ⟨by rw [enumL_len]; exact hz, hm, _, rel, hd'⟩), rfl, q _ (I1.hok.fresh (Nat.le_refl _))⟩
end Bt

namespace Bt
open PySem PySem.Spec PyProof.Rows L2
def newR (r : Row) (m : Nat) : RS := ⟨List.range r.length, fun i => r[i]?, r.length, m, 0, r⟩
theorem newW {r : Row} (g : Good r) {m : Nat} (hm : m ≤ 100) : RgW (newR r m) := by
  refine ⟨?_, List.nodup_range, g, fun n b h => (List.getElem?_eq_some_iff.mp h).1, fun n b h => List.mem_range.mpr (List.getElem?_eq_some_iff.mp h).1, by show r.length ≤ 1000; have := g.le; omega, by show m ≤ 1000; omega, by show 0 ≤ 1000; omega⟩
  show (List.range r.length).map (fun i => r[i]?) = r.map some
  apply List.ext_getElem?
  intro i
  rw [List.getElem?_map, List.getElem?_map]
  by_cases c : i < r.length
  · rw [List.getElem?_range c, List.getElem?_eq_getElem c]
    simp
  · rw [List.getElem?_eq_none (by rw [List.length_range]; omega), List.getElem?_eq_none (by omega)]
    rfl
def spInit (K : PySem.W.Frag) : Sp := fun vs H Q E => ∃ g C dx bv mv, vs = [.ref g, bv, mv] ∧ IsRing K C ∧ H g = some (.ins C dx []) ∧
  ((∃ d, TD K H bv d ∧ small d = true ∧ dRow d = false ∧ XE K "NoRow" H E) ∨
   (∃ r dm, Dp K H bv (.list (rowD r)) ∧ Good r ∧ TD K H mv dm ∧ dCount dm (r.length : Nat) 100 = false ∧ XE K "NoNumber" H E) ∨
   (∃ r, ∃ m : Nat, Dp K H bv (.list (rowD r)) ∧ Good r ∧ mv = .int (m : Nat) ∧ r.length ≤ m ∧ m ≤ 100 ∧ ∀ H' hh, (∀ H0, Same H0 H → H0 g = none → RgN K H0 H' g C (newR r m) hh r.length) → Q .non H'))
theorem sql_ins {K : PySem.W.Frag} {H H' : Hp} {g C dx a : Addr} {fs : List (Str × V)} {xs : List V} (hg : H g = some (.ins C dx fs)) (k : ∀ b u, b ≠ g → H b = some u → H' b = some u) (h : SqL K H a xs) : SqL K H' a xs := by
  rcases h with (h | ⟨o, h⟩) | h
  · exact .inl (.inl (k _ _ (fun e => by rw [e, hg] at h; cases h) h))
  · exact .inl (.inr ⟨o, k _ _ (fun e => by rw [e, hg] at h; cases h) h⟩)
  · exact .inr h
def BeadsAt (K : PySem.W.Frag) (H : Hp) (xs : List V) (r : Row) : Prop := ∀ (i : Nat) (b : Str × Nat), r[i]? = some b → ∃ v, xs[i]? = some v ∧ Dp K H v (beadD b)
theorem BeadsAt.monoT {K : PySem.W.Frag} {H H' : Hp} {xs : List V} {r : Row} (h : BeadsAt K H xs r) (S : SameT H H') : BeadsAt K H' xs r := fun i b e => by
  obtain ⟨v, e1, e2⟩ := h i b e
  exact ⟨v, e1, dp_bead_T S e2⟩
theorem beadsAt_of {K : PySem.W.Frag} {H : Hp} {xs : List V} {r : Row} (h : DpAll K H xs (rowD r)) : BeadsAt K H xs r := fun i b e => h.get (rowD_get e)
/-- one field of the new ring is set -/
structure Step (H0 H H' : Hp) (g : Addr) (o : HO) : Prop where
  kp : ∀ b u, b ≠ g → H b = some u → H' b = some u
  at_ : H' g = some o
  T : SameT H H'
  S : ∀ H0' , Same H0' H → H0' g = none → Same H0' H'
theorem step_of {H0 H : Hp} {g C dx : Addr} {fs fs' : List (Str × V)} (hg : H g = some (.ins C dx fs)) : Step H0 H (upd H g (.ins C dx fs')) g (.ins C dx fs') :=
  ⟨fun b u n e => (upd_ne n).trans e, upd_same, sameT_upd hg (fun z => z), fun H0' S n => same_upd S n⟩
section
variable {P : Program} {w : World} {K : PySem.W.Frag} {mg : Str → Option Value} {base : Heap}
theorem ok_RingU_initU (T : Txt K mg) : FO P w K mg base (L2.CX P w) 4 (a_RingU_initU K) ["self", "beads", "most"] (spInit K) := by
  refine T.d_RingU_initU.ok sc_RingU_initU (fun vs H Q E h => ?_) (fun cdv A outer s H vs Q E hr h => ?_)
  · obtain ⟨g, C, dx, bv, mv, rfl, _⟩ := h
    rfl
  · obtain ⟨g, C, dx, bv, mv, rfl, hC, hg, q⟩ := h
    have G_is_count := ok_is_count (P := P) (w := w) (base := base) T
    have G_is_row := ok_is_row (P := P) (w := w) (base := base) T
    refine ⟨_, (pss_cons (ps_if (pt_not (pt_val (pe_call G_is_row (hr.mono (by decide)) rfl T.g_is_row T.d_is_row.kp T.b_is_row .nil passE (pa_cons (pv 1) pa_nil)))) (pss_one (ps_raise rfl (takes_of rfl rfl rfl rfl) (pmk_own PySem.F.excBase_ValueError T.x_NoRow T.g_NoRow T.xk_NoRow (raises_own T.xs_NoRow T.xt_NoRow) rfl))) pss_nil) (pss_cons (ps_if (pt_not (pt_val (pe_call G_is_count (hr.mono (by decide)) rfl T.g_is_count T.d_is_count.kp T.b_is_count .nil passE (pa_cons (pv 2) (pa_cons (pe_callB (id := "len") call_len (by rfl) T.f_len (by decide +kernel) (pa_cons (pv 1) pa_nil)) (pa_cons (pe_gint T.most) pa_nil)))))) (pss_one (ps_raise rfl (takes_of rfl rfl rfl rfl) (pmk_own PySem.F.excBase_ValueError T.x_NoNumber T.g_NoNumber T.xk_NoNumber (raises_own T.xs_NoNumber T.xt_NoNumber) rfl))) pss_nil) (pss_cons (ps_fld (pv 0) (pe_listRg (by rfl) rfl T.f_list (prg_1 rfl T.f_range (pe_callB (id := "len") call_len (by rfl) T.f_len (by decide +kernel) (pa_cons (pv 1) pa_nil)))) rfl) (pss_cons (ps_fld (pv 0) (pe_dictEnum (by rfl) rfl T.f_dict rfl T.f_enumerate (pv 1)) rfl) (pss_cons (ps_fld (pv 0) (pe_callB (id := "len") call_len (by rfl) T.f_len (by decide +kernel) (pa_cons (pv 1) pa_nil)) rfl) (pss_cons (ps_fld (pv 0) (pe_lst pa_nil) rfl) (pss_one (ps_fld (pv 0) (pv 2) rfl)))))))), ?_⟩
    rcases q with ⟨d, hd, hs, hdr, q⟩ | ⟨r, dm, hd, gd, hm, hc, q⟩ | ⟨r, m, hd, gd, rfl, m1, m2, q⟩
    · refine ⟨_, rfl, bv, d, rfl, hd, hs, fun H1 S1 => ⟨_, rfl, ?_⟩⟩
      rw [hdr]
      exact iteT (q H1 S1)
    · refine ⟨_, rfl, bv, _, rfl, .inl hd, (show small (.list (rowD r)) = true from gd.sm), fun H1 S1 => ⟨_, rfl, ?_⟩⟩
      have er : dRow (.list (rowD r)) = true := gd.row
      rw [er]
      refine iteF ?_
      obtain ⟨a, xs, rfl, hL, hA⟩ := (hd.mono S1).lstI
      have hx : xs.length = r.length := by rw [hA.len, rowD_len]
      refine ⟨_, rfl, _, rfl, _, xs.length, rfl, .inl ⟨xs, hL, rfl⟩, mv, dm, _, _, rfl, hm.mono S1, _, rfl, ?_⟩
      rw [hx, hc]
      exact iteT (q H1 S1)
    · refine ⟨_, rfl, bv, _, rfl, .inl hd, (show small (.list (rowD r)) = true from gd.sm), fun H1 S1 => ⟨_, rfl, ?_⟩⟩
      have er : dRow (.list (rowD r)) = true := gd.row
      rw [er]
      refine iteF ?_
      obtain ⟨a, xs, rfl, hL, hA⟩ := (hd.mono S1).lstI
      have hx : xs.length = r.length := by rw [hA.len, rowD_len]
      have h1 := gd.ne
      have h100 := gd.le
      refine ⟨_, rfl, _, rfl, _, xs.length, rfl, .inl ⟨xs, hL, rfl⟩, _, .int (m : Nat), _, _, rfl, .inl (.int _), _, rfl, ?_⟩
      have ed : dCount (.int (m : Nat)) (xs.length : Nat) 100 = true := by
        show (decide (((xs.length : Nat) : Int) ≤ (m : Nat)) && decide (((m : Nat) : Int) ≤ 100)) = true
        rw [decide_eq_true (by omega), decide_eq_true (by omega)]
        rfl
      rw [ed]
      refine iteF ?_
      refine ⟨_, rfl, _, xs.length, rfl, .inl ⟨xs, hL, rfl⟩, _, rfl, RgOk.of_le (by omega) (by omega) (by omega) (by omega), fun lo hlo => ?_⟩
      have n0lo : ∀ H0, Same H0 H → H0 lo = none := fun H0 S => (S.trans S1).free hlo
      have S2 : Same H1 (upd H1 lo (.lst (rgV 0 (xs.length : Nat)))) := same_new hlo
      have e0 : rgV 0 ((xs.length : Nat) : Int) = (zs (List.range r.length)).map V.int := by
        unfold rgV zs
        rw [Int.sub_zero, hx, List.map_map]
        show (List.range r.length).map _ = _
        apply List.map_congr_left
        intro k _
        show V.int (0 + ((k : Nat) : Int)) = V.int ((k : Nat) : Int)
        rw [Int.zero_add]
      rw [e0] at S2 ⊢
      have hlo2 : (upd H1 lo (.lst ((zs (List.range r.length)).map V.int))) lo = some (.lst ((zs (List.range r.length)).map V.int)) := upd_same
      generalize upd H1 lo (.lst ((zs (List.range r.length)).map V.int)) = H2 at S2 hlo2
      have hg2 := S2 _ _ (S1 _ _ hg)
      have SL2 := same_l S2 hL
      have BA2 := beadsAt_of (hA.mono S2)
      have P2 : ∀ H0, Same H0 H → H0 g = none → Same H0 H2 := fun H0 S _ => (S.trans S1).trans S2
      refine ⟨_, rfl, g, C, dx, _, rfl, hg2, T.cls hC, T.n_order hC, (by show 0 < 1000; decide), ?_⟩
      have st3 := step_of (H0 := H) (fs' := putF "order" (.ref lo) []) hg2
      generalize upd H2 g (.ins C dx (putF "order" (.ref lo) [])) = H3 at st3
      have SL3 := sql_ins hg2 st3.kp SL2
      have nlo : lo ≠ g := fun e => by rw [e, hg2] at hlo2; cases hlo2
      have hlo3 := st3.kp _ _ nlo hlo2
      have BA3 := BA2.monoT st3.T
      have P3 : ∀ H0, Same H0 H → H0 g = none → Same H0 H3 := fun H0 S n => st3.S H0 (P2 H0 S n) n
      refine ⟨_, rfl, a, xs, rfl, SL3, fun hd hhd => ⟨_, rfl, ?_⟩⟩
      have S4 : Same H3 (upd H3 hd (.dK (enumL xs 0))) := same_new hhd
      have hhd4 : (upd H3 hd (.dK (enumL xs 0))) hd = some (.dK (enumL xs 0)) := upd_same
      generalize upd H3 hd (.dK (enumL xs 0)) = H4 at S4 hhd4
      have hg4 := S4 _ _ st3.at_
      refine ⟨g, C, dx, _, rfl, hg4, T.cls hC, T.n_held hC, (by show 1 < 1000; decide), ?_⟩
      have st5 := step_of (H0 := H) (fs' := putF "held" (.ref hd) (putF "order" (.ref lo) [])) hg4
      generalize upd H4 g (.ins C dx (putF "held" (.ref hd) (putF "order" (.ref lo) []))) = H5 at st5
      have nhd : hd ≠ g := fun e => by rw [e, hg4] at hhd4; cases hhd4
      have hhd5 := st5.kp _ _ nhd hhd4
      have SL5 := sql_ins hg4 st5.kp (same_l S4 SL3)
      have hlo5 := st5.kp _ _ nlo (S4 _ _ hlo3)
      have BA5 := (BA3.monoT (Bt.Same.t S4)).monoT st5.T
      have P5 : ∀ H0, Same H0 H → H0 g = none → Same H0 H5 := fun H0 S n => st5.S H0 ((P3 H0 S n).trans S4) n
      refine ⟨_, rfl, _, xs.length, rfl, .inl ⟨xs, SL5, rfl⟩, _, rfl, g, C, dx, _, rfl, st5.at_, T.cls hC, T.n_coming hC, (by show 2 < 1000; decide), ?_⟩
      have st6 := step_of (H0 := H) (fs' := putF "coming" (.int ((xs.length : Nat) : Int)) (putF "held" (.ref hd) (putF "order" (.ref lo) []))) st5.at_
      generalize upd H5 g (.ins C dx (putF "coming" (.int ((xs.length : Nat) : Int)) (putF "held" (.ref hd) (putF "order" (.ref lo) [])))) = H6 at st6
      refine ⟨(by show 0 ≤ sizeLine; decide), fun hh hhh => ⟨_, rfl, ?_⟩⟩
      have S7 : Same H6 (upd H6 hh (.lst [])) := same_new hhh
      have hhh7 : (upd H6 hh (.lst [])) hh = some (.lst []) := upd_same
      generalize upd H6 hh (.lst []) = H7 at S7 hhh7
      have hg7 := S7 _ _ st6.at_
      refine ⟨g, C, dx, _, rfl, hg7, T.cls hC, T.n_history hC, (by show 3 < 1000; decide), ?_⟩
      have st8 := step_of (H0 := H) (fs' := putF "history" (.ref hh) (putF "coming" (.int ((xs.length : Nat) : Int)) (putF "held" (.ref hd) (putF "order" (.ref lo) [])))) hg7
      generalize upd H7 g (.ins C dx (putF "history" (.ref hh) (putF "coming" (.int ((xs.length : Nat) : Int)) (putF "held" (.ref hd) (putF "order" (.ref lo) []))))) = H8 at st8
      have nhh : hh ≠ g := fun e => by rw [e, hg7] at hhh7; cases hhh7
      refine ⟨_, rfl, _, rfl, g, C, dx, _, rfl, st8.at_, T.cls hC, T.n_room hC, (by show 4 < 1000; decide), ?_⟩
      have st9 := step_of (H0 := H) (fs' := putF "room" (.int ((m : Nat) : Int)) (putF "history" (.ref hh) (putF "coming" (.int ((xs.length : Nat) : Int)) (putF "held" (.ref hd) (putF "order" (.ref lo) []))))) st8.at_
      generalize upd H8 g (.ins C dx (putF "room" (.int ((m : Nat) : Int)) (putF "history" (.ref hh) (putF "coming" (.int ((xs.length : Nat) : Int)) (putF "held" (.ref hd) (putF "order" (.ref lo) [])))))) = H9 at st9
      have P6 : ∀ H0, Same H0 H → H0 g = none → Same H0 H6 := fun H0 S n => st6.S H0 (P5 H0 S n) n
      have P9 : ∀ H0, Same H0 H → H0 g = none → Same H0 H9 := fun H0 S n => st9.S H0 (st8.S H0 ((P6 H0 S n).trans S7) n) n
      have kp : ∀ b u, b ≠ g → H6 b = some u → H9 b = some u := fun b u n e => st9.kp b u n (st8.kp b u n (S7 b u e))
      have BA9 : BeadsAt K H9 xs r := BA5.monoT (st6.T.trans ((Bt.Same.t S7).trans (st8.T.trans st9.T)))
      refine q H9 hh fun H0 S0 n0 => ⟨P9 H0 S0 n0, n0, (P6 H0 S0 n0).free hhh, dx, lo, hd, enumL xs 0, [], ⟨?_, ?_, ?_, ⟨?_, fun n e => ?_, fun n b e => ?_⟩, ?_, rfl⟩, ?_, n0lo H0 S0⟩
      · rw [hx] at st9
        exact st9.at_
      · exact kp _ _ nlo (st6.kp _ _ nlo hlo5)
      · exact kp _ _ nhd (st6.kp _ _ nhd hhd5)
      · rw [enumL_len]
        omega
      · have e' : r[n]? = none := e
        rw [enumL_val, if_pos (Nat.zero_le _), Nat.sub_zero]
        exact List.getElem?_eq_none (by have := List.getElem?_eq_none_iff.mp e'; omega)
      · obtain ⟨v, e1, e2⟩ := BA9 n b e
        exact ⟨v, by rw [enumL_val, if_pos (Nat.zero_le _), Nat.sub_zero]; exact e1, e2⟩
      · exact st9.kp _ _ nhh (st8.kp _ _ nhh hhh7)
      · rw [enumL_len]
        omega
end
end Bt

namespace Bt
open PySem PySem.Spec PyProof.Rows L2
/-! ### the pot, apart from all else -/
def hide (p : Addr) (H : Hp) : Hp := fun b => if b = p then none else H b
theorem hide_ne {p b : Addr} {H : Hp} (h : b ≠ p) : hide p H b = H b := if_neg h
theorem hide_at {p : Addr} {H : Hp} : hide p H p = none := if_pos rfl
theorem hide_le (p : Addr) (H : Hp) : Same (hide p H) H := fun b u e => by
  by_cases c : b = p
  · rw [c, hide_at] at e
    cases e
  · rw [hide_ne c] at e
    exact e
theorem hide_same {p : Addr} {H H' : Hp} (S : Same H H') : Same (hide p H) (hide p H') := fun b u e => by
  by_cases c : b = p
  · rw [c, hide_at] at e
    cases e
  · rw [hide_ne c] at e ⊢
    exact S b u e
theorem hide_updp {p : Addr} {H : Hp} {o : HO} : hide p (upd H p o) = hide p H := by
  funext b
  by_cases c : b = p
  · rw [c, hide_at, hide_at]
  · rw [hide_ne c, hide_ne c, upd_ne c]
theorem hide_upd {p a : Addr} {H : Hp} {o : HO} (h : a ≠ p) : hide p (upd H a o) = upd (hide p H) a o := by
  funext b
  by_cases c : b = p
  · rw [c, hide_at, upd_ne (Ne.symm h), hide_at]
  · rw [hide_ne c]
    by_cases d : b = a
    · rw [d, upd_same, upd_same]
    · rw [upd_ne d, upd_ne d, hide_ne c]
def Pot (H : Hp) (p : Addr) : Prop := ∃ a b : Int, H p = some (.lst [.int a, .int b]) ∧ 0 ≤ b ∧ b < 2147483629
theorem Pot.mono {H H' : Hp} {p : Addr} (h : Pot H p) (S : Same H H') : Pot H' p := by
  obtain ⟨a, b, e, h1, h2⟩ := h
  exact ⟨a, b, S _ _ e, h1, h2⟩
theorem Pot.ne {H : Hp} {p q : Addr} (h : Pot H p) (n : H q = none) : q ≠ p := fun e => by
  obtain ⟨a, b, e2, _⟩ := h
  rw [e, e2] at n
  cases n
/-- only the pot is stirred, the rest grows -/
structure SP (p : Addr) (H H' : Hp) : Prop where
  S : Same (hide p H) (hide p H')
  pot : Pot H' p
theorem SP.trans {p : Addr} {H H' H'' : Hp} (a : SP p H H') (b : SP p H' H'') : SP p H H'' := ⟨a.S.trans b.S, b.pot⟩
theorem SP.of {p : Addr} {H H' : Hp} (h : Pot H p) (S : Same H H') : SP p H H' := ⟨hide_same S, h.mono S⟩
theorem SP.same {p : Addr} {H H' H'' : Hp} (a : SP p H H') (S : Same H' H'') : SP p H H'' := a.trans (SP.of a.pot S)
theorem SP.up {p : Addr} {H H' : Hp} (a : SP p H H') : Same (hide p H) H' := a.S.trans (hide_le p H')
theorem SP.new {p q : Addr} {H H' : Hp} {o : HO} (a : SP p H H') (h : H' q = none) : SP p H (upd H' q o) := a.same (same_new h)
theorem SP.free {p q : Addr} {H H' : Hp} (a : SP p H H') (h : H' q = none) (hp : Pot H p) : H q = none := by
  have n := a.pot.ne h
  have : hide p H' q = none := by rw [hide_ne n]; exact h
  have := a.S.free this
  rw [hide_ne n] at this
  exact this
/-- an object that stands apart from the pot -/
theorem SP.at {p q : Addr} {H H' : Hp} {o : HO} (a : SP p H H') (e : H q = some o) (n : q ≠ p) : H' q = some o := a.up _ _ (by rw [hide_ne n]; exact e)
theorem hide_get {p q : Addr} {H : Hp} {o : HO} (e : H q = some o) (n : q ≠ p) : hide p H q = some o := by rw [hide_ne n]; exact e
def spPot (K : PySem.W.Frag) : Sp := fun vs H Q E => ∃ s, ∃ xs : List Int, ∃ k : Nat, vs = [.ref s, .int (k : Nat)] ∧ SqL K H s (xs.map V.int) ∧ k ≤ 1000 ∧ ∀ p H', H p = none → Same H H' → Pot H' p → Q (.ref p) H'
def spDraw (K : PySem.W.Frag) : Sp := fun vs H Q E => ∃ p m, vs = [.ref p, .int m] ∧ Pot H p ∧ 0 < m ∧ m.natAbs.log2 < 9000 ∧ ∀ d H', 0 ≤ d → d < m → SP p H H' → Q (.int d) H'
def spTreesL (K : PySem.W.Frag) : Sp := fun vs H Q E => ∃ p, ∃ n : Nat, vs = [.ref p, .int (n : Nat)] ∧ Pot H p ∧ 1 ≤ n ∧ n ≤ 1000 ∧ ∀ (t : Nat) H', 1 ≤ t → t ≤ n → SP p H H' → Q (.int (t : Nat)) H'
theorem log2_small {m : Int} (h0 : 0 < m) (h : m < 2 ^ 200) : m.natAbs.log2 < 9000 := by
  have h1 : m.natAbs < 2 ^ 200 := by
    have : ((m.natAbs : Nat) : Int) = m := by omega
    have h2 : ((m.natAbs : Nat) : Int) < ((2 ^ 200 : Nat) : Int) := by rw [this]; exact_mod_cast h
    exact Int.ofNat_lt.mp h2
  have := (Nat.log2_lt (by omega)).mpr h1
  omega
section
variable {P : Program} {w : World} {K : PySem.W.Frag} {mg : Str → Option Value} {base : Heap}
theorem ok__law_pot (T : Txt K mg) : FO P w K mg base (L2.CX P w) 1 (a__law_pot K) ["_law_script", "_law_k"] (spPot K) := by
  refine T.d__law_pot.ok sc__law_pot (fun vs H Q E h => ?_) (fun cdv A outer s H vs Q E hr h => ?_)
  · obtain ⟨s, xs, k, rfl, _⟩ := h
    rfl
  · obtain ⟨sc, xs, k, rfl, hs, hk, q⟩ := h
    refine ⟨_, (pss_cons (ps_set (i := 2) sc__law_pot.nd rfl (Or.inl rfl) pe_int) (pss_cons (ps_if (pt_cmpR op_lt (pv 1) (pe_callB (id := "len") call_len (by rfl) T.f_len (by decide +kernel) (pa_cons (pv 0) pa_nil)) (nomark _)) (pss_one (ps_set (i := 2) sc__law_pot.nd rfl (Or.inl rfl) (pe_ix ix_list (pv 0) (pv 1) (fun _ _ => rfl)))) pss_nil) (pss_one (ps_ret (pe_lst (pa_cons (pe_callB (id := "max") (call_max2 (by rfl)) (by rfl) T.f_max (by decide +kernel) (pa_cons pe_int (pa_cons (pe_op op_sub (pv 2) (pe_op op_pow pe_int pe_int)) pa_nil))) (pa_cons (pe_op op_mod (pe_op op_add (pe_op op_add (pe_op op_mul (pe_op op_mod (pv 2) pe_int) pe_int) (pe_op op_mul pe_int (pv 1))) pe_int) pe_int) pa_nil))))))), ?_⟩
    have fin : ∀ (c : Int) (v : Int), 0 ≤ (c % 2147483587 * 48271 + 39373 * ((k : Nat) : Int) + 7919) % 2147483629 ∧ (c % 2147483587 * 48271 + 39373 * ((k : Nat) : Int) + 7919) % 2147483629 < 2147483629 := fun c v => ⟨Int.emod_nonneg _ (by decide), Int.emod_lt_of_pos _ (by decide)⟩
    have mk : CMul 39373 ((k : Nat) : Int) := .inl ⟨by decide, by decide⟩
    have pw : CPow 10 18 := ⟨by decide, by decide, by decide⟩
    have mq : ∀ c : Int, CMul (c % 2147483587) 48271 := fun c => .inr ⟨by decide, by decide⟩
    have go : ∀ (c : Int) (x : Int) (p : Addr), H p = none → Q (.ref p) (upd H p (.lst [.int x, .int ((c % 2147483587 * 48271 + 39373 * ((k : Nat) : Int) + 7919) % 2147483629)])) := fun c x p hp => q p _ hp (same_new hp) ⟨x, _, upd_same, (fin c 0).1, (fin c 0).2⟩
    refine ⟨_, rfl, _, rfl, _, xs.length, rfl, .inl ⟨_, hs, by rw [List.length_map]⟩, _, _, rfl, rfl, _, rfl, ?_⟩
    by_cases c : k < xs.length
    · rw [decide_eq_true (show ((k : Nat) : Int) < (xs.length : Nat) by omega)]
      refine iteT ?_
      refine ⟨_, rfl, _, rfl, sc, _, _, .int xs[k], rfl, rfl, hs, atI_nat (by rw [List.getElem?_map, List.getElem?_eq_getElem c]; rfl), ?_⟩
      exact ⟨_, rfl, _, _, rfl, rfl, pw, _, _, rfl, rfl, _, _, rfl, _, rfl, _, _, rfl, rfl, (show (0 : Int) < 2147483587 by decide), _, _, rfl, rfl, mq _, _, rfl, _, _, rfl, rfl, mk, _, _, rfl, rfl, _, _, rfl, rfl, _, _, rfl, rfl, (show (0 : Int) < 2147483629 by decide), (by show 2 ≤ sizeLine; decide), go _ _⟩
    · rw [decide_eq_false (show ¬ ((k : Nat) : Int) < (xs.length : Nat) by omega)]
      refine iteF ?_
      exact ⟨_, rfl, _, _, rfl, rfl, pw, _, _, rfl, rfl, _, _, rfl, _, rfl, _, _, rfl, rfl, (show (0 : Int) < 2147483587 by decide), _, _, rfl, rfl, mq _, _, rfl, _, _, rfl, rfl, mk, _, _, rfl, rfl, _, _, rfl, rfl, _, _, rfl, rfl, (show (0 : Int) < 2147483629 by decide), (by show 2 ≤ sizeLine; decide), go _ _⟩
theorem ok__law_draw (T : Txt K mg) : FO P w K mg base (L2.CX P w) 1 (a__law_draw K) ["_law_pot_here", "_law_many"] (spDraw K) := by
  refine T.d__law_draw.ok sc__law_draw (fun vs H Q E h => ?_) (fun cdv A outer s H vs Q E hr h => ?_)
  · obtain ⟨p, m, rfl, _⟩ := h
    rfl
  · obtain ⟨p, m, rfl, hp, hm, hl, q⟩ := h
    obtain ⟨a, b, hP, b0, b1⟩ := hp
    refine ⟨_, (pss_cons (ps_if (pt_cmpR op_gt (pe_ix ix_list (pv 0) pe_int (fun _ _ => rfl)) pe_int (nomark _)) (pss_cons (ps_asg (pe_callB (id := "divmod") call_divmodW (by rfl) T.f_divmod (by decide +kernel) (pa_cons (pe_ix ix_list (pv 0) pe_int (fun _ _ => rfl)) (pa_cons (pv 1) pa_nil))) (pg_tup rfl (pgs_cons (pg_sub (pv 0) pe_int set_list) (pgs_cons (pg_name (i := 2) sc__law_draw.nd rfl (Or.inl rfl)) pgs_nil)))) (pss_one (ps_ret (pv 2)))) pss_nil) (pss_cons (ps_asg (pe_op op_mod (pe_op op_add (pe_op op_mul (pe_ix ix_list (pv 0) pe_int (fun _ _ => rfl)) pe_int) pe_int) pe_int) (pg_sub (pv 0) pe_int set_list)) (pss_one (ps_ret (pe_op op_mod (pe_op op_fdiv (pe_op op_mod (pe_op op_mul (pe_ix ix_list (pv 0) pe_int (fun _ _ => rfl)) (pe_ix ix_list (pv 0) pe_int (fun _ _ => rfl))) pe_int) pe_int) (pv 1)))))), ?_⟩
    refine ⟨_, rfl, p, _, _, .int a, rfl, rfl, .inl (.inl hP), rfl, _, _, rfl, rfl, _, rfl, ?_⟩
    by_cases c : 0 < a
    · rw [decide_eq_true c]
      refine iteT ?_
      refine ⟨_, rfl, p, _, _, .int a, rfl, rfl, .inl (.inl hP), rfl, _, rfl, a, m, rfl, ⟨hm, PyProof.noPylong_of_log2 hl⟩, fun t ht => ?_⟩
      have nt : p ≠ t := fun e => by rw [← e, hP] at ht; cases ht
      refine ⟨t, _, rfl, SqT.of upd_same, rfl, _, _, rfl, _, rfl, p, _, 0, 0, rfl, rfl, (by rw [upd_ne nt]; exact hP), rfl, _, _, rfl, rfl, _, rfl, ?_⟩
      refine q (a % m) _ (Int.emod_nonneg _ (by omega)) (Int.emod_lt_of_pos _ hm) ⟨?_, _, b, upd_same, b0, b1⟩
      rw [hide_updp]
      exact hide_same (same_new ht)
    · rw [decide_eq_false c]
      refine iteF ?_
      have m1 : CMul b 39373 := .inl ⟨by omega, by omega⟩
      refine ⟨_, rfl, p, _, _, .int b, rfl, rfl, .inl (.inl hP), rfl, b, 39373, rfl, rfl, m1, _, _, rfl, rfl, _, _, rfl, rfl, (show (0 : Int) < 2147483629 by decide), _, rfl, p, _, 1, 1, rfl, rfl, hP, rfl, ?_⟩
      have c0 := Int.emod_nonneg (b * 39373 + 40487) (show (2147483629 : Int) ≠ 0 by decide)
      have c1 := Int.emod_lt_of_pos (b * 39373 + 40487) (show (0 : Int) < 2147483629 by decide)
      have h2 : (upd H p (.lst [.int a, .int ((b * 39373 + 40487) % 2147483629)])) p = some (.lst [.int a, .int ((b * 39373 + 40487) % 2147483629)]) := upd_same
      have hS : Same (hide p H) (hide p (upd H p (.lst [.int a, .int ((b * 39373 + 40487) % 2147483629)]))) := by
        rw [hide_updp]
        exact Same.refl _
      have go : ∀ (b' : Int) (H2 : Hp), 0 ≤ b' → b' < 2147483629 → H2 p = some (.lst [.int a, .int b']) → Same (hide p H) (hide p H2) → Q (.int (b' * b' % 2147483563 / 13 % m)) H2 := fun b' H2 c0 c1 h2 hS => q _ H2 (Int.emod_nonneg _ (by omega)) (Int.emod_lt_of_pos _ hm) ⟨hS, a, b', h2, c0, c1⟩
      have m2 : CMul ((b * 39373 + 40487) % 2147483629) ((b * 39373 + 40487) % 2147483629) := .inl ⟨by omega, by omega⟩
      exact ⟨_, rfl, p, _, _, _, rfl, rfl, .inl (.inl h2), rfl, _, rfl, p, _, _, _, rfl, rfl, .inl (.inl h2), rfl, _, _, rfl, rfl, m2, _, _, rfl, rfl, (show (0 : Int) < 2147483563 by decide), _, _, rfl, rfl, ⟨by decide, by decide⟩, _, rfl, _, _, rfl, rfl, hm, go _ _ c0 c1 h2 hS⟩
end
end Bt

namespace Bt
open PySem PySem.Spec PyProof.Rows L2
/-- a comprehension whose items stir the pot: what is known of them is Pr -/
theorem lcx {K : PySem.W.Frag} {J : It} {n : Nat} {G : Hp → Prop} {Y : Nat → Hp → V → Hp → Prop} (wk : Walk J n G Y) {g : TG} {te : TE} {vs : List Nat} {σ : L2.St} {H1 : Hp} {D p : Addr} {Qd : Hp → Prop} (Pr : Nat → PyData → Prop) (hz : n ≤ 50000) (hD : H1 D = none) (hp : Pot H1 p)
    (hG : ∀ H, SP p H1 H → G H)
    (hs : ∀ i x H H', i < n → SP p H1 H → Y i H x H' → SP p H H' ∧ ∀ (Qy : VK), (∀ y d H4, SP p H' H4 → Dp K (hide p H4) y d → noL d = true → Pr i d → Qy y H4) →
      g x (wipe σ vs) H' fun σ2 H2 => wipe σ2 vs = wipe σ vs ∧ te σ2 H2 Qy)
    (hm : ∀ x σ0 H0 (R R' : L2.St → Hp → Prop), (∀ σ2 H2, R σ2 H2 → R' σ2 H2) → g x σ0 H0 R → g x σ0 H0 R')
    (hd : ∀ H' acc ds, SP p H1 H' → H' D = some (.lst acc) → DpAll K (hide p H') acc ds → ds.length = n → noLAll ds = true → (∀ j d, ds[j]? = some d → Pr j d) → Qd H') :
    ∃ W : Nat → Nat → Hp → Prop, (∃ m, W 0 m (upd H1 D (.lst []))) ∧ ∀ i m H, W i m H →
      (J.stop i H ∧ Qd H) ∨ (J.go i H ∧ ∃ Nx : Hp → Prop, (∀ H', Nx H' → ∃ m', m' < m ∧ W (i + 1) m' H') ∧ ∀ x H', J.yld i H x H' → g x (wipe σ vs) H' fun σ2 H2 => wipe σ2 vs = wipe σ vs ∧ tYes σ2 H2 fun b H3 =>
        if b = true then te σ2 H3 fun y H4 => ∃ acc, H4 D = some (.lst acc) ∧ acc.length < sizeLine ∧ Nx (upd H4 D (.lst (acc ++ [y]))) else Nx H3) := by
  have nD := hp.ne hD
  refine lc_it wk (fun i H => SP p H1 H ∧ ∃ acc ds, H D = some (.lst acc) ∧ DpAll K (hide p H) acc ds ∧ ds.length = i ∧ noLAll ds = true ∧ ∀ j d, ds[j]? = some d → Pr j d) ⟨SP.of hp (same_new hD), [], [], upd_same, .nil, rfl, rfl, fun j d h => by simp at h⟩ (fun i H _ q => hG H q.1) ?_ ?_
  · rintro i x H H' hi ⟨S, acc, ds, hA, hP, hl, hn, hq⟩ hy
    obtain ⟨S2, st⟩ := hs i x H H' hi S hy
    refine hm _ _ _ _ _ (fun σ2 H2 r => ⟨r.1, ?_⟩) (st (fun y H4 => ∃ acc, H4 D = some (.lst acc) ∧ acc.length < sizeLine ∧ (SP p H1 (upd H4 D (.lst (acc ++ [y]))) ∧ ∃ acc' ds', (upd H4 D (.lst (acc ++ [y]))) D = some (.lst acc') ∧ DpAll K (hide p (upd H4 D (.lst (acc ++ [y])))) acc' ds' ∧ ds'.length = i + 1 ∧ noLAll ds' = true ∧ ∀ j d, ds'[j]? = some d → Pr j d)) fun y d H4 S4 hy4 nd pr => ?_)
    · exact r.2
    · have S24 := S2.trans S4
      have hA4 : H4 D = some (.lst acc) := S24.at hA nD
      have eh : hide p (upd H4 D (.lst (acc ++ [y]))) = upd (hide p H4) D (.lst (acc ++ [y])) := hide_upd nD
      have hDh : hide p H1 D = none := by rw [hide_ne nD]; exact hD
      refine ⟨acc, hA4, lt_line (by rw [hP.len]; omega), ⟨?_, ?_⟩, acc ++ [y], ds ++ [d], upd_same, ?_, by rw [List.length_append, hl]; rfl, ?_, fun j e he => ?_⟩
      · rw [eh]
        exact same_upd (S.trans S24).S hDh
      · obtain ⟨a, b, e, b0, b1⟩ := S4.pot
        exact ⟨a, b, by rw [upd_ne (Ne.symm nD)]; exact e, b0, b1⟩
      · rw [eh]
        exact dpAll_snoc (hide_get hA4 nD) _ hn nd (hP.mono S24.S) hy4
      · exact noLAll_iff.mpr fun e he => by
          rcases List.mem_append.mp he with h | h
          · exact noLAll_iff.mp hn e h
          · have : e = d := by simpa using h
            rw [this]
            exact nd
      · by_cases c : j < ds.length
        · rw [List.getElem?_append_left c] at he
          exact hq j e he
        · rw [List.getElem?_append_right (by omega)] at he
          by_cases c2 : j = ds.length
          · subst c2
            rw [Nat.sub_self] at he
            have e2 := Option.some.inj he
            subst e2
            rw [hl]
            exact pr
          · rw [List.getElem?_eq_none (by simp; omega)] at he
            cases he
  · rintro H ⟨S, acc, ds, hA, hP, hl, hn, hq⟩
    exact hd H acc ds S hA hP hl hn hq
section
variable {P : Program} {w : World} {K : PySem.W.Frag} {mg : Str → Option Value} {base : Heap}
theorem ok__law_trees (T : Txt K mg) : FO P w K mg base (L2.CX P w) 2 (a__law_trees K) ["_law_pot_here", "_law_count_here"] (spTreesL K) := by
  refine T.d__law_trees.ok sc__law_trees (fun vs H Q E h => ?_) (fun cdv A outer s H vs Q E hr h => ?_)
  · obtain ⟨p, n, rfl, _⟩ := h
    rfl
  · obtain ⟨p, n, rfl, hp, h1, h2, q⟩ := h
    have G__law_draw := ok__law_draw (P := P) (w := w) (base := base) T
    refine ⟨_, (pss_cons (ps_set (i := 2) sc__law_trees.nd rfl (Or.inl rfl) (pe_call G__law_draw (hr.mono (by decide)) rfl T.g__law_draw T.d__law_draw.kp T.b__law_draw .nil passE (pa_cons (pv 0) (pa_cons pe_int pa_nil)))) (pss_cons (ps_if (pt_cmpR op_eq (pv 2) pe_int (nomark _)) (pss_one (ps_ret (pe_op op_add pe_int (pe_call G__law_draw (hr.mono (by decide)) rfl T.g__law_draw T.d__law_draw.kp T.b__law_draw .nil passE (pa_cons (pv 0) (pa_cons (pv 1) pa_nil)))))) pss_nil) (pss_one (ps_ret (pe_callB (id := "min") (call_min2 (by rfl)) (by rfl) T.f_min (by decide +kernel) (pa_cons (pv 1) (pa_cons (pe_op op_add pe_int (pe_op op_mul (pe_op op_fdiv (pv 2) pe_int) (pe_call G__law_draw (hr.mono (by decide)) rfl T.g__law_draw T.d__law_draw.kp T.b__law_draw .nil passE (pa_cons (pv 0) (pa_cons pe_int pa_nil))))) pa_nil))))))), ?_⟩
    refine ⟨_, rfl, p, 3, rfl, hp, (by decide), (by decide +kernel), fun d H1 d0 d1 S1 => ?_⟩
    have nl : ((n : Nat) : Int).natAbs.log2 < 9000 := log2_small (by omega) (by omega)
    refine ⟨_, rfl, rfl, _, rfl, ?_⟩
    by_cases c : d = 0
    · subst c
      refine iteT ?_
      refine ⟨_, rfl, _, rfl, p, (n : Nat), rfl, S1.pot, by omega, nl, fun e H2 e0 e1 S2 => ⟨_, _, rfl, rfl, ?_⟩⟩
      have q2 := q (1 + e).toNat H2 (by omega) (by omega) (S1.trans S2)
      have : (((1 + e).toNat : Nat) : Int) = 1 + e := by omega
      rw [this] at q2
      exact q2
    · rw [decide_eq_false (fun z => c (by injection z))]
      refine iteF ?_
      refine ⟨_, rfl, _, rfl, _, _, rfl, rfl, ⟨by decide, by decide⟩, _, rfl, p, 3, rfl, S1.pot, (by decide), (by decide +kernel), fun e H2 e0 e1 S2 => ?_⟩
      refine ⟨_, _, rfl, rfl, .inl ⟨by omega, by omega⟩, _, _, rfl, rfl, _, _, rfl, ?_⟩
      have hpos : 0 ≤ d / 2 * e := Int.mul_nonneg (Int.ediv_nonneg d0 (by decide)) e0
      have q2 := q (if 1 + d / 2 * e < ((n : Nat) : Int) then 1 + d / 2 * e else ((n : Nat) : Int)).toNat H2 (by split <;> omega) (by split <;> omega) (S1.trans S2)
      have : (((if 1 + d / 2 * e < ((n : Nat) : Int) then 1 + d / 2 * e else ((n : Nat) : Int)).toNat : Nat) : Int) = if 1 + d / 2 * e < ((n : Nat) : Int) then 1 + d / 2 * e else ((n : Nat) : Int) := by split <;> omega
      rw [this] at q2
      exact q2
end
end Bt

namespace Bt
open PySem PySem.Spec PyProof.Rows L2
theorem joinE : ∀ ys : List Str, (Txt.join "" ys).cps.toList = (ys.map (·.cps.toList)).flatten := by
  intro ys
  rw [TL.join_eq]
  induction ys with
  | nil => rfl
  | cons x r ih =>
    cases r with
    | nil => show x.cps.toList = _; simp
    | cons y r =>
      have e : Str.join "" (x :: y :: r) = x ++ "" ++ Str.join "" (y :: r) := rfl
      rw [e, List.map_cons, List.flatten_cons, ← ih]
      show ((x.cps ++ #[]) ++ (Str.join "" (y :: r)).cps).toList = _
      simp
def oneL (d : PyData) : Prop := ∃ c, d = .str ⟨#[c]⟩ ∧ lowB c = true
theorem name_join : ∀ {ds : List PyData}, (∀ (j : Nat) (d : PyData), ds[j]? = some d → oneL d) → ∃ cs : List Nat, ds = cs.map (fun c => PyData.str ⟨#[c]⟩) ∧ cs.all lowB = true
  | [], _ => ⟨[], rfl, rfl⟩
  | d :: ds, h => by
    obtain ⟨c, rfl, hc⟩ := h 0 d rfl
    obtain ⟨cs, e, hcs⟩ := name_join (ds := ds) fun j d hd => h (j + 1) d (by simpa using hd)
    exact ⟨c :: cs, by rw [e]; rfl, by rw [List.all_cons, hc, hcs]; rfl⟩
theorem name_of {cs : List Nat} (h1 : 1 ≤ cs.length) (h8 : cs.length ≤ 8) (ha : cs.all lowB = true) : nameB (Txt.join "" (cs.map fun c => (⟨#[c]⟩ : Str))) = true := by
  have e : (Txt.join "" (cs.map fun c => (⟨#[c]⟩ : Str))).cps.toList = cs := by
    rw [joinE, List.map_map]
    clear h1 h8 ha
    induction cs with
    | nil => rfl
    | cons c cs ih =>
      rw [List.map_cons, List.flatten_cons, ih]
      rfl
  have l : (Txt.join "" (cs.map fun c => (⟨#[c]⟩ : Str))).length = cs.length := by
    show (Txt.join "" (cs.map fun c => (⟨#[c]⟩ : Str))).cps.size = _
    rw [← Array.length_toList, e]
  unfold nameB
  rw [l, e, ha, decide_eq_true h1, decide_eq_true h8]
  rfl
theorem letters_at {i : Nat} (h : i < 26) : ∃ c, (Str.ofString "abcdefghijklmnopqrstuvwxyz").cps.toList[i]? = some c ∧ lowB c = true := by
  have hl : (Str.ofString "abcdefghijklmnopqrstuvwxyz").cps.toList.length = 26 := by decide +kernel
  refine ⟨(Str.ofString "abcdefghijklmnopqrstuvwxyz").cps.toList[i]'(by omega), List.getElem?_eq_getElem _, ?_⟩
  exact decide_eq_true (List.getElem_mem _)
def spNameL (K : PySem.W.Frag) : Sp := fun vs H Q E => ∃ p, vs = [.ref p] ∧ Pot H p ∧ ∀ z H', nameB z = true → SP p H H' → Q (.str z) H'
def spRowL (K : PySem.W.Frag) : Sp := fun vs H Q E => ∃ p, vs = [.ref p] ∧ Pot H p ∧ ∀ a xs r H', Good r → r.length ≤ 16 → SP p H H' → H' a = some (.lst xs) → a ≠ p → DpAll K (hide p H') xs (rowD r) → Q (.ref a) H'
section
variable {P : Program} {w : World} {K : PySem.W.Frag} {mg : Str → Option Value} {base : Heap}
theorem ok__law_name (T : Txt K mg) : FO P w K mg base (L2.CX P w) 2 (a__law_name K) ["_law_pot_here"] (spNameL K) := by
  refine T.d__law_name.ok sc__law_name (fun vs H Q E h => ?_) (fun cdv A outer s H vs Q E hr h => ?_)
  · obtain ⟨p, rfl, _⟩ := h
    rfl
  · obtain ⟨p, rfl, hp, q⟩ := h
    have G__law_draw := ok__law_draw (P := P) (w := w) (base := base) T
    refine ⟨_, (pss_cons (ps_if (pt_cmpR op_eq (pe_call G__law_draw (hr.mono (by decide)) rfl T.g__law_draw T.d__law_draw.kp T.b__law_draw .nil passE (pa_cons (pv 0) (pa_cons pe_int pa_nil))) pe_int (nomark _)) (pss_one (ps_ret (pe_ix ix_list (pe_lst (pa_cons pe_str (pa_cons pe_str (pa_cons pe_str pa_nil)))) (pe_call G__law_draw (hr.mono (by decide)) rfl T.g__law_draw T.d__law_draw.kp T.b__law_draw .nil passE (pa_cons (pv 0) (pa_cons pe_int pa_nil))) (fun _ _ => rfl)))) pss_nil) (pss_cons (ps_set (i := 1) sc__law_name.nd rfl (Or.inr rfl) pe_str) (pss_one (ps_ret (pe_join pe_str (pe_lc (own := [("_law_k", 2)]) (g := gName 2) rfl sc__law_name.nd (pi_range1 rfl T.f_range (pa_cons (pe_op op_add pe_int (pe_call G__law_draw (hr.mono (by decide)) rfl T.g__law_draw T.d__law_draw.kp T.b__law_draw .nil passE (pa_cons (pv 0) (pa_cons pe_int pa_nil)))) pa_nil)) (blkOk_by (own := [("_law_k", 2)]) (N := ["_law_pot_here", "_law_letters", "_law_k"]) (sc := defScope s__law_name) (by decide +kernel)) (fun _ _ _ _ _ => pg_name (i := 2) sc__law_name.nd rfl (Or.inl rfl)) (fun _ _ _ _ _ => pts_nil) (fun _ _ _ _ _ => (pe_ix ix_str (pv 1) (pe_call G__law_draw (hr.mono (by decide)) rfl T.g__law_draw T.d__law_draw.kp T.b__law_draw .nil passL (pa_cons (pv 0) (pa_cons pe_int pa_nil))) (fun _ _ => rfl))))))))), ?_⟩
    refine ⟨_, rfl, p, 2, rfl, hp, (by decide), (by decide +kernel), fun d H1 d0 d1 S1 => ?_⟩
    refine ⟨rfl, _, rfl, ?_⟩
    by_cases c : d = 0
    · subst c
      refine iteT ?_
      refine ⟨(by show 3 ≤ sizeLine; decide), fun l hl => ?_⟩
      have nl := S1.pot.ne hl
      have h2 : (upd H1 l (.lst [.str "a", .str "b", .str "ab"])) l = some (.lst [.str "a", .str "b", .str "ab"]) := upd_same
      have S2 : SP p H1 (upd H1 l (.lst [.str "a", .str "b", .str "ab"])) := SP.of S1.pot (same_new hl)
      generalize upd H1 l (.lst [.str "a", .str "b", .str "ab"]) = H2 at h2 S2
      refine ⟨_, rfl, p, 3, rfl, S2.pot, (by decide), (by decide +kernel), fun e H3 e0 e1 S3 => ?_⟩
      have S4 := (S1.trans S2).trans S3
      have h3 := S3.at h2 nl
      have he : e = 0 ∨ e = 1 ∨ e = 2 := by omega
      rcases he with rfl | rfl | rfl
      · exact ⟨l, _, 0, .str "a", rfl, rfl, .inl (.inl h3), rfl, q _ H3 (by decide +kernel) S4⟩
      · exact ⟨l, _, 1, .str "b", rfl, rfl, .inl (.inl h3), rfl, q _ H3 (by decide +kernel) S4⟩
      · exact ⟨l, _, 2, .str "ab", rfl, rfl, .inl (.inl h3), rfl, q _ H3 (by decide +kernel) S4⟩
    · rw [decide_eq_false (fun z => c (by injection z))]
      refine iteF ?_
      refine ⟨⟨_, rfl⟩, _, rfl, p, 8, rfl, S1.pot, (by decide), (by decide +kernel), fun e H2 e0 e1 S2 => ?_⟩
      refine ⟨_, _, rfl, rfl, _, rfl, (by omega), (by omega), fun D hD => ?_⟩
      have S12 := S1.trans S2
      refine lcx (K := K) (walk_range (lo := 0) (n := (1 + e).toNat)) (fun _ d => oneL d) (by omega) hD S2.pot (fun _ _ => True.intro) (fun i x H3 H3' hi S y => ?_) gname_mono (fun H3 acc ds S4 hD3 hP hl hn hpr => ?_)
      · obtain ⟨rfl, rfl⟩ := y
        refine ⟨SP.of S.pot (Same.refl _), fun Qy hy => ⟨rfl, _, rfl, _, rfl, p, 26, rfl, S.pot, (by decide), (by decide +kernel), fun f H4 f0 f1 S5 => ?_⟩⟩
        obtain ⟨c', hc', hb⟩ := letters_at (i := f.toNat) (by omega)
        refine ⟨_, f, c', rfl, rfl, (by decide +kernel), ?_, hy _ (.str ⟨#[c']⟩) H4 S5 (.str _) rfl ⟨c', rfl, hb⟩⟩
        have ef : f = ((f.toNat : Nat) : Int) := by omega
        rw [ef]
        exact atI_nat hc'
      · obtain ⟨cs, e1, hcs⟩ := name_join hpr
        have ea : acc = (cs.map fun c => (⟨#[c]⟩ : Str)).map V.str := by
          rw [List.map_map]
          rw [e1] at hP
          exact hP.strs
        rw [ea] at hD3
        have hcl : cs.length = (1 + e).toNat := by
          rw [← hl, e1, List.length_map]
        have hs : ((cs.map fun c => (⟨#[c]⟩ : Str)).map (·.length)).sum ≤ cs.length * 1 := by
          clear hcs hcl e1 hD3 ea
          induction cs with
          | nil => exact Nat.le_refl _
          | cons c cs ih =>
            rw [List.map_cons, List.map_cons, List.sum_cons, List.length_cons]
            have : (⟨#[c]⟩ : Str).length = 1 := rfl
            omega
        have h0 : ("" : Str).length = 0 := by decide +kernel
        refine ⟨_, D, cs.map fun c => (⟨#[c]⟩ : Str), rfl, rfl, .inl (.inl (.inl hD3)), by rw [List.length_map, h0]; omega, ?_⟩
        exact q _ H3 (name_of (by omega) (by omega) hcs) (S12.trans S4)
end
end Bt

namespace Bt
open PySem PySem.Spec PyProof.Rows L2
theorem sum_set : ∀ {ns : List Nat} {i x : Nat}, ns[i]? = some x → (ns.set i (x + 1)).sum = ns.sum + 1
  | [], i, x, h => by simp at h
  | n :: ns, 0, x, h => by
    have e : n = x := Option.some.inj h
    subst e
    show (n + 1) + ns.sum = n + ns.sum + 1
    omega
  | n :: ns, i + 1, x, h => by
    have ih := sum_set (ns := ns) (i := i) (x := x) (by simpa using h)
    show n + (ns.set i (x + 1)).sum = n + ns.sum + 1
    omega
theorem sum_rep0 : ∀ n : Nat, (List.replicate n 0).sum = 0
  | 0 => rfl
  | n + 1 => by rw [List.replicate_succ, List.sum_cons, sum_rep0 n]
theorem rows_of : ∀ {ds : List PyData} {ns : List Nat}, ds.length = ns.length → (∀ (j : Nat) (d : PyData), ds[j]? = some d → ∃ z m, nameB z = true ∧ ns[j]? = some m ∧ d = beadD (z, m)) → ∃ r : Row, ds = rowD r ∧ r.map (·.2) = ns ∧ ∀ b ∈ r, nameB b.1 = true
  | [], [], _, _ => ⟨[], rfl, rfl, fun b hb => by cases hb⟩
  | [], _ :: _, h, _ => by simp at h
  | _ :: _, [], h, _ => by simp at h
  | d :: ds, n :: ns, hl, h => by
    obtain ⟨z, m, hz, hm, rfl⟩ := h 0 d rfl
    have e : n = m := Option.some.inj hm
    subst e
    obtain ⟨r, e1, e2, e3⟩ := rows_of (ds := ds) (ns := ns) (by simpa using hl) fun j d hd => by
      have := h (j + 1) d (by simpa using hd)
      simpa using this
    refine ⟨(z, n) :: r, by rw [e1]; rfl, by rw [List.map_cons, e2], fun b hb => ?_⟩
    rcases List.mem_cons.mp hb with e | hb
    · rw [e]
      exact hz
    · exact e3 b hb
theorem SP.updn {p a : Addr} {H H' : Hp} {o : HO} (S : SP p H H') (h : H a = none) (n : a ≠ p) : SP p H (upd H' a o) := by
  refine ⟨?_, ?_⟩
  · rw [hide_upd n]
    exact same_upd S.S (by rw [hide_ne n]; exact h)
  · obtain ⟨x, y, e, h1, h2⟩ := S.pot
    exact ⟨x, y, by rw [upd_ne (Ne.symm n)]; exact e, h1, h2⟩
theorem set_zs (ns : List Nat) (i x : Nat) : ((zs ns).map V.int).set i (.int ((x : Nat) : Int)) = (zs (ns.set i x)).map V.int := by
  unfold zs
  rw [List.map_map, List.map_map, List.map_set]
  rfl
section
variable {P : Program} {w : World} {K : PySem.W.Frag} {mg : Str → Option Value} {base : Heap}
theorem ok__law_row (T : Txt K mg) : FO P w K mg base (L2.CX P w) 3 (a__law_row K) ["_law_pot_here"] (spRowL K) := by
  refine T.d__law_row.ok sc__law_row (fun vs H Q E h => ?_) (fun cdv A outer s H vs Q E hr h => ?_)
  · obtain ⟨p, rfl, _⟩ := h
    rfl
  · obtain ⟨p, rfl, hp, q⟩ := h
    have G__law_draw := ok__law_draw (P := P) (w := w) (base := base) T
    have G__law_name := ok__law_name (P := P) (w := w) (base := base) T
    have G__law_trees := ok__law_trees (P := P) (w := w) (base := base) T
    refine ⟨_, (pss_cons (ps_set (i := 1) sc__law_row.nd rfl (Or.inl rfl) (pe_op op_add pe_int (pe_call G__law_draw (hr.mono (by decide)) rfl T.g__law_draw T.d__law_draw.kp T.b__law_draw .nil passE (pa_cons (pv 0) (pa_cons (pe_ix ix_list (pe_lst (pa_cons pe_int (pa_cons pe_int (pa_cons pe_int pa_nil)))) (pe_call G__law_draw (hr.mono (by decide)) rfl T.g__law_draw T.d__law_draw.kp T.b__law_draw .nil passE (pa_cons (pv 0) (pa_cons pe_int pa_nil))) (fun _ _ => rfl)) pa_nil))))) (pss_cons (ps_set (i := 2) sc__law_row.nd rfl (Or.inl rfl) (pe_op op_rep (pe_lst (pa_cons pe_int pa_nil)) (pv 1))) (pss_cons (ps_set (i := 3) sc__law_row.nd rfl (Or.inl rfl) (pe_call G__law_draw (hr.mono (by decide)) rfl T.g__law_draw T.d__law_draw.kp T.b__law_draw .nil passE (pa_cons (pv 0) (pa_cons pe_int pa_nil)))) (pss_cons (ps_set (i := 4) sc__law_row.nd rfl (Or.inl rfl) (pe_call G__law_draw (hr.mono (by decide)) rfl T.g__law_draw T.d__law_draw.kp T.b__law_draw .nil passE (pa_cons (pv 0) (pa_cons (pv 1) pa_nil)))) (pss_cons (ps_for (passes_of rfl) rfl (pi_range1 rfl T.f_range (pa_cons (pe_op op_sub (pv 1) (pe_call G__law_trees (hr.mono (by decide)) rfl T.g__law_trees T.d__law_trees.kp T.b__law_trees .nil passE (pa_cons (pv 0) (pa_cons (pv 1) pa_nil)))) pa_nil)) (pg_name (i := 5) sc__law_row.nd rfl (Or.inl rfl)) (pss_cons (ps_if (PW.pt (pw_or (pt_cmpR op_gt (pv 3) pe_int (nomark _)) (pw_or1 (PW.pt (pw_and (pt_cmpR op_eq (pv 3) pe_int (nomark _)) (pw_and1 (pt_cmpR op_eq (pe_call G__law_draw (hr.mono (by decide)) rfl T.g__law_draw T.d__law_draw.kp T.b__law_draw .nil passE (pa_cons (pv 0) (pa_cons pe_int pa_nil))) pe_int (nomark _)))))))) (pss_one (ps_set (i := 4) sc__law_row.nd rfl (Or.inl rfl) (pe_call G__law_draw (hr.mono (by decide)) rfl T.g__law_draw T.d__law_draw.kp T.b__law_draw .nil passE (pa_cons (pv 0) (pa_cons (pv 1) pa_nil))))) (pss_one (ps_if (pt_cmpR op_eq (pv 3) pe_int (nomark _)) (pss_one (ps_set (i := 4) sc__law_row.nd rfl (Or.inl rfl) (pe_op op_mod (pe_op op_add (pv 4) pe_int) (pv 1)))) pss_nil))) (pss_one (ps_asg (pe_op op_add (pe_ix ix_list (pv 2) (pv 4) (fun _ _ => rfl)) pe_int) (pg_sub (pv 2) (pv 4) set_list))))) (pss_one (ps_ret (pe_lc (own := [("_law_many", 6)]) (g := gName 6) rfl sc__law_row.nd (pi_list (pv 2)) (blkOk_by (own := [("_law_many", 6)]) (N := ["_law_pot_here", "_law_count_here", "_law_arms", "_law_manner", "_law_place", "_law_k", "_law_many"]) (sc := defScope s__law_row) (by decide +kernel)) (fun _ _ _ _ _ => pg_name (i := 6) sc__law_row.nd rfl (Or.inl rfl)) (fun _ _ _ _ _ => pts_nil) (fun _ _ _ _ _ => (pe_tup (pa_cons (pe_call G__law_name (hr.mono (by decide)) rfl T.g__law_name T.d__law_name.kp T.b__law_name .nil passL (pa_cons (pv 0) pa_nil)) (pa_cons (pv 6) pa_nil)))))))))))), ?_⟩
    refine ⟨_, rfl, (by show 3 ≤ sizeLine; decide), fun l hl => ?_⟩
    have nl := hp.ne hl
    have h2 : (upd H l (.lst [.int 4, .int 9, .int 16])) l = some (.lst [.int 4, .int 9, .int 16]) := upd_same
    have S2 : SP p H (upd H l (.lst [.int 4, .int 9, .int 16])) := SP.of hp (same_new hl)
    generalize upd H l (.lst [.int 4, .int 9, .int 16]) = H2 at h2 S2
    refine ⟨_, rfl, p, 3, rfl, S2.pot, (by decide), (by decide +kernel), fun e H3 e0 e1 S3 => ?_⟩
    have h3 := S3.at h2 nl
    obtain ⟨m, hm, m1, m2⟩ : ∃ m : Int, atI [V.int 4, V.int 9, V.int 16] e = some (.int m) ∧ 4 ≤ m ∧ m ≤ 16 := by
      have he : e = 0 ∨ e = 1 ∨ e = 2 := by omega
      rcases he with rfl | rfl | rfl
      · exact ⟨4, rfl, by decide, by decide⟩
      · exact ⟨9, rfl, by decide, by decide⟩
      · exact ⟨16, rfl, by decide, by decide⟩
    refine ⟨l, _, e, .int m, rfl, rfl, .inl (.inl h3), hm, p, m, rfl, S3.pot, by omega, log2_small (by omega) (by omega), fun f H4 f0 f1 S4 => ?_⟩
    obtain ⟨k, rfl⟩ : ∃ k : Nat, f = (k : Nat) := ⟨f.toNat, by omega⟩
    have hk : k < 16 := by omega
    have S04 := (S2.trans S3).trans S4
    refine ⟨_, _, rfl, rfl, ?_⟩
    refine ⟨(by show 1 ≤ sizeLine; decide), fun l0 hl0 => ⟨_, rfl, l0, ((1 + k : Nat) : Int), _, rfl, rfl, upd_same, by omega, by omega, ?_, fun al hal => ?_⟩⟩
    · show 1 * (((1 + k : Nat) : Int)).toNat ≤ sizeLine
      exact le_line (by omega)
    have S5 : SP p H (upd H4 l0 (.lst [.int 0])) := S04.new hl0
    generalize upd H4 l0 (.lst [.int 0]) = H5 at S5 hal
    have hal0 := S5.free hal hp
    have nal := hp.ne hal0
    have er : (List.replicate (((1 + k : Nat) : Int)).toNat [V.int 0]).flatten = (zs (List.replicate (1 + k) 0)).map V.int := by
      have : (((1 + k : Nat) : Int)).toNat = 1 + k := rfl
      rw [this]
      generalize 1 + k = n
      induction n with
      | zero => rfl
      | succ n ih => rw [List.replicate_succ, List.flatten_cons, ih, List.replicate_succ]; rfl
    rw [er]
    have S6 : SP p H (upd H5 al (.lst ((zs (List.replicate (1 + k) 0)).map V.int))) := S5.new hal
    have h6 : (upd H5 al (.lst ((zs (List.replicate (1 + k) 0)).map V.int))) al = some (.lst ((zs (List.replicate (1 + k) 0)).map V.int)) := upd_same
    generalize upd H5 al (.lst ((zs (List.replicate (1 + k) 0)).map V.int)) = H6 at S6 h6
    refine ⟨_, rfl, p, 4, rfl, S6.pot, (by decide), (by decide +kernel), fun mn H7 mn0 mn1 S7 => ?_⟩
    have nlog : (((1 + k : Nat)) : Int).natAbs.log2 < 9000 := log2_small (by omega) (by omega)
    refine ⟨_, rfl, _, rfl, p, ((1 + k : Nat) : Int), rfl, S7.pot, by omega, nlog, fun pl H8 pl0 pl1 S8 => ?_⟩
    have S78 := S7.trans S8
    refine ⟨_, rfl, _, rfl, _, rfl, p, 1 + k, rfl, S8.pot, by omega, by omega, fun t H9 t1 t2 S9 => ?_⟩
    have S69 := S78.trans S9
    have h9 := S69.at h6 nal
    have S09 := S6.trans S69
    refine ⟨_, _, rfl, rfl, _, rfl, by omega, by omega, ?_⟩
    have en : (((1 + k : Nat) : Int) - ((t : Nat) : Int)).toNat = 1 + k - t := by omega
    refine for_it (walk_range (lo := 0) (n := (((1 + k : Nat) : Int) - ((t : Nat) : Int)).toNat)) (fun j σ H' => ∃ pl x5 x6 ns, σ = [some (.ref p), some (.int ((1 + k : Nat) : Int)), some (.ref al), some (.int mn), some (.int pl), x5, x6] ∧ SP p H H' ∧ 0 ≤ pl ∧ pl < ((1 + k : Nat) : Int) ∧ H' al = some (.lst ((zs ns).map V.int)) ∧ ns.length = 1 + k ∧ ns.sum = j) ⟨pl, none, none, List.replicate (1 + k) 0, rfl, S09, pl0, pl1, h9, List.length_replicate .., sum_rep0 _⟩ (fun _ _ _ _ _ => True.intro) ?_ ?_
    · rintro j x σ Ha Hb hj ⟨pl, x5, x6, ns, rfl, S, pa, pb, hA, hl, hsum⟩ ⟨rfl, rfl⟩
      have fin : ∀ (q : Nat) (Hc : Hp) (x5 : Option V), SP p H Hc → Hc al = some (.lst ((zs ns).map V.int)) → q < 1 + k → ∃ v, atI ((zs ns).map V.int) ((q : Nat) : Int) = some (.int ((v : Nat) : Int)) ∧ ixN ((zs ns).map V.int).length ((q : Nat) : Int) = some q ∧
          ∃ pl' x5' x6' ns', [some (V.ref p), some (.int ((1 + k : Nat) : Int)), some (.ref al), some (.int mn), some (.int ((q : Nat) : Int)), x5, x6] = [some (.ref p), some (.int ((1 + k : Nat) : Int)), some (.ref al), some (.int mn), some (.int pl'), x5', x6'] ∧ SP p H (upd Hc al (.lst (((zs ns).map V.int).set q (.int (((v : Nat) : Int) + 1))))) ∧ 0 ≤ pl' ∧ pl' < ((1 + k : Nat) : Int) ∧
            (upd Hc al (.lst (((zs ns).map V.int).set q (.int (((v : Nat) : Int) + 1))))) al = some (.lst ((zs ns').map V.int)) ∧ ns'.length = 1 + k ∧ ns'.sum = j + 1 := by
        intro q Hc x5 Sc hc q1
        have ql : q < ns.length := by omega
        have hv : ns[q]? = some ns[q] := List.getElem?_eq_getElem ql
        refine ⟨ns[q], atI_nat (by rw [List.getElem?_map, zs_get hv]; rfl), ixN_of (by unfold zs; rw [List.length_map, List.length_map]; exact ql), q, x5, x6, ns.set q (ns[q] + 1), rfl, Sc.updn hal0 nal, by omega, by omega, ?_, by rw [List.length_set, hl], ?_⟩
        · rw [upd_same]
          exact congrArg (fun l => some (HO.lst l)) (set_zs ns q (ns[q] + 1))
        · rw [sum_set hv, hsum]
      obtain ⟨pn, rfl⟩ : ∃ pn : Nat, pl = (pn : Nat) := ⟨pl.toNat, by omega⟩
      refine ⟨_, rfl, _, _, rfl, rfl, _, rfl, ?_⟩
      by_cases c1 : 1 < mn
      · rw [decide_eq_true c1]
        refine iteT (iteT ?_)
        refine ⟨_, rfl, _, rfl, p, ((1 + k : Nat) : Int), rfl, S.pot, by omega, nlog, fun e Hc e0 e1 Sc => ?_⟩
        obtain ⟨en, rfl⟩ : ∃ en : Nat, e = (en : Nat) := ⟨e.toNat, by omega⟩
        have hA2 := Sc.at hA nal
        obtain ⟨v, hat, hix, hfin⟩ := fin en Hc (some (V.int (0 + ((j : Nat) : Int)))) (S.trans Sc) hA2 (by omega)
        exact ⟨_, rfl, _, rfl, al, _, _, _, rfl, rfl, .inl (.inl hA2), hat, _, _, rfl, rfl, _, rfl, _, rfl, al, _, _, en, rfl, rfl, hA2, hix, hfin⟩
      · rw [decide_eq_false c1]
        refine iteF ?_
        refine ⟨_, rfl, rfl, _, rfl, ?_⟩
        by_cases c2 : mn = 1
        · subst c2
          refine iteT ?_
          refine ⟨_, rfl, p, 6, rfl, S.pot, (by decide), (by decide +kernel), fun e6 Hc e60 e61 Sc => ⟨rfl, _, rfl, ?_⟩⟩
          have hA2 := Sc.at hA nal
          by_cases c3 : e6 = 0
          · subst c3
            refine iteT ?_
            refine ⟨_, rfl, _, rfl, p, ((1 + k : Nat) : Int), rfl, Sc.pot, by omega, nlog, fun e Hd e0 e1 Sd => ?_⟩
            obtain ⟨en, rfl⟩ : ∃ en : Nat, e = (en : Nat) := ⟨e.toNat, by omega⟩
            have hA3 := Sd.at hA2 nal
            obtain ⟨v, hat, hix, hfin⟩ := fin en Hd (some (V.int (0 + ((j : Nat) : Int)))) ((S.trans Sc).trans Sd) hA3 (by omega)
            exact ⟨_, rfl, _, rfl, al, _, _, _, rfl, rfl, .inl (.inl hA3), hat, _, _, rfl, rfl, _, rfl, _, rfl, al, _, _, en, rfl, rfl, hA3, hix, hfin⟩
          · rw [decide_eq_false (fun z => c3 (by injection z))]
            refine iteF ?_
            refine ⟨_, rfl, rfl, _, rfl, iteF ?_⟩
            obtain ⟨v, hat, hix, hfin⟩ := fin pn Hc (some (V.int (0 + ((j : Nat) : Int)))) (S.trans Sc) hA2 (by omega)
            exact ⟨_, rfl, _, rfl, al, _, _, _, rfl, rfl, .inl (.inl hA2), hat, _, _, rfl, rfl, _, rfl, _, rfl, al, _, _, pn, rfl, rfl, hA2, hix, hfin⟩
        · rw [decide_eq_false (fun z => c2 (by injection z))]
          refine iteF (iteF ?_)
          have c0 : mn = 0 := by omega
          subst c0
          refine ⟨_, rfl, rfl, _, rfl, iteT ?_⟩
          refine ⟨_, rfl, _, _, rfl, rfl, _, rfl, _, _, rfl, rfl, (show (0 : Int) < ((1 + k : Nat) : Int) by omega), ?_⟩
          have em : ((((pn : Nat) : Int) + 1) % ((1 + k : Nat) : Int)) = (((pn + 1) % (1 + k) : Nat) : Int) := (Int.natCast_emod (pn + 1) (1 + k)).symm
          have hq : (pn + 1) % (1 + k) < 1 + k := Nat.mod_lt _ (by omega)
          obtain ⟨v, hat, hix, hfin⟩ := fin ((pn + 1) % (1 + k)) Hb (some (V.int (0 + ((j : Nat) : Int)))) S hA hq
          rw [← em] at hat hix hfin
          exact ⟨_, rfl, _, rfl, al, _, _, _, rfl, rfl, .inl (.inl hA), hat, _, _, rfl, rfl, _, rfl, _, rfl, al, _, _, (pn + 1) % (1 + k), rfl, rfl, hA, hix, hfin⟩
    · rintro σ Ha ⟨pl, x5, x6, ns, rfl, S, pa, pb, hA, hl, hsum⟩
      refine ⟨_, rfl, al, rfl, ⟨_, .inl (.inl hA)⟩, fun D hD => ?_⟩
      refine lcx (K := K) (walk_list (K := K) (a := al) (xs := (zs ns).map V.int)) (fun j d => ∃ z m, nameB z = true ∧ ns[j]? = some m ∧ d = beadD (z, m)) (by unfold zs; rw [List.length_map, List.length_map]; omega) hD S.pot (fun H' S' => .inl (.inl (S'.at hA nal))) (fun i x H3 H3' hi S' y => ?_) gname_mono (fun Hz acc ds Sz hDz hP hlz hn hpr => ?_)
      · obtain ⟨rfl, hx⟩ := y
        rw [List.getElem?_map] at hx
        cases hc : ns[i]? with
        | none =>
          unfold zs at hx
          rw [List.getElem?_map, hc] at hx
          cases hx
        | some v =>
          rw [zs_get hc] at hx
          have e := Option.some.inj hx
          subst e
          refine ⟨SP.of S'.pot (Same.refl _), fun Qy hy => ⟨rfl, _, rfl, p, rfl, S'.pot, fun z Hd hz Sd => ⟨_, rfl, (by show 2 ≤ sizeLine; decide), fun t4 ht4 => ?_⟩⟩⟩
          have nt := Sd.pot.ne ht4
          refine hy _ (beadD (z, v)) _ (Sd.new ht4) ?_ rfl ⟨z, v, hz, by first | exact hc | rfl, rfl⟩
          rw [hide_upd nt]
          exact bead_mk (SqT.of upd_same)
      · obtain ⟨r, e1, e2, e3⟩ := rows_of (ds := ds) (ns := ns) (by rw [hlz]; unfold zs; rw [List.length_map, List.length_map]) hpr
        have rl : r.length = 1 + k := by rw [← hl, ← e2, List.length_map]
        have ra : arms r = 1 + k - t := by
          unfold arms
          rw [e2, hsum, en]
        have nD := S.pot.ne hD
        refine q _ _ r Hz ⟨by omega, by omega, e3, by omega⟩ (by omega) (S.trans Sz) hDz nD ?_
        rw [← e1]
        exact hP
end
end Bt

/-! zip over a list and a tuple: one turn of any two sources -/
namespace Bt
open PySem PySem.Spec PyProof.Rows L2
section
variable {prog : Program} {w : World} {A : Around} {E : Value → Shared → Prop} {s : Shared}
/-- the iterator at i gives x and then stands as N; l is what it reads -/
def Gives (prog : Program) (w : World) (A : Around) (i l : Addr) (now next : Heap → Prop) (x : Value) : Prop :=
  ∀ (s : Shared) (Q : Value → Shared → Prop) (E : Value → Shared → Prop), now s.heap → (∀ h', next h' → Heap.SameBut i s.heap h' → Q x { s with heap := h' }) → wpAny (model prog w) A (Builtin.SmallTypes.nextOf (.ref i)) Q E s
/-- .. it is spent -/
def Spent (prog : Program) (w : World) (A : Around) (i : Addr) (now : Heap → Prop) : Prop :=
  ∀ (s : Shared) (Q : Value → Shared → Prop) (E : Value → Shared → Prop), now s.heap → (∀ h' e, Heap.ExtBut i s.heap h' → (∃ o, h'.get? e = some o ∧ o.cls = .type "StopIteration") → E (.ref e) { s with heap := h' }) → wpAny (model prog w) A (Builtin.SmallTypes.nextOf (.ref i)) Q E s
/-- told by what stands at i and at l -/
def ByTwo (i l : Addr) (now : Heap → Prop) : Prop := ∀ h h', now h → (∀ o, h.get? i = some o → h'.get? i = some o) → (∀ o, h.get? l = some o → h'.get? l = some o) → now h'
def AtI (i : Addr) (now : Heap → Prop) : Prop := ∀ h, now h → ∃ o, h.get? i = some o
theorem zg_item {z TI TO i1 i2 l1 l2 : Addr} {x y a b : Value} {p1 n1 p2 n2 : Heap → Prop} {Q : Value → Shared → Prop} (D : ZipApart z TI TO i1 i2 l1 l2)
    (hz : IsZip s.heap z TI TO .none) (hTI : IsPair s.heap TI (.ref i1) (.ref i2)) (hTO : IsPair s.heap TO a b)
    (b1 : ByTwo i1 l1 p1) (b2 : ByTwo i2 l2 p2) (c1 : ByTwo i1 i1 n1) (c2 : ByTwo i2 i2 n2) (at1 : AtI i1 n1) (at2 : AtI i2 n2) (g1 : Gives prog w A i1 l1 p1 n1 x) (g2 : Gives prog w A i2 l2 p2 n2 y) (h1 : p1 s.heap) (h2 : p2 s.heap)
    (hQ : ∀ h', IsZip h' z TI TO (rawInt s.heap.objs.size) → IsPair h' TO x y → n1 h' → n2 h' → IsPair h' s.heap.objs.size x y → h'.objs.size = s.heap.objs.size + 1 →
      (∀ c o, c ≠ z → c ≠ TO → c ≠ i1 → c ≠ i2 → s.heap.get? c = some o → h'.get? c = some o) → Q (.ref s.heap.objs.size) { s with heap := h' }) :
    wpAny (model prog w) A (Builtin.«zip.__next__» ⟨[.ref z], []⟩) (fun fin s' => ∃ v, fin = .done (.ret v) ∧ Q v s') E s := by
  show wpAny _ _ (field (.ref z) 2 >>= _) _ _ _
  refine wpAny_bind (wpAny_field hz rfl (x := .bool false) rfl ?_)
  show wpAny _ _ (field (.ref z) 3 >>= _) _ _ _
  refine wpAny_bind (wpAny_field hz rfl (x := .ref TI) rfl (wpAny_bind (wpAny_seqItems hTI rfl ?_)))
  show wpAny _ _ (Builtin.SmallTypes.ownedTupleIsFree (.ref z) >>= _) _ _ _
  refine wpAny_bind ?_
  unfold Builtin.SmallTypes.ownedTupleIsFree
  refine wpAny_bind (wpAny_field hz rfl (x := .none) rfl (wpAny_pure ?_))
  simp only [if_true]
  refine wpAny_bind (wpAny_rule (wpAny_bind (wpAny_field hz rfl (x := .ref TO) rfl (wpAny_bind (wpAny_setField_rec hz (by simp) fun ha hza sa => ?_)))))
  replace hza : IsZip ha z TI TO .ellipsis := hza
  have ka : ∀ {c : Addr} {o : Obj}, c ≠ z → s.heap.get? c = some o → ha.get? c = some o := fun n e => sa.extBut _ _ n e
  refine wpAny_bind ?_
  simp only [List.zipIdx_cons, List.zipIdx_nil, List.forIn_cons, List.forIn_nil]
  refine wpAny_bind (wpAny_bind (wpAny_onRaise ?_))
  show wpAny _ _ (Builtin.SmallTypes.nextOf (.ref i1) >>= _) _ _ _
  refine wpAny_bind (g1 _ _ _ (b1 _ _ h1 (fun o e => ka D.i1z e) fun o e => ka D.l1z e) fun hb hnb sb => wpAny_pure ?_)
  have kb : ∀ {c : Addr} {o : Obj}, c ≠ z → c ≠ i1 → s.heap.get? c = some o → hb.get? c = some o := fun n m e => sb.extBut _ _ m (ka n e)
  have pb : IsPair hb TO a b := kb D.TOz D.TOi1 hTO
  refine wpAny_bind (wpAny_seqItems pb rfl (wpAny_bind (wpAny_updateSeq_pair pb fun hc hTc sc => ?_)))
  replace hTc : IsPair hc TO x b := hTc
  have kc : ∀ {c : Addr} {o : Obj}, c ≠ z → c ≠ i1 → c ≠ TO → s.heap.get? c = some o → hc.get? c = some o := fun n m k e => sc.extBut _ _ k (kb n m e)
  refine wpAny_bind (wpAny_letGo (wpAny_pure (wpAny_bind (wpAny_bind (wpAny_onRaise ?_)))))
  show wpAny _ _ (Builtin.SmallTypes.nextOf (.ref i2) >>= _) _ _ _
  refine wpAny_bind (g2 _ _ _ (b2 _ _ h2 (fun o e => kc D.i2z D.i12.symm D.TOi2.symm e) fun o e => kc D.l2z D.l2i1 D.l2TO e) fun hd hnd sd => wpAny_pure ?_)
  have kd : ∀ {c : Addr} {o : Obj}, c ≠ z → c ≠ i1 → c ≠ TO → c ≠ i2 → s.heap.get? c = some o → hd.get? c = some o := fun n m k j e => sd.extBut _ _ j (kc n m k e)
  have pd : IsPair hd TO x b := sd.extBut _ _ D.TOi2 hTc
  refine wpAny_bind (wpAny_seqItems pd rfl (wpAny_bind (wpAny_updateSeq_pair pd fun he hTe se => ?_)))
  replace hTe : IsPair he TO x y := hTe
  refine wpAny_bind (wpAny_letGo (wpAny_pure (wpAny_pure (wpAny_bind (wpAny_seqItems hTe rfl (wpAny_bind (wpAny_newTuple ?_)))))))
  have hsz : he.objs.size = s.heap.objs.size := by rw [se.1, sd.1, sc.1, sb.1, sa.1]
  have hze : IsZip he z TI TO .ellipsis := se.extBut _ _ D.TOz.symm (sd.extBut _ _ D.i2z.symm (sc.extBut _ _ D.TOz.symm (sb.extBut _ _ D.i1z.symm hza)))
  have ke : ∀ c o, c ≠ z → c ≠ TO → c ≠ i1 → c ≠ i2 → s.heap.get? c = some o → he.get? c = some o := fun c o n k m j e => se.extBut _ _ k (kd n m k j e)
  have m1 : n1 he := c1 _ _ hnb (fun o e => se.extBut _ _ D.TOi1.symm (sd.extBut _ _ D.i12 (sc.extBut _ _ D.TOi1.symm e))) (fun o e => se.extBut _ _ D.TOi1.symm (sd.extBut _ _ D.i12 (sc.extBut _ _ D.TOi1.symm e)))
  have m2 : n2 he := c2 _ _ hnd (fun o e => se.extBut _ _ D.TOi2.symm e) (fun o e => se.extBut _ _ D.TOi2.symm e)
  have zl : z < he.objs.size := Heap.lt_size hze
  show wpAny _ _ (Builtin.SmallTypes.ownedTupleHandOut (.ref z) (.ref he.objs.size) >>= _) _ _ _
  refine wpAny_bind ?_
  unfold Builtin.SmallTypes.ownedTupleHandOut
  have hzf : IsZip (he.push { cls := .type "tuple", data := .seq #[x, y] }) z TI TO .ellipsis := Heap.get?_push_of_some _ hze
  refine wpAny_bind (wpAny_setField_rec hzf (by simp) fun hf hzg sf => ?_)
  replace hzg : IsZip hf z TI TO (rawInt he.objs.size) := hzg
  refine wpAny_setField_rec hzg (by simp) fun hg hzh sg => ?_
  replace hzh : IsZip hg z TI TO (rawInt he.objs.size) := hzh
  have up : ∀ c o, c ≠ z → he.get? c = some o → hg.get? c = some o := fun c o n e => sg.extBut _ _ n (sf.extBut _ _ n (Heap.get?_push_of_some _ e))
  have hT : IsPair hg he.objs.size x y := sg.extBut _ _ (Nat.ne_of_gt zl) (sf.extBut _ _ (Nat.ne_of_gt zl) (Heap.get?_push_size _ rfl))
  have sz : hg.objs.size = he.objs.size + 1 := by rw [sg.1, sf.1, Heap.size_push]
  rw [hsz] at hzh hT sz
  refine wpAny_pure ⟨_, rfl, ?_⟩
  show Q (.ref he.objs.size) _
  rw [hsz]
  exact hQ hg hzh (up _ _ D.TOz hTe) (c1 _ _ m1 (fun o e => up _ o D.i1z e) fun o e => up _ o D.i1z e) (c2 _ _ m2 (fun o e => up _ o D.i2z e) fun o e => up _ o D.i2z e) hT sz fun c o n k m j e => up c o n (ke c o n k m j e)
theorem zg_end {z TI TO i1 i2 l1 l2 : Addr} {a b : Value} {p1 : Heap → Prop} {Q : Fin → Shared → Prop} (D : ZipApart z TI TO i1 i2 l1 l2)
    (hz : IsZip s.heap z TI TO .none) (hTI : IsPair s.heap TI (.ref i1) (.ref i2)) (hTO : IsPair s.heap TO a b) (b1 : ByTwo i1 l1 p1) (g1 : Spent prog w A i1 p1) (h1 : p1 s.heap)
    (hE : ∀ h' e, (∀ c o, c ≠ z → c ≠ TO → c ≠ i1 → c ≠ i2 → s.heap.get? c = some o → h'.get? c = some o) → (∃ o, h'.get? e = some o ∧ o.cls = .type "StopIteration") → E (.ref e) { s with heap := h' }) :
    wpAny (model prog w) A (Builtin.«zip.__next__» ⟨[.ref z], []⟩) Q E s := by
  show wpAny _ _ (field (.ref z) 2 >>= _) _ _ _
  refine wpAny_bind (wpAny_field hz rfl (x := .bool false) rfl ?_)
  show wpAny _ _ (field (.ref z) 3 >>= _) _ _ _
  refine wpAny_bind (wpAny_field hz rfl (x := .ref TI) rfl (wpAny_bind (wpAny_seqItems hTI rfl ?_)))
  show wpAny _ _ (Builtin.SmallTypes.ownedTupleIsFree (.ref z) >>= _) _ _ _
  refine wpAny_bind ?_
  unfold Builtin.SmallTypes.ownedTupleIsFree
  refine wpAny_bind (wpAny_field hz rfl (x := .none) rfl (wpAny_pure ?_))
  simp only [if_true]
  refine wpAny_bind (wpAny_rule (wpAny_bind (wpAny_field hz rfl (x := .ref TO) rfl (wpAny_bind (wpAny_setField_rec hz (by simp) fun ha hza sa => ?_)))))
  replace hza : IsZip ha z TI TO .ellipsis := hza
  refine wpAny_bind ?_
  simp only [List.zipIdx_cons, List.zipIdx_nil, List.forIn_cons, List.forIn_nil]
  refine wpAny_bind (wpAny_bind (wpAny_onRaise ?_))
  show wpAny _ _ (Builtin.SmallTypes.nextOf (.ref i1) >>= _) _ _ _
  refine wpAny_bind (g1 _ _ _ (b1 _ _ h1 (fun o e => sa.extBut _ _ D.i1z e) fun o e => sa.extBut _ _ D.l1z e) fun hb e sb he => ?_)
  obtain ⟨oe, hoe, hce⟩ := he
  have hzb : IsZip hb z TI TO .ellipsis := sb _ _ D.i1z.symm hza
  have ne : e ≠ z := fun x => by subst x; rw [hzb] at hoe; cases hoe; simp at hce
  exact wpAny_setField_rec hzb (by simp) fun hc _ sc => hE hc e (fun c o n _ m _ x => sc.extBut _ _ n (sb _ _ m (sa.extBut _ _ n x))) ⟨oe, sc.extBut _ _ ne hoe, hce⟩
end
end Bt

namespace Bt
open PySem PySem.Spec PyProof.Rows L2
/-! ### zip(list, tuple) -/
abbrev zm1 (h : Heap) (a : Addr) : Heap := h.push { cls := .type "list_iterator", data := .fields #[.ref a, .int 0 0] }
abbrev zm2 (h : Heap) (a b : Addr) : Heap := (zm1 h a).push { cls := .type "tuple_iterator", data := .fields #[.ref b, .int 0 0] }
abbrev zm3 (h : Heap) (a b : Addr) : Heap := (zm2 h a b).push { cls := .type "tuple", data := .seq #[.ref h.objs.size, .ref (zm1 h a).objs.size] }
abbrev zm4 (h : Heap) (a b : Addr) : Heap := (zm3 h a b).push { cls := .type "tuple", data := .seq #[.none, .none] }
abbrev zm5 (h : Heap) (a b : Addr) : Heap := (zm4 h a b).push { cls := .type "zip", data := .fields #[.none, .bool false, .bool false, .ref (zm2 h a b).objs.size, .ref (zm3 h a b).objs.size] }
theorem meets_zm (a b : Addr) (xs ys : Array Value) : Meets (Builtin.«zip.__new__» ⟨[.type "zip", .ref a, .ref b], []⟩) (fun _ R s => s.heap.IsList a xs ∧ s.heap.IsTuple b ys ∧ R (.ok (.ret (.ref (zm4 s.heap a b).objs.size))) { s with heap := zm5 s.heap a b }) :=
  .of_wp fun prog w A R s h => by
    obtain ⟨hp, g, d, tk, os⟩ := s
    obtain ⟨ha, hb, h⟩ := h
    have hs := sub_zip
    have La : Heap.IsList (Shared.heap ⟨hp, g, d, tk, os⟩) a xs := ha
    have Lb : Heap.IsTuple (Shared.heap ⟨hp.push { cls := .type "list_iterator", data := .fields #[.ref a, .int 0 0] }, g, d, tk, os⟩) b ys := Heap.IsTuple.push hb _
    wp_walk using wpAny_pyIter_list La, wpAny_pyIter_tuple Lb
    exact ⟨_, rfl, h⟩
theorem call_zm {prog : Program} {w : World} {A : Around} {E : Value → Shared → Prop} {s : Shared} {a b : Addr} {xs ys : Array Value} {Q : Value → Shared → Prop} (ha : s.heap.IsList a xs) (hb : s.heap.IsTuple b ys)
    (h : ∀ h', IsZip h' (s.heap.objs.size + 4) (s.heap.objs.size + 2) (s.heap.objs.size + 3) .none → IsPair h' (s.heap.objs.size + 2) (.ref s.heap.objs.size) (.ref (s.heap.objs.size + 1)) →
      IsPair h' (s.heap.objs.size + 3) .none .none → h'.IsListIter s.heap.objs.size a 0 → h'.IsTupleIter (s.heap.objs.size + 1) b 0 →
      (∀ c o, s.heap.get? c = some o → h'.get? c = some o) → Q (.ref (s.heap.objs.size + 4)) { s with heap := h' }) :
    wpAny (model prog w) A (call (.type "zip") [.ref a, .ref b]) Q E s := by
  refine callType_new F.called_zip (by decide) (F.typeCall_zip_2 _ _) (F.newCall_zip_2 _ _) (fun obj => F.args_object_init_3 obj _ _) F.entry_zip_new (meets_zm a b xs ys) ⟨ha, hb, ?_⟩
  have e1 : (zm1 s.heap a).objs.size = s.heap.objs.size + 1 := Heap.size_push ..
  have e2 : (zm2 s.heap a b).objs.size = s.heap.objs.size + 2 := by rw [Heap.size_push, e1]
  have e3 : (zm3 s.heap a b).objs.size = s.heap.objs.size + 3 := by rw [Heap.size_push, e2]
  have e4 : (zm4 s.heap a b).objs.size = s.heap.objs.size + 4 := by rw [Heap.size_push, e3]
  have up4 : ∀ {c o}, (zm4 s.heap a b).get? c = some o → (zm5 s.heap a b).get? c = some o := fun e => Heap.get?_push_of_some _ e
  have up3 : ∀ {c o}, (zm3 s.heap a b).get? c = some o → (zm5 s.heap a b).get? c = some o := fun e => up4 (Heap.get?_push_of_some _ e)
  have up2 : ∀ {c o}, (zm2 s.heap a b).get? c = some o → (zm5 s.heap a b).get? c = some o := fun e => up3 (Heap.get?_push_of_some _ e)
  have up1 : ∀ {c o}, (zm1 s.heap a).get? c = some o → (zm5 s.heap a b).get? c = some o := fun e => up2 (Heap.get?_push_of_some _ e)
  have k5 : (zm5 s.heap a b).get? (zm4 s.heap a b).objs.size = some _ := Heap.get?_push_size _ rfl
  have k4 : (zm5 s.heap a b).get? (zm3 s.heap a b).objs.size = some _ := up4 (Heap.get?_push_size _ rfl)
  have k3 : (zm5 s.heap a b).get? (zm2 s.heap a b).objs.size = some _ := up3 (Heap.get?_push_size _ rfl)
  have k2 : (zm5 s.heap a b).get? (zm1 s.heap a).objs.size = some _ := up2 (Heap.get?_push_size _ rfl)
  have k1 : (zm5 s.heap a b).get? s.heap.objs.size = some _ := up1 (Heap.get?_push_size _ rfl)
  show _ ∧ _
  rw [e2, e3, e4] at k5
  rw [e1, e2] at k3
  rw [e3] at k4
  rw [e1] at k2
  rw [e4]
  exact ⟨⟨_, k5, rfl⟩, h _ k5 k3 k4 ⟨_, k1, rfl, rfl⟩ ⟨_, k2, rfl, rfl⟩ fun c o x => up1 (Heap.get?_push_of_some _ x)⟩
/-- the list at a and the tuple at b as they stand at each turn, the items in new pairs -/
def Itm (K : PySem.W.Frag) (a b : Addr) : It :=
  ⟨fun i H => ∃ (xs ys : List V) (x y : V), SqL K H a xs ∧ SqT K H b ys ∧ xs[i]? = some x ∧ ys[i]? = some y,
    fun i H v H' => ∃ T x y, v = .ref T ∧ H T = none ∧ H' = upd H T (.tup [x, y]) ∧ (∀ xs, SqL K H a xs → xs[i]? = some x) ∧ ∀ ys, SqT K H b ys → ys[i]? = some y,
    fun i H => ∃ xs : List V, SqL K H a xs ∧ xs.length ≤ i⟩
section
variable {prog : Program} {w : World} {A : Around}
def sL (it l i : Nat) (its : Array Value) (h : Heap) : Prop := h.IsListIter it l i ∧ h.IsList l its
def sT (it l i : Nat) (its : Array Value) (h : Heap) : Prop := h.IsTupleIter it l i ∧ h.IsTuple l its
theorem sL_two {it l i : Nat} {its : Array Value} : ByTwo it l (sL it l i its) := fun _ _ h k1 k2 => ⟨h.1.at k1, h.2.at k2⟩
theorem sT_two {it l i : Nat} {its : Array Value} : ByTwo it l (sT it l i its) := fun h h' st k1 k2 => by
  obtain ⟨h1, o, ho, hc, n, hd⟩ := st
  exact ⟨h1.at k1, o, k2 _ ho, hc, n, hd⟩
theorem sL_gives {it l i : Nat} {its : Array Value} {x : Value} (hx : its[i]? = some x) : Gives prog w A it l (sL it l i its) (fun h => h.IsListIter it l (i + 1)) x :=
  by intro s Q E st q; exact wpAny_nextOf_list_item st.1 st.2 hx fun h' a b => q h' a b
theorem sT_gives {it l i : Nat} {its : Array Value} {x : Value} (hx : its[i]? = some x) : Gives prog w A it l (sT it l i its) (fun h => h.IsTupleIter it l (i + 1)) x :=
  by intro s Q E st q; exact RZ.nextOf_tuple_item st.1 st.2 hx fun h' a b => q h' a b
theorem sL_spent {it l i : Nat} {its : Array Value} (hh : A.handled = none) (hx : its[i]? = none) : Spent prog w A it (sL it l i its) :=
  by intro s Q E st q; exact wpAny_nextOf_list_end hh st.1 st.2 hx fun h' e a b => q h' e a b
end
theorem turn_zm {P : Program} {w : World} {K : PySem.W.Frag} {elts : List Expr} {kk : Nat} {tpos : Pos} {a b z TI TO i1 i2 : Addr} (D : ZipApart z TI TO i1 i2 a b) :
    Turn P w K (.Tuple elts kk tpos) (Itm K a b) [z, TI, TO, i1, i2] z (fun i h => IsZip h z TI TO .none ∧ IsPair h TI (.ref i1) (.ref i2) ∧ (∃ x y, IsPair h TO x y) ∧ h.IsListIter i1 a i ∧ h.IsTupleIter i2 b i) where
  mem := by simp
  obj := fun i h st c hc => by
    obtain ⟨hz, hTI, ⟨x, y, hTO⟩, ⟨o1, e1, _, d1⟩, ⟨o2, e2, _, d2⟩⟩ := st
    rcases (show c = z ∨ c = TI ∨ c = TO ∨ c = i1 ∨ c = i2 by simpa using hc) with q | q | q | q | q
    · rw [q]; exact ⟨_, hz, fun v q => nomatch q⟩
    · rw [q]; exact ⟨_, hTI, fun v q => nomatch q⟩
    · rw [q]; exact ⟨_, hTO, fun v q => nomatch q⟩
    · exact ⟨o1, by rw [q]; exact e1, fun v q => by rw [d1] at q; cases q⟩
    · exact ⟨o2, by rw [q]; exact e2, fun v q => by rw [d2] at q; cases q⟩
  keep := fun i h h' st k => by
    obtain ⟨hz, hTI, ⟨x, y, hTO⟩, h1, h2⟩ := st
    exact ⟨k z (by simp) _ hz, k TI (by simp) _ hTI, ⟨x, y, k TO (by simp) _ hTO⟩, h1.at fun o q => k i1 (by simp) o q, h2.at fun o q => k i2 (by simp) o q⟩
  item := by
    intro X hP hw hK hc i pins s σ H E I hf st hg
    subst hP hw hK
    obtain ⟨hz, hTI, ⟨x0, y0, hTO⟩, h1, h2⟩ := st
    obtain ⟨xs, ys, x, y, hqx, hqy, hx, hy⟩ := hg
    obtain ⟨its, rv, p, _⟩ := I.list hqx
    obtain ⟨its2, rv2, p2, _⟩ := I.tuple hqy
    obtain ⟨u, hu, ru⟩ := rv.get hx
    obtain ⟨u2, hu2, ru2⟩ := rv2.get hy
    have zl : z < s.heap.objs.size := Heap.lt_size hz
    have hZ : s.TypeIs (.ref z) "zip" := ⟨_, hz, rfl⟩
    unfold pyNext
    refine wpAny_bind (wpAny_attempt (wpAny_callSpecial?_slot (name := Str.ofString "__next__") hZ F.slot_zip_next (wpAny_call_entry F.slot_zip_next hZ F.entry_zip_next
      (zg_item D hz hTI hTO sL_two sT_two (fun _ _ h k _ => h.at k) (fun _ _ h k _ => h.at k) (fun _ h => let ⟨o, e, _⟩ := h; ⟨o, e⟩) (fun _ h => let ⟨o, e, _⟩ := h; ⟨o, e⟩) (sL_gives (x := u) (by simpa using hu)) (sT_gives (x := u2) (by simpa using hu2)) ⟨h1, p.isList⟩ ⟨h2, p2⟩
        fun h' z' TO' h1' h2' hT hsz hk => wpAny_pure ?_) (F.args_zip_next_1 _))))
    refine ⟨_, rfl, wpAny_letOwnedTupleGo_zip (s := { s with heap := h' }) z' fun h'' z'' sb => ?_⟩
    have hT2 : h''.get? s.heap.objs.size = some { cls := .type "tuple", data := .seq #[u, u2] } := (sb.2 _ (Nat.ne_of_gt zl)).trans hT
    have out : ∀ {c : Addr}, c ∉ [z, TI, TO, i1, i2] → c ≠ z ∧ c ≠ TO ∧ c ≠ i1 ∧ c ≠ i2 := fun n => ⟨fun e => n (by simp [e]), fun e => n (by simp [e]), fun e => n (by simp [e]), fun e => n (by simp [e])⟩
    have I1 : Inv X pins σ (upd H s.heap.objs.size (.tup [x, y])) { s with heap := h'' } := I.turnedNew (t' := s.toks) (ch := [z, TI, TO, i1, i2])
      (fun c o n q => (sb.2 c (out n).1).trans (hk c o (out n).1 (out n).2.1 (out n).2.2.1 (out n).2.2.2 q)) hf (Nat.le_refl _) ⟨by show 2 ≤ sizeLine; decide, [u, u2], .cons ru (.cons ru2 .nil), ⟨_, hT2, rfl, _, rfl⟩⟩
    refine ⟨.ref s.heap.objs.size, _, I1, rfl, ⟨_, x, y, rfl, I.hok.fresh (Nat.le_refl _), rfl, fun l hl => by rw [I.list_inj hl hqx]; exact hx, fun l hl => by rw [I.tuple_inj hl hqy]; exact hy⟩,
      ⟨z'', (sb.2 _ D.TIz).trans (hk _ _ D.TIz D.TITO D.TIi1 D.TIi2 hTI), ⟨u, u2, (sb.2 _ D.TOz).trans TO'⟩, h1'.at fun o q => (sb.2 _ D.i1z).trans q, h2'.at fun o q => (sb.2 _ D.i2z).trans q⟩, fun c hcm => ?_⟩
    have lt : c < s.heap.objs.size := by
      rcases (show c = z ∨ c = TI ∨ c = TO ∨ c = i1 ∨ c = i2 by simpa using hcm) with q | q | q | q | q
      · rw [q]; exact zl
      · rw [q]; exact Heap.lt_size hTI
      · rw [q]; exact Heap.lt_size hTO
      · rw [q]; obtain ⟨_, e, _⟩ := h1; exact Heap.lt_size e
      · rw [q]; obtain ⟨_, e, _⟩ := h2; exact Heap.lt_size e
    rw [upd_ne (Nat.ne_of_lt lt)]
    exact (hf c hcm).1
  done := by
    intro X hP hw hK hc i pins s σ H E I hf st hg
    subst hP hw hK
    obtain ⟨hz, hTI, ⟨x0, y0, hTO⟩, h1, h2⟩ := st
    obtain ⟨xs, hqx, hend⟩ := hg
    obtain ⟨its, rv, p, _⟩ := I.list hqx
    have l1 : xs.length = its.length := Paired.length rv
    have hZ : s.TypeIs (.ref z) "zip" := ⟨_, hz, rfl⟩
    unfold pyNext
    have hx : its.toArray[i]? = none := by simp; omega
    have sp : Spent X.prog X.w X.A.in1 i1 (sL i1 a i its.toArray) := sL_spent (show X.A.in1.handled = none from I.ok.hd hc) hx
    refine wpAny_bind (wpAny_attempt (wpAny_callSpecial?_slot (name := Str.ofString "__next__") hZ F.slot_zip_next (wpAny_call_entry F.slot_zip_next hZ F.entry_zip_next
      (zg_end D hz hTI hTO sL_two sp ⟨h1, p.isList⟩ fun h' e hk he => ?_) (F.args_zip_next_1 _))))
    obtain ⟨o, ho, hcl⟩ := he
    refine wpAny_bind (wpAny_isInstance (T := "StopIteration") (b := true) ⟨o, ho, hcl⟩ isSubtype_stop ?_)
    have out : ∀ {c : Addr}, c ∉ [z, TI, TO, i1, i2] → c ≠ z ∧ c ≠ TO ∧ c ≠ i1 ∧ c ≠ i2 := fun n => ⟨fun e => n (by simp [e]), fun e => n (by simp [e]), fun e => n (by simp [e]), fun e => n (by simp [e])⟩
    exact wpAny_pure ⟨rfl, I.turnedL (t' := s.toks) (ch := [z, TI, TO, i1, i2]) (fun c o n q => hk c o (out n).1 (out n).2.1 (out n).2.2.1 (out n).2.2.2 q) hf⟩
  self := fun A i s Q E st h => wpAny_pyIter_zip st.1 h
def iZipM (K : PySem.W.Frag) (ta : TA) : TI := fun σ H R => ta σ H fun vs H1 => ∃ a b xs ys, vs = [.ref a, .ref b] ∧ SqL K H1 a xs ∧ SqT K H1 b ys ∧ R (Itm K a b) H1
theorem pi_zipM {X : Cx} {e e2 : Expr} {ta : TA} {p pos tpos : Pos} {elts : List Expr} {kk : Nat} (hg : Gl X "zip") (hm : X.mg "zip" = none) (ha : PA X [e, e2] ta)
    (hs : starEach [e, e2] X.env = (false, eval e X.env) :: starEach [e2] X.env := by rfl) (hpl : (backTo pos (starEach [e2] X.env)).any (·.1) = false := by rfl) :
    PI X (.Tuple elts kk tpos) (.Call (.Name "zip" p) [e, e2] [] pos) (iZipM X.K ta) := by
  refine ⟨fun pins s σ H R I h => ?_⟩
  refine Call_ (ld_blt I hg hm PyProof.Rows.boot_zip (PyProof.Rows.callWith_type1 (thn (ha.run pos pins s σ H _ I h) fun us s1 ⟨vs, H1, I1, r1, q1⟩ => ?_) hs hpl))
  obtain ⟨a, b, xs, ys, ex, hqx, hqy, q⟩ := q1
  subst ex
  obtain ⟨u1, u2, eu, ra, rb⟩ := vals2 r1
  subst eu
  cases ra
  cases rb
  obtain ⟨its, rv, p1, _⟩ := I1.list hqx
  obtain ⟨its2, rv2, p2, _⟩ := I1.tuple hqy
  obtain ⟨o2, ho2, _⟩ := id p2
  refine call_zm p1.isList (show s1.heap.IsTuple b its2.toArray from p2) fun h' hz hTI hTO h1 h2 hk => wpAny_pyIter_zip hz ?_
  refine ⟨s1.heap.objs.size + 4, [s1.heap.objs.size + 4, s1.heap.objs.size + 2, s1.heap.objs.size + 3, s1.heap.objs.size, s1.heap.objs.size + 1], _, _, H1, rfl, I1.kept (t' := s1.toks) hk, turn_zm (PySem.W.ktu_apart s1.heap.objs.size a b p1.lt (Heap.lt_size ho2)), ⟨hz, hTI, ⟨_, _, hTO⟩, h1, h2⟩, fun c hcm => ?_, q⟩
  have hle : s1.heap.objs.size ≤ c := by
    rcases (show c = s1.heap.objs.size + 4 ∨ c = s1.heap.objs.size + 2 ∨ c = s1.heap.objs.size + 3 ∨ c = s1.heap.objs.size ∨ c = s1.heap.objs.size + 1 by simpa using hcm) with z | z | z | z | z <;> rw [z] <;> first | exact Nat.le_add_right _ _ | exact Nat.le_refl _
  exact I1.fpOk hle (I1.hok.fresh hle)
theorem walk_zm {K : PySem.W.Frag} {a b : Addr} {xs ys : List V} {n : Nat} (h1 : xs.length = n) (h2 : ys.length = n) : Walk (Itm K a b) n (fun H => SqL K H a xs ∧ SqT K H b ys) (YPair (fun i => xs[i]?) (fun i => ys[i]?)) :=
  ⟨fun i H hi h => ⟨xs, ys, xs[i]'(by omega), ys[i]'(by omega), h.1, h.2, List.getElem?_eq_getElem _, List.getElem?_eq_getElem _⟩, fun H h => ⟨xs, h.1, by omega⟩,
    fun i H x H' hi h y => by
      obtain ⟨T, u, v, e1, e2, e3, k1, k2⟩ := y
      exact ⟨T, u, v, e1, e2, e3, k1 _ h.1, k2 _ h.2⟩⟩
end Bt

namespace Bt
open PySem PySem.Spec PyProof.Rows L2
/-! ### the law's own arcs -/
def RowV (K : PySem.W.Frag) (H : Hp) (v : V) (r : Row) : Prop := ∃ a xs, v = .ref a ∧ (SqL K H a xs ∨ SqT K H a xs) ∧ DpAll K H xs (rowD r)
theorem RowV.mono {K : PySem.W.Frag} {H H' : Hp} {v : V} {r : Row} (h : RowV K H v r) (S : Same H H') : RowV K H' v r := by
  obtain ⟨a, xs, e, hq, hA⟩ := h
  exact ⟨a, xs, e, hq.imp (same_l S) (same_t S), hA.mono S⟩
theorem rowV_t {K : PySem.W.Frag} {H : Hp} {v : V} {r : Row} (h : Dp K H v (.tuple (rowD r))) : RowV K H v r := by
  obtain ⟨a, xs, e, hT, hA⟩ := h.tupI
  exact ⟨a, xs, e, .inr hT, hA⟩
theorem rowV_l {K : PySem.W.Frag} {H : Hp} {v : V} {r : Row} (h : Dp K H v (.list (rowD r))) : RowV K H v r := by
  obtain ⟨a, xs, e, hT, hA⟩ := h.lstI
  exact ⟨a, xs, e, .inl hT, hA⟩
theorem rowV_len {K : PySem.W.Frag} {H : Hp} {a : Addr} {xs : List V} (hq : SqL K H a xs ∨ SqT K H a xs) : LenV K (.ref a) H xs.length := by
  rcases hq with h | h
  · exact .inl ⟨xs, h, rfl⟩
  · exact .inr ⟨xs, h, rfl⟩
theorem rowV_ix {K : PySem.W.Frag} {H : Hp} {a : Addr} {xs : List V} {i : Int} {v : V} {Q : VK} (hq : SqL K H a xs ∨ SqT K H a xs) (h : atI xs i = some v) (q : Q v H) : rIx K (.ref a) (.int i) H Q := by
  rcases hq with hq | hq
  · exact .inl ⟨a, xs, i, v, rfl, rfl, hq, h, q⟩
  · exact .inr (.inl ⟨a, xs, i, v, rfl, rfl, hq, h, q⟩)
def spLArc (K : PySem.W.Frag) : Sp := fun vs H Q E => ∃ v r, ∃ p : Nat, vs = [v, .int (p : Nat)] ∧ RowV K H v r ∧ 1 ≤ r.length ∧ r.length ≤ 100 ∧ ∀ a H', H a = none → Same H H' → H' a = some (.lst ((zs (arcL r p)).map V.int)) → Q (.ref a) H'
section
variable {P : Program} {w : World} {K : PySem.W.Frag} {mg : Str → Option Value} {base : Heap}
theorem ok__law_arc (T : Txt K mg) : FO P w K mg base (L2.CX P w) 1 (a__law_arc K) ["_law_row_here", "_law_place"] (spLArc K) := by
  refine T.d__law_arc.ok sc__law_arc (fun vs H Q E h => ?_) (fun cdv A outer s H vs Q E hr h => ?_)
  · obtain ⟨v, r, p, rfl, _⟩ := h
    rfl
  · obtain ⟨v, r, p, rfl, hd, h1, h100, q⟩ := h
    refine ⟨_, (pss_cons (ps_set (i := 2) sc__law_arc.nd rfl (Or.inl rfl) (pe_lst pa_nil)) (pss_cons (ps_set (i := 3) sc__law_arc.nd rfl (Or.inl rfl) pe_int) (pss_cons (ps_for (passes_of rfl) rfl (pi_range1 rfl T.f_range (pa_cons (pe_callB (id := "len") call_len (by rfl) T.f_len (by decide +kernel) (pa_cons (pv 0) pa_nil)) pa_nil)) (pg_name (i := 4) sc__law_arc.nd rfl (Or.inl rfl)) (pss_one (ps_if (pt_cmpR op_gt (pv 3) pe_int (nomark _)) (pss_cons (ps_set (i := 5) sc__law_arc.nd rfl (Or.inl rfl) (pe_op op_mod (pe_op op_add (pv 1) (pv 4)) (pe_callB (id := "len") call_len (by rfl) T.f_len (by decide +kernel) (pa_cons (pv 0) pa_nil)))) (pss_cons (ps_expr (pe_bm PySem.F.plainAttrs_list PySem.F.slot_list_append PySem.F.type_list_append mt_append (pv 2) (pa_cons (pv 5) pa_nil))) (pss_one (ps_set (i := 3) sc__law_arc.nd rfl (Or.inl rfl) (pe_op op_add (pe_op op_sub (pv 3) pe_int) (pe_ix ix_tup (pe_ix ix_seq (pv 0) (pv 5) (fun _ _ => rfl)) pe_int (fun _ _ => rfl))))))) pss_nil))) (pss_one (ps_ret (pv 2)))))), ?_⟩
    refine ⟨(by show 0 ≤ sizeLine; decide), fun l hl => ?_⟩
    have S0 : Same H (upd H l (.lst [])) := same_new hl
    have hl0 : (upd H l (.lst [])) l = some (.lst []) := upd_same
    generalize upd H l (.lst []) = H0 at S0 hl0
    obtain ⟨a, xs, rfl, hq0, hA0⟩ := hd
    have hx : xs.length = r.length := by rw [hA0.len, rowD_len]
    have hq := hq0.imp (same_l S0) (same_t S0)
    refine ⟨_, rfl, _, xs.length, rfl, rowV_len hq, _, rfl, (by omega), (by omega), ?_⟩
    have en : (((xs.length : Nat) : Int)).toNat = r.length := by omega
    rw [en]
    have hx' : ((xs.length : Nat) : Int) = ((r.length : Nat) : Int) := by rw [hx]
    refine for_it (walk_range (lo := 0) (n := r.length)) (fun k σ H' => ∃ x y, σ = [some (.ref a), some (.int (p : Nat)), some (.ref l), some (.int (want r p (lenF r p k))), x, y] ∧ Same H H' ∧ H' l = some (.lst ((zs ((List.range (lenF r p k)).map fun i => (p + i) % r.length)).map V.int))) ⟨none, none, rfl, S0, hl0⟩ (fun _ _ _ _ _ => True.intro) ?_ ?_
    · rintro k x σ H1 H2 hk ⟨x0, y0, rfl, S, hL⟩ ⟨rfl, rfl⟩
      refine ⟨_, rfl, _, _, rfl, rfl, _, rfl, ?_⟩
      by_cases c : 0 < want r p (lenF r p k)
      · rw [decide_eq_true c]
        refine iteT ?_
        have hfull := lenF_full r p k c
        have hmod : (p + k) % r.length < r.length := Nat.mod_lt _ (by omega)
        have hqS := hq0.imp (same_l S) (same_t S)
        refine ⟨_, rfl, _, rfl, _, _, rfl, rfl, _, rfl, _, xs.length, rfl, rowV_len hqS, _, _, rfl, rfl, (by show (0 : Int) < (xs.length : Nat); omega), ?_⟩
        have e1 : (((p : Nat) : Int) + (0 + ((k : Nat) : Int))) % ((xs.length : Nat) : Int) = (((p + k) % r.length : Nat) : Int) := by
          rw [hx, Int.zero_add]
          exact (Int.natCast_emod (p + k) r.length).symm
        obtain ⟨t, z, hz, hB, _⟩ := bead_ix hA0 hmod
        have hlx : (zs ((List.range (lenF r p k)).map fun i => (p + i) % r.length)).length = lenF r p k := by unfold zs; rw [List.length_map, List.length_map, List.length_range]
        refine ⟨_, rfl, .inl ⟨rfl, _, .inl (.inl hL)⟩, _, rfl, l, _, _, rfl, rfl, hL, lt_line (by rw [List.length_map, hlx]; omega), ?_⟩
        have hat : atI xs ((((p : Nat) : Int) + (0 + ((k : Nat) : Int))) % ((xs.length : Nat) : Int)) = some (.ref t) := atI_nat' e1 hz
        have S3 : Same H (upd H2 l (.lst ((zs ((List.range (lenF r p k)).map fun i => (p + i) % r.length)).map V.int ++ [.int ((((p : Nat) : Int) + (0 + ((k : Nat) : Int))) % ((xs.length : Nat) : Int))]))) := same_upd S hl
        have hL3 : (upd H2 l (.lst ((zs ((List.range (lenF r p k)).map fun i => (p + i) % r.length)).map V.int ++ [.int ((((p : Nat) : Int) + (0 + ((k : Nat) : Int))) % ((xs.length : Nat) : Int))]))) l = some (.lst ((zs ((List.range (lenF r p (k + 1))).map fun i => (p + i) % r.length)).map V.int)) := by
          rw [upd_same, e1, show lenF r p (k + 1) = lenF r p k + 1 from if_pos c, List.range_succ]
          unfold zs
          rw [List.map_append, List.map_append, List.map_append, hfull]
          rfl
        refine ⟨_, rfl, _, _, rfl, rfl, _, rfl, _, rfl, rowV_ix (hq0.imp (same_l S3) (same_t S3)) hat ⟨t, _, 1, _, rfl, rfl, same_t S3 hB, rfl, _, _, rfl, rfl, ?_⟩⟩
        refine ⟨some (V.int (0 + ((k : Nat) : Int))), some (V.int ((((p : Nat) : Int) + (0 + ((k : Nat) : Int))) % ((xs.length : Nat) : Int))), ?_, S3, hL3⟩
        have ew : want r p (lenF r p (k + 1)) = want r p (lenF r p k) - 1 + (dn r ((p + k) % r.length) : Nat) := by
          rw [show lenF r p (k + 1) = lenF r p k + 1 from if_pos c, hfull, dn_mod]
          rfl
        rw [ew]
        rfl
      · rw [decide_eq_false c]
        have e : lenF r p (k + 1) = lenF r p k := if_neg c
        refine iteF ⟨some (V.int (0 + ((k : Nat) : Int))), y0, ?_, S, ?_⟩
        · rw [e]
          rfl
        · rw [e]
          exact hL
    · rintro σ H1 ⟨x0, y0, rfl, S, hL⟩
      exact ⟨_, rfl, q l _ hl S hL⟩
end
end Bt

namespace Bt
open PySem PySem.Spec PyProof.Rows L2
/-! ### the law's model of a row -/
structure MdA (K : PySem.W.Frag) (H : Hp) (m : Addr) (r : Row) (tl kd nd : Addr) (kk : List (Key × V)) : Prop where
  m : H m = some (.dK [(Sum.inr "tops", .ref tl), (Sum.inr "kids", .ref kd), (Sum.inr "names", .ref nd)])
  tl : H tl = some (.lst ((zs (topsL r)).map V.int))
  kd : H kd = some (.dK kk)
  keys : kk.map (·.1) = (zs (List.range r.length)).map Sum.inl
  kid : ∀ i, i < r.length → ∃ l, valV kk (Sum.inl ((i : Nat) : Int)) = some (.ref l) ∧ H l = some (.lst ((zs (kidsL r i)).map V.int))
def Md (K : PySem.W.Frag) (H : Hp) (v : V) (r : Row) : Prop := ∃ m tl kd nd kk, v = .ref m ∧ MdA K H m r tl kd nd kk
theorem MdA.mono {K : PySem.W.Frag} {H H' : Hp} {m : Addr} {r : Row} {tl kd nd : Addr} {kk : List (Key × V)} (h : MdA K H m r tl kd nd kk) (S : Same H H') : MdA K H' m r tl kd nd kk :=
  ⟨S _ _ h.m, S _ _ h.tl, S _ _ h.kd, h.keys, fun i hi => by obtain ⟨l, e1, e2⟩ := h.kid i hi; exact ⟨l, e1, S _ _ e2⟩⟩
theorem Md.mono {K : PySem.W.Frag} {H H' : Hp} {v : V} {r : Row} (h : Md K H v r) (S : Same H H') : Md K H' v r := by
  obtain ⟨m, tl, kd, nd, kk, e, a⟩ := h
  exact ⟨m, tl, kd, nd, kk, e, a.mono S⟩
def spGrown (K : PySem.W.Frag) : Sp := fun vs H Q E => ∃ nl v r, vs = [.ref nl, v] ∧ H nl = some (.lst ((zs (List.range r.length)).map V.int)) ∧ RowV K H v r ∧ Good r ∧ ∀ u H', Same H H' → Md K H' u r → Q u H'
/-- what is inside an arc of the first i places -/
def InB (r : Row) (i : Nat) (n : Nat) : Prop := ∃ p, p < i ∧ n ∈ (arcL r p).tail
def nmL (r : Row) : List PyData := (List.range r.length).map fun i => .tuple [.int ((i : Nat) : Int), .str (((r[i]?).map (·.1)).getD "")]
theorem nm_pairs {K : PySem.W.Frag} {H : Hp} {f : Nat → Str} : ∀ {acc : List V} {l : List Nat}, DpAll K H acc (l.map fun i => PyData.tuple [.int ((i : Nat) : Int), .str (f i)]) → ∃ (ps : List Addr) (kvs : List (Key × V)), acc = ps.map V.ref ∧ Paired (fun p kv => SqT K H p [kV kv.1, kv.2]) ps kvs
  | _, [], h => by
    cases h
    exact ⟨[], [], rfl, .nil⟩
  | _, i :: l, h => by
    cases h with
    | cons h1 h2 =>
      obtain ⟨ps, kvs, e, hp⟩ := nm_pairs (l := l) h2
      obtain ⟨a, xs, rfl, hT, hA⟩ := h1.tupI
      cases hA with
      | cons a1 r =>
        cases r with
        | cons a2 r =>
          cases r
          cases a1
          cases a2
          exact ⟨a :: ps, (Sum.inl ((i : Nat) : Int), .str (f i)) :: kvs, by rw [e]; rfl, .cons hT hp⟩
/-- the row is a list or a tuple: zip walks it -/
theorem zipOr {K : PySem.W.Frag} {H : Hp} {n a : Addr} {ns xs : List V} {k : Nat} {ta : TA} {σ : L2.St} {R : It → Hp → Prop} (hq : SqL K H a xs ∨ SqT K H a xs) (hn : SqL K H n ns) (l1 : ns.length = k) (l2 : xs.length = k)
    (go : ∀ J, Walk J k (fun H' => Same H H') (YPair (fun i => ns[i]?) (fun i => xs[i]?)) → R J H) (ht : ∀ Q : List V → Hp → Prop, Q [.ref n, .ref a] H → ta σ H Q := by exact fun Q q => ⟨_, rfl, _, rfl, q⟩) : iZip K ta σ H R ∨ iZipM K ta σ H R := by
  rcases hq with hq | hq
  · exact .inl (ht _ ⟨n, a, ns, xs, rfl, hn, hq, go _ ((walk_zip (by rw [l1, l2, Nat.min_self])).mono (fun H' S => ⟨same_l S hn, same_l S hq⟩) fun _ _ _ _ _ _ y => y)⟩)
  · exact .inr (ht _ ⟨n, a, ns, xs, rfl, hn, hq, go _ ((walk_zm l1 l2).mono (fun H' S => ⟨same_l S hn, same_t S hq⟩) fun _ _ _ _ _ _ y => y)⟩)
section
variable {P : Program} {w : World} {K : PySem.W.Frag} {mg : Str → Option Value} {base : Heap}
theorem ok__law_grown (T : Txt K mg) : FO P w K mg base (L2.CX P w) 2 (a__law_grown K) ["_law_numbers", "_law_row_here"] (spGrown K) := by
  refine T.d__law_grown.ok sc__law_grown (fun vs H Q E h => ?_) (fun cdv A outer s H vs Q E hr h => ?_)
  · obtain ⟨nl, v, r, rfl, _⟩ := h
    rfl
  · obtain ⟨nl, v, r, rfl, hn, hd, g, q⟩ := h
    have G__law_arc := ok__law_arc (P := P) (w := w) (base := base) T
    refine ⟨_, (pss_cons (ps_setLc (i := 2) (own := [("_law_place", 3)]) (g := gName 3) rfl sc__law_grown.nd rfl rfl (sw_true rfl rfl rfl (by decide +kernel)) (pi_range1 rfl T.f_range (pa_cons (pe_callB (id := "len") call_len (by rfl) T.f_len (by decide +kernel) (pa_cons (pv 1) pa_nil)) pa_nil)) (blkOk_by (own := [("_law_place", 3)]) (N := ["_law_numbers", "_law_row_here", "_law_arcs", "_law_place", "_law_inside", "_law_kids", "_law_number_here", "_law_here", "_law_k", "_law_names", "_law_bead"]) (sc := defScope s__law_grown) (by decide +kernel)) (fun _ _ _ _ _ => pg_name (i := 3) sc__law_grown.nd rfl (Or.inl rfl)) (fun _ _ _ _ _ => pts_nil) (fun _ _ _ _ _ => (pe_call G__law_arc (hr.mono (by decide)) rfl T.g__law_arc T.d__law_arc.kp T.b__law_arc .nil passL (pa_cons (pv 1) (pa_cons (pv 3) pa_nil))))) (pss_cons (ps_set (i := 4) sc__law_grown.nd rfl (Or.inr rfl) pe_dnewK) (pss_cons (ps_set (i := 5) sc__law_grown.nd rfl (Or.inl rfl) pe_dnewK) (pss_cons (ps_for (passes_of rfl) rfl (pi_enum (by rfl) T.f_enumerate (pa_cons (pv 0) pa_nil)) (pg_tup rfl (pgs_cons (pg_name (i := 3) sc__law_grown.nd rfl (Or.inl rfl)) (pgs_cons (pg_name (i := 6) sc__law_grown.nd rfl (Or.inl rfl)) pgs_nil))) (pss_cons (ps_for (passes_of rfl) rfl (pi_list (pe_slice sl_list (pe_ix ix_list (pv 2) (pv 3) (fun _ _ => rfl)) (po_some pe_int) po_none)) (pg_name (i := 7) sc__law_grown.nd rfl (Or.inl rfl)) (pss_one (ps_dput (hu_of hr) (pv 4) (pe_ix ix_list (pv 0) (pv 7) (fun _ _ => rfl)) pe_bl rfl))) (pss_cons (ps_dput (hu_of hr) (pv 5) (pv 6) (pe_lst pa_nil) rfl) (pss_cons (ps_set (i := 7) sc__law_grown.nd rfl (Or.inl rfl) (pe_op op_add (pv 3) pe_int)) (pss_one (ps_for (passes_of rfl) rfl (pi_range1 rfl T.f_range (pa_cons (pe_ix ix_tup (pe_ix ix_seq (pv 1) (pv 3) (fun _ _ => rfl)) pe_int (fun _ _ => rfl)) pa_nil)) (pg_name (i := 8) sc__law_grown.nd rfl (Or.inl rfl)) (pss_cons (ps_expr (pe_bm PySem.F.plainAttrs_list PySem.F.slot_list_append PySem.F.type_list_append mt_append (pe_dget (hu_of hr) (pv 5) (pv 6) (fun _ _ => rfl)) (pa_cons (pe_ix ix_list (pv 0) (pe_op op_mod (pv 7) (pe_callB (id := "len") call_len (by rfl) T.f_len (by decide +kernel) (pa_cons (pv 1) pa_nil))) (fun _ _ => rfl)) pa_nil))) (pss_one (ps_set (i := 7) sc__law_grown.nd rfl (Or.inl rfl) (pe_op op_add (pv 7) (pe_callB (id := "len") call_len (by rfl) T.f_len (by decide +kernel) (pa_cons (pe_ix ix_list (pv 2) (pe_op op_mod (pv 7) (pe_callB (id := "len") call_len (by rfl) T.f_len (by decide +kernel) (pa_cons (pv 1) pa_nil))) (fun _ _ => rfl)) pa_nil)))))))))))) (pss_cons (ps_set (i := 9) sc__law_grown.nd rfl (Or.inl rfl) (pe_callTy (T := "dict") (call_dictP rfl) (by rfl) T.f_dict (by decide +kernel) (pa_cons (pe_lc (own := [("_law_number_here", 6), ("_law_bead", 10)]) (g := gTup K 2 (gCons (gName 6) (gCons (gName 10) gNil))) rfl sc__law_grown.nd (pi_or (pi_zip (by rfl) T.f_zip (pa_cons (pv 0) (pa_cons (pv 1) pa_nil))) (pi_zipM (by rfl) T.f_zip (pa_cons (pv 0) (pa_cons (pv 1) pa_nil)))) (blkOk_by (own := [("_law_number_here", 6), ("_law_bead", 10)]) (N := ["_law_numbers", "_law_row_here", "_law_arcs", "_law_place", "_law_inside", "_law_kids", "_law_number_here", "_law_here", "_law_k", "_law_names", "_law_bead"]) (sc := defScope s__law_grown) (by decide +kernel)) (fun _ _ _ _ _ => pg_tup rfl (pgs_cons (pg_name (i := 6) sc__law_grown.nd rfl (Or.inl rfl)) (pgs_cons (pg_name (i := 10) sc__law_grown.nd rfl (Or.inl rfl)) pgs_nil))) (fun _ _ _ _ _ => pts_nil) (fun _ _ _ _ _ => (pe_tup (pa_cons (pv 6) (pa_cons (pe_ix (ix_tupK (K := K)) (pv 10) pe_int (fun _ _ => rfl)) pa_nil))))) pa_nil))) (pss_one (ps_ret (pe_disp (pps_cons pe_str (pe_lc (own := [("_law_number_here", 6)]) (g := gName 6) rfl sc__law_grown.nd (pi_list (pv 0)) (blkOk_by (own := [("_law_number_here", 6)]) (N := ["_law_numbers", "_law_row_here", "_law_arcs", "_law_place", "_law_inside", "_law_kids", "_law_number_here", "_law_here", "_law_k", "_law_names", "_law_bead"]) (sc := defScope s__law_grown) (by decide +kernel)) (fun _ _ _ _ _ => pg_name (i := 6) sc__law_grown.nd rfl (Or.inl rfl)) (fun _ _ _ _ _ => pts_one (pt_cmp (pc_dnotin (hu_of hr) (pv 6) (pv 4)))) (fun _ _ _ _ _ => (pv 6))) (pps_cons pe_str (pv 5) (pps_cons pe_str (pv 9) pps_nil))) (by rfl) (by rfl) (fun z => by cases z) (by decide))))))))), ?_⟩
    have h1 := g.ne
    have h100 := g.le
    obtain ⟨a, xs, rfl, hq, hA⟩ := hd
    have hx : xs.length = r.length := by rw [hA.len, rowD_len]
    have hRow : ∀ H', Same H H' → RowV K H' (.ref a) r := fun H' S => ⟨a, xs, rfl, hq.imp (same_l S) (same_t S), hA.mono S⟩
    have nlen : ((zs (List.range r.length)).map V.int).length = r.length := by unfold zs; rw [List.length_map, List.length_map, List.length_range]
    have nget : ∀ i, i < r.length → ((zs (List.range r.length)).map V.int)[i]? = some (.int ((i : Nat) : Int)) := fun i hi => by
      rw [List.getElem?_map, zs_get (List.getElem?_range hi)]
      rfl
    refine ⟨_, rfl, _, xs.length, rfl, rowV_len hq, _, rfl, by omega, by omega, fun D hD => ?_⟩
    have en : (((xs.length : Nat) : Int)).toNat = r.length := by omega
    rw [en]
    refine lc_it (walk_range (lo := 0) (n := r.length)) (fun i H' => Same H H' ∧ ∃ acc, H' D = some (.lst acc) ∧ acc.length = i ∧ ∀ j, j < i → ∃ b, acc[j]? = some (.ref b) ∧ b ≠ D ∧ H' b = some (.lst ((zs (arcL r j)).map V.int))) ⟨same_new hD, [], upd_same, rfl, fun j hj => by omega⟩ (fun _ _ _ _ => True.intro) ?_ ?_
    · rintro i x H3 H3' hi ⟨S, acc, hD3, al, hal⟩ ⟨rfl, rfl⟩
      refine ⟨rfl, _, rfl, _, rfl, .ref a, r, i, ?_, hRow _ S, h1, h100, fun b H4 hb S4 hB => ?_⟩
      · show [V.ref a, V.int (0 + ((i : Nat) : Int))] = _
        rw [Int.zero_add]
      have nb : b ≠ D := fun e => by rw [e, hD3] at hb; cases hb
      have hD4 := S4 _ _ hD3
      refine ⟨acc, hD4, lt_line (by omega), same_upd (S.trans S4) hD, acc ++ [.ref b], upd_same, by rw [List.length_append, al]; rfl, fun j hj => ?_⟩
      by_cases c : j < i
      · obtain ⟨b', e1, e2, e3⟩ := hal j c
        exact ⟨b', by rw [List.getElem?_append_left (by omega)]; exact e1, e2, by rw [upd_ne e2]; exact S4 _ _ e3⟩
      · have : j = i := by omega
        subst this
        exact ⟨b, by rw [List.getElem?_append_right (by omega), al, Nat.sub_self]; rfl, nb, by rw [upd_ne nb]; exact hB⟩
    · rintro H1 ⟨S1, arcs, hD1, al, hal⟩
      refine fun ia hia => ?_
      have Sa : Same H1 (upd H1 ia (.dK [])) := same_new hia
      have hIa : (upd H1 ia (.dK [])) ia = some (.dK []) := upd_same
      generalize upd H1 ia (.dK []) = Ha at Sa hIa
      refine fun kd hkd => ?_
      have Sb : Same Ha (upd Ha kd (.dK [])) := same_new hkd
      have hKd : (upd Ha kd (.dK [])) kd = some (.dK []) := upd_same
      generalize upd Ha kd (.dK []) = Hb at Sb hKd
      have nak : ia ≠ kd := fun e => by rw [← e, hIa] at hkd; cases hkd
      have hIb := Sb _ _ hIa
      have S1b := Sa.trans Sb
      have hkd1 : H1 kd = none := Sa.free hkd
      have hn1 := S1 _ _ hn
      refine ⟨_, rfl, nl, _, rfl, .inl (.inl (S1b _ _ hn1)), ?_⟩
      refine for_it (walk_enum (K := K) (a := nl) (xs := (zs (List.range r.length)).map V.int)) (fun i σ H' => ∃ x3 x6 x7 x8 ins kk, σ = [some (.ref nl), some (.ref a), some (.ref D), x3, some (.ref ia), some (.ref kd), x6, x7, x8, none, none] ∧ Same H1 H' ∧ H' ia = some (.dK ins) ∧ ins.length ≤ 200 * i ∧ (∀ n : Nat, (valV ins (Sum.inl ((n : Nat) : Int))).isSome = true ↔ InB r i n) ∧
        H' kd = some (.dK kk) ∧ kk.map (·.1) = (zs (List.range i)).map Sum.inl ∧ ∀ j, j < i → ∃ l, valV kk (Sum.inl ((j : Nat) : Int)) = some (.ref l) ∧ H1 l = none ∧ l ≠ ia ∧ l ≠ kd ∧ H' l = some (.lst ((zs (kidsL r j)).map V.int))) ⟨none, none, none, none, [], [], rfl, S1b, hIb, by simp, fun n => ⟨fun h => (by cases h), fun ⟨p, hp, _⟩ => (by omega)⟩, hKd, rfl, fun j hj => by omega⟩ (fun i σ H' _ ⟨_, _, _, _, _, _, _, S, _⟩ => .inl (.inl (S _ _ hn1))) ?_ ?_
      · rintro i x σ H2 H3 hi ⟨x3, x6, x7, x8, ins, kk, rfl, S, hI, hil, hin, hK, hkeys, hkids⟩ ⟨t, u1, u2, rfl, ht, rfl, hu1, hu2⟩
        have hi' : i < r.length := by rw [nlen] at hi; exact hi
        have hu1' : some (V.int ((i : Nat) : Int)) = some u1 := hu1
        have hu2' : ((zs (List.range r.length)).map V.int)[i]? = some u2 := hu2
        rw [nget i hi'] at hu2'
        have e1 := Option.some.inj hu1'
        have e2 := Option.some.inj hu2'
        subst e1
        subst e2
        have St : Same H2 (upd H2 t (.tup [.int ((i : Nat) : Int), .int ((i : Nat) : Int)])) := same_new ht
        have hT : (upd H2 t (.tup [.int ((i : Nat) : Int), .int ((i : Nat) : Int)])) t = some (.tup [.int ((i : Nat) : Int), .int ((i : Nat) : Int)]) := upd_same
        generalize upd H2 t (.tup [.int ((i : Nat) : Int), .int ((i : Nat) : Int)]) = H3 at St hT
        have S3 := S.trans St
        have hI3 := St _ _ hI
        have hK3 := St _ _ hK
        refine ⟨t, _, rfl, SqT.of hT, rfl, _, _, rfl, _, _, rfl, rfl, ?_⟩
        obtain ⟨b, hb1, hb2, hb3⟩ := hal i hi'
        -- the first inner walk
        refine ⟨_, rfl, _, rfl, D, _, _, .ref b, rfl, rfl, .inl (.inl (S3 _ _ hD1)), atI_nat hb1, _, rfl, np ?_⟩
        have alen : ((zs (arcL r i)).map V.int).length = arcLen r i := by unfold zs; rw [List.length_map, List.length_map, arcL_len]
        have ane := arc_ne g i
        have ale := arcLen_le r i
        refine sll_go (lo := some ((1 : Nat) : Int)) (.inl (.inl (S3 _ _ hb3))) fun sl H4 hsl S4 hS4 => ?_
        rw [cut_drop (by omega)] at hS4
        have et : ((zs (arcL r i)).map V.int).drop 1 = (zs (arcL r i).tail).map V.int := by
          unfold zs
          rw [List.drop_one, List.map_tail, List.map_tail]
        rw [et] at hS4
        have hsl1 : H1 sl = none := S3.free hsl
        have hI4 := S4 _ _ hI3
        have hK4 := S4 _ _ hK3
        have nsl : sl ≠ ia := fun e => by rw [e, hI4] at hS4; cases hS4
        refine ⟨sl, rfl, ⟨_, .inl (.inl hS4)⟩, ?_⟩
        have tlen : ((zs (arcL r i).tail).map V.int).length ≤ 100 := by unfold zs; rw [List.length_map, List.length_map, List.length_tail, arcL_len]; omega
        refine for_it (walk_list (K := K) (a := sl) (xs := (zs (arcL r i).tail).map V.int)) (fun j σ H' => ∃ x7 ins', σ = [some (.ref nl), some (.ref a), some (.ref D), some (.int ((i : Nat) : Int)), some (.ref ia), some (.ref kd), some (.int ((i : Nat) : Int)), x7, x8, none, none] ∧ Same H1 H' ∧ H' ia = some (.dK ins') ∧ ins'.length ≤ 200 * i + j ∧ (∀ n : Nat, (valV ins' (Sum.inl ((n : Nat) : Int))).isSome = true ↔ InB r i n ∨ n ∈ (arcL r i).tail.take j) ∧
          H' kd = some (.dK kk) ∧ H' sl = some (.lst ((zs (arcL r i).tail).map V.int)) ∧ ∀ j, j < i → ∃ l, valV kk (Sum.inl ((j : Nat) : Int)) = some (.ref l) ∧ H1 l = none ∧ l ≠ ia ∧ l ≠ kd ∧ H' l = some (.lst ((zs (kidsL r j)).map V.int))) ⟨x7, ins, rfl, S3.trans S4, hI4, by omega, fun n => ?_, hK4, hS4, fun j hj => ?_⟩ (fun j σ H' _ ⟨_, _, _, _, _, _, _, _, z, _⟩ => .inl (.inl z)) ?_ ?_
        · rw [hin n, List.take_zero]
          simp
        · obtain ⟨l, l1, l2, l3, l4, l5⟩ := hkids j hj
          exact ⟨l, l1, l2, l3, l4, S4 _ _ (St _ _ l5)⟩
        · rintro j x σ Hz H5 hj ⟨x7', ins', rfl, S5, hI5, hil5, hin5, hK5, hS5, hkids5⟩ ⟨rfl, hxj⟩
          rw [List.getElem?_map] at hxj
          cases hc : (arcL r i).tail[j]? with
          | none =>
            unfold zs at hxj
            rw [List.getElem?_map, hc] at hxj
            cases hxj
          | some c =>
            rw [zs_get hc] at hxj
            have e := Option.some.inj hxj
            subst e
            have hcr : c < r.length := arcL_lt h1 (List.mem_of_mem_tail (List.mem_of_getElem? hc))
            refine ⟨_, rfl, _, rfl, _, rfl, nl, _, _, .int ((c : Nat) : Int), rfl, rfl, .inl (.inl (S5 _ _ hn1)), atI_nat (nget c hcr), ia, _, rfl, DPut.k (k := Sum.inl ((c : Nat) : Int)) hI5 (lt_line (by omega)), ?_⟩
            have kp : ∀ b u, b ≠ ia → H5 b = some u → upd H5 ia (.dK (putK ins' (Sum.inl ((c : Nat) : Int)) (.bl true))) b = some u := fun b u n e => (upd_ne n).trans e
            refine ⟨_, _, rfl, same_upd S5 hia, upd_same, ?_, fun n => ?_, kp _ _ (Ne.symm nak) hK5, kp _ _ nsl hS5, fun j' hj' => ?_⟩
            · have := length_putK ins' (Sum.inl ((c : Nat) : Int)) (.bl true)
              omega
            · rw [valV_put, List.take_succ, hc]
              by_cases d : n = c
              · rw [if_pos (by rw [d])]
                constructor
                · intro _
                  exact .inr (by rw [d]; simp)
                · intro _
                  rfl
              · rw [if_neg (fun z => d (by injection z with z; omega)), hin5 n]
                simp [d]
            · obtain ⟨l, l1, l2, l3, l4, l5⟩ := hkids5 j' hj'
              exact ⟨l, l1, l2, l3, l4, kp _ _ l3 l5⟩
        · rintro σ H5 ⟨x7', ins', rfl, S5, hI5, hil5, hin5, hK5, hS5, hkids5⟩
          have hin6 : ∀ n : Nat, (valV ins' (Sum.inl ((n : Nat) : Int))).isSome = true ↔ InB r (i + 1) n := fun n => by
            rw [hin5 n]
            have e : (arcL r i).tail.take ((zs (arcL r i).tail).map V.int).length = (arcL r i).tail := by
              unfold zs
              rw [List.length_map, List.length_map, List.take_length]
            rw [e]
            constructor
            · rintro (⟨p, hp, hm⟩ | hm)
              · exact ⟨p, by omega, hm⟩
              · exact ⟨i, by omega, hm⟩
            · rintro ⟨p, hp, hm⟩
              by_cases c : p = i
              · exact .inr (by rw [← c]; exact hm)
              · exact .inl ⟨p, by omega, hm⟩
          refine ⟨(by show 0 ≤ sizeLine; decide), fun l hl => ?_⟩
          have S6 : Same H5 (upd H5 l (.lst [])) := same_new hl
          have hL6 : (upd H5 l (.lst [])) l = some (.lst []) := upd_same
          generalize upd H5 l (.lst []) = H6 at S6 hL6
          have hl1 : H1 l = none := S5.free hl
          have hK6 := S6 _ _ hK5
          have hI6 := S6 _ _ hI5
          have nlk : l ≠ kd := fun e => by rw [e, hK6] at hL6; cases hL6
          have nli : l ≠ ia := fun e => by rw [e, hI6] at hL6; cases hL6
          have kkl : kk.length = i := by
            have := congrArg List.length hkeys
            unfold zs at this
            rw [List.length_map, List.length_map, List.length_map, List.length_range] at this
            exact this
          refine ⟨_, rfl, _, rfl, kd, _, rfl, DPut.k (k := Sum.inl ((i : Nat) : Int)) hK6 (lt_line (by omega)), ?_⟩
          have hnew : valV kk (Sum.inl ((i : Nat) : Int)) = none := by
            have h2 : (kk.any fun kv => decide (kv.1 = Sum.inl ((i : Nat) : Int))) = false := by
              rw [List.any_eq_false]
              intro kv hkv hd
              have hm : kv.1 ∈ (zs (List.range i)).map Sum.inl := by
                rw [← hkeys]
                exact List.mem_map_of_mem hkv
              rw [of_decide_eq_true hd] at hm
              obtain ⟨z, hz, ez⟩ := List.mem_map.mp hm
              unfold zs at hz
              obtain ⟨n, hn', rfl⟩ := List.mem_map.mp hz
              have := List.mem_range.mp hn'
              injection ez with ez
              omega
            rw [valV_any] at h2
            cases e : valV kk (Sum.inl ((i : Nat) : Int)) with
            | none => rfl
            | some v => rw [e] at h2; cases h2
          have S7 : Same H1 (upd H6 kd (.dK (putK kk (Sum.inl ((i : Nat) : Int)) (.ref l)))) := same_upd (S5.trans S6) hkd1
          have hK7 : (upd H6 kd (.dK (putK kk (Sum.inl ((i : Nat) : Int)) (.ref l)))) kd = some (.dK (putK kk (Sum.inl ((i : Nat) : Int)) (.ref l))) := upd_same
          have kp7 : ∀ b u, b ≠ kd → H6 b = some u → (upd H6 kd (.dK (putK kk (Sum.inl ((i : Nat) : Int)) (.ref l)))) b = some u := fun b u n e => (upd_ne n).trans e
          have hkeys7 : (putK kk (Sum.inl ((i : Nat) : Int)) (.ref l)).map (·.1) = (zs (List.range (i + 1))).map Sum.inl := by
            rw [putK_new _ hnew, List.map_append, hkeys, List.range_succ]
            unfold zs
            rw [List.map_append, List.map_append]
            rfl
          have hval7 : ∀ n : Nat, valV (putK kk (Sum.inl ((i : Nat) : Int)) (.ref l)) (Sum.inl ((n : Nat) : Int)) = if n = i then some (.ref l) else valV kk (Sum.inl ((n : Nat) : Int)) := fun n => by
            rw [valV_put]
            by_cases c : n = i
            · rw [if_pos (by rw [c]), if_pos c]
            · rw [if_neg (fun z => c (by injection z with z; omega)), if_neg c]
          generalize putK kk (Sum.inl ((i : Nat) : Int)) (.ref l) = kk7 at S7 hK7 kp7 hkeys7 hval7
          have hI7 := kp7 _ _ nak hI6
          have hL7 := kp7 _ _ nlk hL6
          have hkids7 : ∀ j, j < i → ∃ l', valV kk7 (Sum.inl ((j : Nat) : Int)) = some (.ref l') ∧ H1 l' = none ∧ l' ≠ ia ∧ l' ≠ kd ∧ l' ≠ l ∧ (upd H6 kd (.dK kk7)) l' = some (.lst ((zs (kidsL r j)).map V.int)) := fun j hj => by
            obtain ⟨l', l1, l2, l3, l4, l5⟩ := hkids5 j hj
            exact ⟨l', by rw [hval7 j, if_neg (by omega)]; exact l1, l2, l3, l4, ne_of_none l5 hl, kp7 _ _ l4 (S6 _ _ l5)⟩
          generalize upd H6 kd (.dK kk7) = H7 at S7 hK7 kp7 hI7 hL7 hkids7
          refine ⟨_, rfl, _, _, rfl, rfl, ?_⟩
          obtain ⟨tb, z, hz, hB, _⟩ := bead_ix hA hi'
          have S07 := S1.trans S7
          refine ⟨_, rfl, _, rfl, rowV_ix (hq.imp (same_l S07) (same_t S07)) (atI_nat hz) ⟨tb, _, 1, _, rfl, rfl, same_t S07 hB, rfl, _, rfl, by omega, by have := dn_le g i; omega, ?_⟩⟩
          have hdl := dn_le g i
          have ed : (((dn r i : Nat) : Int)).toNat = dn r i := rfl
          rw [ed]
          refine for_it (walk_range (lo := 0) (n := dn r i)) (fun k σ H' => ∃ x8, σ = [some (.ref nl), some (.ref a), some (.ref D), some (.int ((i : Nat) : Int)), some (.ref ia), some (.ref kd), some (.int ((i : Nat) : Int)), some (.int ((cj r i k : Nat) : Int)), x8, none, none] ∧ Same H1 H' ∧ H' ia = some (.dK ins') ∧ H' kd = some (.dK kk7) ∧ H' l = some (.lst ((zs ((List.range k).map (kid r i))).map V.int)) ∧
            ∀ j, j < i → ∃ l', valV kk7 (Sum.inl ((j : Nat) : Int)) = some (.ref l') ∧ H1 l' = none ∧ l' ≠ ia ∧ l' ≠ kd ∧ l' ≠ l ∧ H' l' = some (.lst ((zs (kidsL r j)).map V.int))) ⟨x8, rfl, S7, hI7, hK7, hL7, hkids7⟩ (fun _ _ _ _ _ => True.intro) ?_ ?_
          · rintro k x σ Hz H8 hk ⟨x8', rfl, S8, hI8, hK8, hL8, hkids8⟩ ⟨rfl, rfl⟩
            have S08 := S1.trans S8
            have hkr : kid r i k < r.length := kid_lt h1 i k
            have em : ((cj r i k : Nat) : Int) % ((xs.length : Nat) : Int) = ((kid r i k : Nat) : Int) := by
              rw [hx, kid_cj]
              exact (Int.natCast_emod (cj r i k) r.length).symm
            have hg1 : DGet H8 kd (.int ((i : Nat) : Int)) (some (.ref l)) := by
              have e : valV kk7 (Sum.inl ((i : Nat) : Int)) = some (.ref l) := by rw [hval7 i, if_pos rfl]
              rw [← e]
              exact DGet.k (k := Sum.inl ((i : Nat) : Int)) hK8
            have hpos : (0 : Int) < ((xs.length : Nat) : Int) := by omega
            refine ⟨_, rfl, _, rfl, kd, .ref l, rfl, hg1, .inl ⟨rfl, _, .inl (.inl hL8)⟩, _, rfl, _, rfl, _, rfl, _, xs.length, rfl, rowV_len (hq.imp (same_l S08) (same_t S08)), _, _, rfl, rfl, hpos, nl, _, _, .int ((kid r i k : Nat) : Int), rfl, rfl, .inl (.inl (S8 _ _ hn1)), atI_nat' em (nget _ hkr), l, _, _, rfl, rfl, hL8, lt_line ?_, ?_⟩
            · unfold zs
              rw [List.length_map, List.length_map, List.length_map, List.length_range]
              omega
            have S9 : Same H1 (upd H8 l (.lst ((zs ((List.range k).map (kid r i))).map V.int ++ [.int ((kid r i k : Nat) : Int)]))) := same_upd S8 hl1
            have hL9 : (upd H8 l (.lst ((zs ((List.range k).map (kid r i))).map V.int ++ [.int ((kid r i k : Nat) : Int)]))) l = some (.lst ((zs ((List.range (k + 1)).map (kid r i))).map V.int)) := by
              rw [upd_same]
              unfold zs
              rw [List.range_succ, List.map_append, List.map_append, List.map_append]
              rfl
            have kp9 : ∀ b u, b ≠ l → H8 b = some u → (upd H8 l (.lst ((zs ((List.range k).map (kid r i))).map V.int ++ [.int ((kid r i k : Nat) : Int)]))) b = some u := fun b u n e => (upd_ne n).trans e
            generalize upd H8 l (.lst ((zs ((List.range k).map (kid r i))).map V.int ++ [.int ((kid r i k : Nat) : Int)])) = H9 at S9 hL9 kp9
            have S09 := S1.trans S9
            obtain ⟨b', hb1', hb2', hb3'⟩ := hal (kid r i k) hkr
            have al2 : ((zs (arcL r (kid r i k))).map V.int).length = arcLen r (cj r i k) := by
              unfold zs
              rw [List.length_map, List.length_map, arcL_len, kid_cj, arcLen_mod]
            refine ⟨_, rfl, _, rfl, _, rfl, _, rfl, _, xs.length, rfl, rowV_len (hq.imp (same_l S09) (same_t S09)), _, _, rfl, rfl, hpos, D, _, _, .ref b', rfl, rfl, .inl (.inl (S9 _ _ hD1)), atI_nat' em hb1', _, _, rfl, .inl ⟨_, .inl (.inl (S9 _ _ hb3')), rfl⟩, _, _, rfl, rfl, ?_⟩
            refine ⟨some (V.int (0 + ((k : Nat) : Int))), ?_, S9, kp9 _ _ (Ne.symm nli) hI8, kp9 _ _ (Ne.symm nlk) hK8, hL9, fun j hj => ?_⟩
            · rw [al2]
              rfl
            · obtain ⟨l', l1, l2, l3, l4, l5, l6⟩ := hkids8 j hj
              exact ⟨l', l1, l2, l3, l4, l5, kp9 _ _ l5 l6⟩
          · rintro σ H8 ⟨x8', rfl, S8, hI8, hK8, hL8, hkids8⟩
            refine ⟨_, _, _, _, ins', kk7, rfl, S8, hI8, ?_, hin6, hK8, hkeys7, fun j hj => ?_⟩
            · have : ((zs (arcL r i).tail).map V.int).length ≤ 100 := tlen
              omega
            · by_cases c : j = i
              · subst c
                exact ⟨l, by rw [hval7 j, if_pos rfl], hl1, nli, nlk, hL8⟩
              · obtain ⟨l', l1, l2, l3, l4, _, l5⟩ := hkids8 j (by omega)
                exact ⟨l', l1, l2, l3, l4, l5⟩
      · rintro σ H2 ⟨x3, x6, x7, x8, ins, kk, rfl, S, hI, hil, hin, hK, hkeys, hkids⟩
        have key : ∀ J, Walk J r.length (fun H' => Same H2 H') (YPair (fun i => ((zs (List.range r.length)).map V.int)[i]?) (fun i => xs[i]?)) → True := fun _ _ => True.intro
        have S02 := S1.trans S
        have hqS := hq.imp (same_l S02) (same_t S02)
        have hn2 := S _ _ hn1
        refine zipOr hqS (.inl (.inl hn2)) nlen hx fun J wk D2 hD2 => ?_
        refine lcm (K := K) wk (nmL r) (by unfold nmL; rw [List.length_map, List.length_range]) (by omega) hD2 (fun d h => ?_) (fun _ S => S) (fun i x H3 H3' d hi S3 y => ?_) gtup2_mono (fun H3 acc S3 hD3 hP => ?_)
        · obtain ⟨c, _, rfl⟩ := List.mem_map.mp h
          rfl
        · obtain ⟨t, u1, u2, rfl, ht, rfl, hu1, hu2⟩ := y
          have hu1' : ((zs (List.range r.length)).map V.int)[i]? = some u1 := hu1
          have hu2' : xs[i]? = some u2 := hu2
          have hi' : i < r.length := by
            have := (List.getElem?_eq_some_iff.mp hu1').1
            rw [nlen] at this
            exact this
          rw [nget i hi'] at hu1'
          have e1 := Option.some.inj hu1'
          subst e1
          obtain ⟨tb, z, hz, hB, bb, hbb, hbz, _⟩ := bead_ix hA hi'
          rw [hz] at hu2'
          have e2 := Option.some.inj hu2'
          subst e2
          have ed : d = .tuple [.int ((i : Nat) : Int), .str z] := by
            unfold nmL at hi
            rw [List.getElem?_map, List.getElem?_range hi'] at hi
            have e3 : d = PyData.tuple [.int ((i : Nat) : Int), .str (((r[i]?).map (·.1)).getD "")] := (Option.some.inj hi).symm
            rw [e3, hbb, ← hbz]
            rfl
          subst ed
          have St : Same H3 (upd H3 t (.tup [.int ((i : Nat) : Int), .ref tb])) := same_new ht
          have hT : (upd H3 t (.tup [.int ((i : Nat) : Int), .ref tb])) t = some (.tup [.int ((i : Nat) : Int), .ref tb]) := upd_same
          generalize upd H3 t (.tup [.int ((i : Nat) : Int), .ref tb]) = H4 at St hT
          refine ⟨St, fun Qy hy => ⟨t, _, rfl, SqT.of hT, rfl, _, _, rfl, _, _, rfl, rfl, rfl, _, rfl, _, rfl, tb, _, 0, _, rfl, rfl, same_t (S02.trans (S3.trans St)) hB, rfl, (by show 2 ≤ sizeLine; decide), fun t4 ht4 => ?_⟩⟩
          exact hy _ _ (same_new ht4) (.tup (SqT.of upd_same) (.cons (.int _) (.cons (.str _) .nil)))
        · obtain ⟨ps, kvs, ea, hpd⟩ := nm_pairs hP
          rw [ea] at hD3
          refine ⟨D2, ps, kvs, rfl, .inl (.inl hD3), hpd, fun nd hnd => ?_⟩
          have S4 : Same H3 (upd H3 nd (.dK (mergeK [] kvs))) := same_new hnd
          generalize upd H3 nd (.dK (mergeK [] kvs)) = H4 at S4
          have S24 := S3.trans S4
          refine fun m hm => ?_
          have S5 : Same H4 (upd H4 m (.dK [])) := same_new hm
          have hM5 : (upd H4 m (.dK [])) m = some (.dK []) := upd_same
          generalize upd H4 m (.dK []) = H5 at S5 hM5
          have S25 := S24.trans S5
          have S15 := S.trans S25
          have hI5 := S25 _ _ hI
          have hlast : ∀ n : Nat, (valV ins (Sum.inl ((n : Nat) : Int))).isSome = !topB r n := fun n => by
            have h := hin n
            rw [nlen] at h
            cases c : topB r n with
            | true =>
              cases d : (valV ins (Sum.inl ((n : Nat) : Int))).isSome with
              | false => rfl
              | true =>
                obtain ⟨p, hp, hm⟩ := h.mp d
                exact absurd hm (topB_iff.mp c p hp)
            | false =>
              cases d : (valV ins (Sum.inl ((n : Nat) : Int))).isSome with
              | true => rfl
              | false =>
                have ht : topB r n = true := topB_iff.mpr fun p hp hm => by
                  have := h.mpr ⟨p, hp, hm⟩
                  rw [d] at this
                  cases this
                rw [ht] at c
                cases c
          refine ⟨_, rfl, nl, rfl, ⟨_, .inl (.inl (S15 _ _ hn1))⟩, fun D3 hD3' => ?_⟩
          refine lcg (K := K) (walk_list (K := K) (a := nl) (xs := (zs (List.range r.length)).map V.int)) ((zs (List.range r.length)).map fun z => if topB r z.toNat = true then some (.int z) else none) (by rw [List.length_map, List.length_map]) (by rw [nlen]; omega) hD3' (fun d h => ?_) (fun _ S => .inl (.inl (S _ _ (S15 _ _ hn1)))) (fun i x H6 H6' e hi S6 y => ?_) (fun H6 acc2 S6 hD6 hP6 => ?_)
          · obtain ⟨n, _, e⟩ := List.mem_map.mp h
            by_cases c : topB r n.toNat = true
            · rw [if_pos c] at e
              rw [← Option.some.inj e]
              rfl
            · rw [if_neg c] at e
              cases e
          · obtain ⟨rfl, hxx⟩ := y
            have hi' : i < r.length := by
              have := (List.getElem?_eq_some_iff.mp hxx).1
              rw [nlen] at this
              exact this
            rw [nget i hi'] at hxx
            have e1 := Option.some.inj hxx
            subst e1
            have ee : e = if topB r i = true then some (.int ((i : Nat) : Int)) else none := by
              rw [List.getElem?_map, zs_get (List.getElem?_range hi')] at hi
              exact (Option.some.inj hi).symm
            refine ⟨Same.refl _, fun Qn Qy hn hy => ⟨rfl, _, rfl, _, rfl, ia, valV ins (Sum.inl ((i : Nat) : Int)), rfl, DGet.k (k := Sum.inl ((i : Nat) : Int)) (S6 _ _ hI5), _, rfl, ?_⟩⟩
            rw [hlast i, Bool.not_not]
            cases c : topB r i with
            | false =>
              rw [c] at ee
              exact iteF (hn ee _ (Same.refl _))
            | true =>
              rw [c] at ee
              exact iteT ⟨_, rfl, hy _ ee _ _ (Same.refl _) (.int _)⟩
          · rw [fmap_filter (fun z => topB r z.toNat) PyData.int] at hP6
            rw [hP6.ints] at hD6
            have et : (zs (List.range r.length)).filter (fun z => topB r z.toNat) = zs (topsL r) := by
              unfold zs topsL
              rw [List.filter_map]
              rfl
            rw [et] at hD6
            have hM6 := S6 _ _ hM5
            refine ⟨_, rfl, _, rfl, hM6, [(Sum.inr "tops", .ref D3), (Sum.inr "kids", .ref kd), (Sum.inr "names", .ref nd)], rfl, (by show 3 ≤ 15; decide), ?_⟩
            have em : mergeK [] [((Sum.inr "tops" : Key), V.ref D3), (Sum.inr "kids", .ref kd), (Sum.inr "names", .ref nd)] = ([(Sum.inr "tops", .ref D3), (Sum.inr "kids", .ref kd), (Sum.inr "names", .ref nd)] : List (Key × V)) := rfl
            rw [em]
            have S16 := S15.trans S6
            have hm1 : H2 m = none := S24.free hm
            have hm11 : H1 m = none := S.free hm1
            have S17 : Same H1 (upd H6 m (.dK [(Sum.inr "tops", .ref D3), (Sum.inr "kids", .ref kd), (Sum.inr "names", .ref nd)])) := same_upd S16 hm11
            have S27 : Same H2 (upd H6 m (.dK [(Sum.inr "tops", .ref D3), (Sum.inr "kids", .ref kd), (Sum.inr "names", .ref nd)])) := same_upd (S25.trans S6) hm1
            have nDm : D3 ≠ m := fun e => by rw [e, hM6] at hD6; cases hD6
            refine q _ _ (S1.trans S17) ⟨m, D3, kd, nd, kk, rfl, upd_same, by rw [upd_ne nDm]; exact hD6, S27 _ _ hK, ?_, fun i hi => ?_⟩
            · rw [nlen] at hkeys
              exact hkeys
            · obtain ⟨l, l1, _, _, _, l5⟩ := hkids i (by rw [nlen]; exact hi)
              exact ⟨l, l1, S27 _ _ l5⟩
end
end Bt

namespace Bt
open PySem PySem.Spec PyProof.Rows L2
/-! ### the law reads its model -/
theorem shaped_ints (ns : List Int) : SeqAt.shaped (.list (ns.map PyData.int)) = true := by
  have h1 : ∀ l : List Int, PyData.canLayAll0 (l.map PyData.int) = true := fun l => by
    induction l with
    | nil => rfl
    | cons n l ih =>
      show (true && PyData.canLayAll0 (l.map PyData.int)) = true
      rw [ih]
      rfl
  have h2 : ∀ l : List Int, PyData.depthAll (l.map PyData.int) ≤ 1 := fun l => by
    induction l with
    | nil => simp [PyData.depthAll]
    | cons n l ih =>
      rw [List.map_cons, PyData.depthAll]
      have : (PyData.int n).depth ≤ 1 := by simp [PyData.depth]
      omega
  show (PyData.canLayAll0 (ns.map PyData.int) && decide ((PyData.list (ns.map PyData.int)).depth ≤ 64)) = true
  rw [h1, Bool.true_and]
  refine decide_eq_true ?_
  rw [PyData.depth]
  have := h2 ns
  omega
theorem eqv_nil (ns : List Int) : PyData.eqv (.list (ns.map PyData.int)) (.list (([] : List Int).map PyData.int)) = decide (ns = []) := by
  cases ns with
  | nil => simp [PyData.eqv, PyData.eqvAll]
  | cons n ns => simp [PyData.eqv, PyData.eqvAll]
def spRead (K : PySem.W.Frag) : Sp := fun vs H Q E => ∃ m t r, ∃ ts : List Nat, vs = [m, .ref t] ∧ Md K H m r ∧ Good r ∧ SqL K H t ((zs ts).map V.int) ∧ (∀ x ∈ ts, x < r.length) ∧ (ts.flatMap (arcL r)).length ≤ 1000 ∧ ∀ c H', H c = none → Same H H' → H' c = some (.lst ((zs (ts.flatMap (arcL r))).map V.int)) → Q (.ref c) H'
theorem dp_ints {K : PySem.W.Frag} {H : Hp} {a : Addr} {ns : List Int} (h : SqL K H a (ns.map V.int)) : Dp K H (.ref a) (.list (ns.map PyData.int)) := .lst h DpAll.of_ints
theorem flat_len {r : Row} (g : Good r) : ∀ W : List Nat, W.length ≤ (W.flatMap (arcL r)).length
  | [] => Nat.le_refl _
  | x :: W => by
    have ih := flat_len g W
    have := arc_ne g x
    rw [List.flatMap_cons, List.length_append, arcL_len, List.length_cons]
    omega
section
variable {P : Program} {w : World} {K : PySem.W.Frag} {mg : Str → Option Value} {base : Heap}
theorem ok__law_read (T : Txt K mg) : FO P w K mg base (L2.CX P w) 1 (a__law_read K) ["_law_model", "_law_tops"] (spRead K) := by
  refine T.d__law_read.ok sc__law_read (fun vs H Q E h => ?_) (fun cdv A outer s H vs Q E hr h => ?_)
  · obtain ⟨m, t, r, ts, rfl, _⟩ := h
    rfl
  · obtain ⟨m, t, r, ts, rfl, ⟨ma, tl, kd, nd, kk, rfl, hM⟩, g, ht, hts, hlen, q⟩ := h
    refine ⟨_, (pss_cons (ps_set (i := 2) sc__law_read.nd rfl (Or.inl rfl) (pe_lst pa_nil)) (pss_cons (ps_set (i := 3) sc__law_read.nd rfl (Or.inl rfl) (pe_revL (pv 1))) (pss_cons (ps_while (passes_of rfl) (pt_cmpR (op_neD hr.units) (pv 3) (pe_lst pa_nil) (nomark _)) (pss_cons (ps_set (i := 4) sc__law_read.nd rfl (Or.inl rfl) (pe_bm0 PySem.F.plainAttrs_list PySem.F.slot_list_pop PySem.F.type_list_pop mt_pop (pv 3))) (pss_cons (ps_expr (pe_bm PySem.F.plainAttrs_list PySem.F.slot_list_append PySem.F.type_list_append mt_append (pv 2) (pa_cons (pv 4) pa_nil))) (pss_one (ps_set (i := 3) sc__law_read.nd rfl (Or.inl rfl) (pe_op op_cat (pv 3) (pe_revL (pe_dget (hu_of hr) (pe_dget (hu_of hr) (pv 0) pe_str (fun _ _ => rfl)) (pv 4) (fun _ _ => rfl))))))))) (pss_one (ps_ret (pv 2)))))), ?_⟩
    refine ⟨(by show 0 ≤ sizeLine; decide), fun fl hfl => ?_⟩
    have S0 : Same H (upd H fl (.lst [])) := same_new hfl
    have hF0 : (upd H fl (.lst [])) fl = some (.lst []) := upd_same
    generalize upd H fl (.lst []) = H0 at S0 hF0
    refine ⟨_, rfl, t, _, rfl, same_l S0 ht, fun wl hwl => ?_⟩
    have S1 : Same H0 (upd H0 wl (.lst ((zs ts).map V.int).reverse)) := same_new hwl
    have hW1 : (upd H0 wl (.lst ((zs ts).map V.int).reverse)) wl = some (.lst ((zs ts.reverse).map V.int)) := by
      rw [upd_same]
      unfold zs
      rw [List.map_reverse, List.map_reverse]
    generalize upd H0 wl (.lst ((zs ts).map V.int).reverse) = H1 at S1 hW1
    refine ⟨fun n σ H' => ∃ wl F W x4, n = (W.reverse.flatMap (arcL r)).length ∧ σ = [some (.ref ma), some (.ref t), some (.ref fl), some (.ref wl), x4] ∧ Same H H' ∧ H wl = none ∧ wl ≠ fl ∧ H' fl = some (.lst ((zs F).map V.int)) ∧ H' wl = some (.lst ((zs W).map V.int)) ∧ (∀ x ∈ W, x < r.length) ∧ F ++ W.reverse.flatMap (arcL r) = ts.flatMap (arcL r),
      ⟨_, wl, [], ts.reverse, none, rfl, rfl, S0.trans S1, S0.free hwl, (fun e => by rw [e, hF0] at hwl; cases hwl), S1 _ _ hF0, hW1, fun x hx => hts x (List.mem_reverse.mp hx), by rw [List.reverse_reverse]; rfl⟩, ?_⟩
    rintro n σ H2 ⟨wl, F, W, x4, rfl, rfl, S, hwl, nwf, hF, hW, hWr, hinv⟩
    refine ⟨_, rfl, (by show 0 ≤ sizeLine; decide), fun e0 he0 => ?_⟩
    have S3 : Same H2 (upd H2 e0 (.lst [])) := same_new he0
    have hE3 : (upd H2 e0 (.lst [])) e0 = some (.lst []) := upd_same
    generalize upd H2 e0 (.lst []) = H3 at S3 hE3
    have hF3 := S3 _ _ hF
    have hW3 := S3 _ _ hW
    have S03 := S.trans S3
    refine ⟨_, _, dp_ints (.inl (.inl hW3)), dp_ints (ns := []) (.inl (.inl hE3)), shaped_ints _, shaped_ints [], _, rfl, ?_⟩
    rw [eqv_nil]
    rcases List.eq_nil_or_concat W with rfl | ⟨W', x, ew⟩
    · refine iteF ?_
      have e : F = ts.flatMap (arcL r) := by rw [← hinv]; simp
      rw [e] at hF3
      exact ⟨_, rfl, q fl H3 hfl S03 hF3⟩
    · rw [List.concat_eq_append] at ew
      subst ew
      have ne : zs (W' ++ [x]) ≠ [] := by unfold zs; simp
      rw [decide_eq_false ne]
      refine iteT ?_
      have hx : x < r.length := hWr x (by simp)
      have ez : (zs (W' ++ [x])).map V.int = (zs W').map V.int ++ [.int ((x : Nat) : Int)] := by unfold zs; rw [List.map_append, List.map_append]; rfl
      rw [ez] at hW3
      refine ⟨fun σ' H' => ∃ m', m' < ((W' ++ [x]).reverse.flatMap (arcL r)).length ∧ ∃ wl F W x4, m' = (W.reverse.flatMap (arcL r)).length ∧ σ' = [some (.ref ma), some (.ref t), some (.ref fl), some (.ref wl), x4] ∧ Same H H' ∧ H wl = none ∧ wl ≠ fl ∧ H' fl = some (.lst ((zs F).map V.int)) ∧ H' wl = some (.lst ((zs W).map V.int)) ∧ (∀ x ∈ W, x < r.length) ∧ F ++ W.reverse.flatMap (arcL r) = ts.flatMap (arcL r), fun σ' H' h => h, ?_⟩
      refine ⟨_, rfl, .inl ⟨rfl, _, .inl (.inl hW3)⟩, wl, _, .int ((x : Nat) : Int), rfl, rfl, hW3, by simp, ?_⟩
      have hd : ((zs W').map V.int ++ [V.int ((x : Nat) : Int)]).dropLast = (zs W').map V.int := List.dropLast_concat
      rw [hd]
      have S4 : Same H (upd H3 wl (.lst ((zs W').map V.int))) := same_upd S03 hwl
      have hW4 : (upd H3 wl (.lst ((zs W').map V.int))) wl = some (.lst ((zs W').map V.int)) := upd_same
      have hF4 : (upd H3 wl (.lst ((zs W').map V.int))) fl = some (.lst ((zs F).map V.int)) := by rw [upd_ne (Ne.symm nwf)]; exact hF3
      generalize upd H3 wl (.lst ((zs W').map V.int)) = H4 at S4 hW4 hF4
      have hdec : (W' ++ [x]).reverse.flatMap (arcL r) = x :: ((kidsL r x).flatMap (arcL r) ++ W'.reverse.flatMap (arcL r)) := by
        rw [List.reverse_append]
        show List.flatMap (arcL r) (x :: W'.reverse) = _
        rw [List.flatMap_cons, arc_kids g x, Nat.mod_eq_of_lt hx]
        rfl
      rw [hdec] at hinv ⊢
      have hFl : F.length ≤ 1000 := by
        have := congrArg List.length hinv
        rw [List.length_append] at this
        omega
      refine ⟨_, rfl, .inl ⟨rfl, _, .inl (.inl hF4)⟩, _, rfl, fl, _, _, rfl, rfl, hF4, lt_line (by unfold zs; rw [List.length_map, List.length_map]; omega), ?_⟩
      have S5 : Same H (upd H4 fl (.lst ((zs F).map V.int ++ [.int ((x : Nat) : Int)]))) := same_upd S4 hfl
      have hF5 : (upd H4 fl (.lst ((zs F).map V.int ++ [.int ((x : Nat) : Int)]))) fl = some (.lst ((zs (F ++ [x])).map V.int)) := by
        rw [upd_same]
        unfold zs
        rw [List.map_append, List.map_append]
        rfl
      have hW5 : (upd H4 fl (.lst ((zs F).map V.int ++ [.int ((x : Nat) : Int)]))) wl = some (.lst ((zs W').map V.int)) := by rw [upd_ne nwf]; exact hW4
      generalize upd H4 fl (.lst ((zs F).map V.int ++ [.int ((x : Nat) : Int)])) = H5 at S5 hF5 hW5
      obtain ⟨l, l1, l2⟩ := hM.kid x hx
      have hg1 : DGet H5 ma (.str "kids") (some (.ref kd)) := DGet.k (k := Sum.inr "kids") (S5 _ _ hM.m)
      have hg2 : DGet H5 kd (.int ((x : Nat) : Int)) (some (.ref l)) := by
        rw [← l1]
        exact DGet.k (k := Sum.inl ((x : Nat) : Int)) (S5 _ _ hM.kd)
      refine ⟨_, rfl, _, rfl, ma, .ref kd, rfl, hg1, _, rfl, kd, .ref l, rfl, hg2, l, _, rfl, .inl (.inl (S5 _ _ l2)), fun rv hrv => ?_⟩
      have S6 : Same H5 (upd H5 rv (.lst ((zs (kidsL r x)).map V.int).reverse)) := same_new hrv
      have hR6 : (upd H5 rv (.lst ((zs (kidsL r x)).map V.int).reverse)) rv = some (.lst ((zs (kidsL r x).reverse).map V.int)) := by
        rw [upd_same]
        unfold zs
        rw [List.map_reverse, List.map_reverse]
      generalize upd H5 rv (.lst ((zs (kidsL r x)).map V.int).reverse) = H6 at S6 hR6
      have hkl : (kidsL r x).length ≤ 100 := by unfold kidsL; rw [List.length_map, List.length_range]; have := dn_le g x; omega
      have hWl : W'.length ≤ 1000 := by
        have := congrArg List.length hinv
        rw [List.length_append, List.length_cons, List.length_append] at this
        have h2 : W'.reverse.length ≤ (W'.reverse.flatMap (arcL r)).length := flat_len g _
        rw [List.length_reverse] at h2
        omega
      refine ⟨wl, rv, _, _, rfl, rfl, S6 _ _ hW5, hR6, ?_, fun nw hnw => ?_⟩
      · unfold zs
        rw [List.length_map, List.length_map, List.length_map, List.length_map, List.length_reverse]
        exact le_line (by omega)
      have S56 := S5.trans S6
      refine ⟨((W' ++ (kidsL r x).reverse).reverse.flatMap (arcL r)).length, ?_, nw, F ++ [x], W' ++ (kidsL r x).reverse, _, rfl, rfl, S56.trans (same_new hnw), S56.free hnw, (fun e => by rw [e] at hnw; rw [S6 _ _ hF5] at hnw; cases hnw), ?_, ?_, fun y hy => ?_, ?_⟩
      · rw [List.reverse_append, List.reverse_reverse, List.flatMap_append, List.length_cons]
        omega
      · rw [upd_ne (ne_of_none (S6 _ _ hF5) hnw)]
        exact S6 _ _ hF5
      · rw [upd_same]
        unfold zs
        rw [List.map_append, List.map_append]
      · rcases List.mem_append.mp hy with h | h
        · exact hWr y (by simp [h])
        · exact kidsL_lt g.ne (List.mem_reverse.mp h)
      · rw [List.reverse_append, List.reverse_reverse, List.flatMap_append, ← hinv]
        simp
end
end Bt

namespace Bt
open PySem PySem.Spec PyProof.Rows L2
/-! ### sorted(d), a dict with int keys, any number of them -/
def rSortDN : List V → Hp → VK → Prop := fun xs H Q => ∃ (a : Addr) (kvs : List (Key × V)) (ks : List Int), xs = [.ref a] ∧ Rd H a (.dK kvs) ∧ kvs.map (·.1) = ks.map Sum.inl ∧
  ∀ (ys : List Int) (p : Addr), ys.Perm ks → ys.Pairwise (· ≤ ·) → H p = none → Q (.ref p) (upd H p (.lst (ys.map V.int)))
theorem cr_sortedDN {X : Cx} (hcalm : X.calm = true) : CallR X (.builtin "sorted") rSortDN := by
  intro pins s σ H xs us Q I r q
  obtain ⟨a, kvs, ks, ex, hd, hks, q⟩ := q
  subst ex
  obtain ⟨u, eu, rx⟩ := vals1 r
  subst eu
  cases rx
  obtain ⟨z, lo, vs, rel, dd⟩ := dk_rd I.hok hd
  obtain ⟨ep, hat⟩ := dd.dictAt
  have hkeys : vs.map (·.1) = ks.map Sum.inl := rel.keys.symm.trans hks
  have hl : vs.length = ks.length := by simpa using congrArg List.length hkeys
  have hvl : vs.length ≤ sizeLine := by rw [← rel.length]; exact z
  refine Calls.call_function_entry PyProof.Rows.kind_sorted PyProof.Rows.plain_sorted PyProof.Rows.entry_sorted (PyProof.Rows.args_sorted1 _) ?_
  unfold Builtin.«sorted»
  refine wpAny_bind (m := checkCount "sorted" 1 1 _) (wpAny_pure (wpAny_bind (PySem.W.kdu_collect (A := X.A.in1) (PySem.W.kdl_dict (knd := mixKind X.prog X.w) (kvs := vs) (ep := ep) lo) (I.ok.hd hcalm) hat hvl fun h1 tk acc k1 got => ?_)))
  have gl : acc.toList.length = ks.length := by rw [Array.length_toList, got.1, hl]
  have hIn : IntsAre acc.toList ks := ints_each gl fun j v e => by
    obtain ⟨k, x, e1, e2⟩ := got.2 j v (by rw [← Array.getElem?_toList]; exact e)
    have e3 : (ks.map (Sum.inl : Int → Key))[j]? = some k := by rw [← hkeys, List.getElem?_map, e1]; rfl
    rw [List.getElem?_map] at e3
    obtain ⟨y, e4, e5⟩ := Option.map_eq_some_iff.mp e3
    subst e5
    obtain ⟨t, et⟩ := keyIs_rel (k := Sum.inl y) e2
    exact ⟨y, t, e4, et⟩
  have I1 : Inv X pins σ H { s with heap := h1, toks := tk } := I.kept k1
  have zz : acc.toList.length ≤ sizeLine := by rw [gl, ← hl]; exact hvl
  refine wpAny_bind (wpAny_newList ?_ zz)
  have at1 : (h1.push (seqObj "list" acc.toList.toArray 0)).get? h1.objs.size = some (seqObj "list" acc.toList.toArray 0) := Heap.get?_push_size _ rfl
  show wpAny _ _ _ _ _ { s with heap := h1.push (seqObj "list" acc.toList.toArray 0), toks := tk }
  refine wpAny_bind (wpAny_holding (wpAny_call_entry PyProof.Rows.slot_list_sort ⟨_, at1, rfl⟩ PyProof.Rows.entry_list_sort
    (SrtO.list_sort_ord (s := { s with heap := h1.push (seqObj "list" acc.toList.toArray 0), toks := tk }) SrtO.swo_int at1 zz (fun h2 => SrtO.ints_sortable hIn h2) fun out g1 g2 => ⟨_, rfl, ?_⟩) (PyProof.Rows.args_list_sort _)))
  obtain ⟨o1, o2, o3⟩ := SrtO.ints_out hIn g1 g2
  obtain ⟨e', he'⟩ := PyProof.Rows.sortedHeap_at (vs := acc.toList) (out := out.toArray) at1
  have hlen : ((out.map SrtO.iv).map V.int).length ≤ sizeLine := by
    rw [List.length_map, o2.length_eq, ← hl]
    exact hvl
  refine wpAny_pure ⟨_, rfl, .ref h1.objs.size, upd H h1.objs.size (.lst ((out.map SrtO.iv).map V.int)), I1.laid (t' := tk) (fun b u e => ?_) (Nat.le_refl _) (show ObjOk X.prog X.w _ _ _ (.lst ((out.map SrtO.iv).map V.int)) from ⟨hlen, out, e', vals_of_ints o1, he'⟩), rfl, q _ _ o2 o3 (I1.hok.fresh (Nat.le_refl _))⟩
  have hb : b < h1.objs.size := Heap.lt_size e
  rw [PyProof.Rows.sortedHeap_old (Nat.ne_of_lt hb) (by rw [size_push']; exact Nat.lt_succ_of_lt hb)]
  exact Heap.get?_push_of_some _ e
end Bt

namespace Bt
open PySem PySem.Spec PyProof.Rows L2
def spOrder (K : PySem.W.Frag) : Sp := fun vs H Q E => ∃ m r, vs = [m] ∧ Md K H m r ∧ Good r ∧ ∀ c H', H c = none → Same H H' → H' c = some (.lst ((zs (List.range r.length)).map V.int)) → Q (.ref c) H'
/-- the law's test of a number -/
def isBd (r : Row) : PyData → Bool
  | .int i => decide (0 ≤ i) && decide (i < (r.length : Nat))
  | _ => false
def spLBead (K : PySem.W.Frag) : Sp := fun vs H Q E => ∃ m v d r, vs = [m, v] ∧ Md K H m r ∧ TD K H v d ∧ Q (.bl (isBd r d)) H
theorem md_val {K : PySem.W.Frag} {H : Hp} {m : Addr} {r : Row} {tl kd nd : Addr} {kk : List (Key × V)} (h : MdA K H m r tl kd nd kk) (i : Int) : (valV kk (Sum.inl i)).isSome = (decide (0 ≤ i) && decide (i < (r.length : Nat))) := by
  by_cases c : 0 ≤ i ∧ i < (r.length : Nat)
  · rw [decide_eq_true c.1, decide_eq_true c.2]
    obtain ⟨n, rfl⟩ : ∃ n : Nat, i = (n : Nat) := ⟨i.toNat, by omega⟩
    obtain ⟨l, e, _⟩ := h.kid n (by omega)
    rw [e]
    rfl
  · have e : (decide (0 ≤ i) && decide (i < (r.length : Nat))) = false := by
      by_cases c1 : 0 ≤ i
      · rw [decide_eq_true c1, decide_eq_false (fun z => c ⟨c1, z⟩)]
        rfl
      · rw [decide_eq_false c1]
        rfl
    rw [e, ← valV_any, List.any_eq_false]
    intro kv hkv hd
    have hm : kv.1 ∈ (zs (List.range r.length)).map (Sum.inl : Int → Key) := by
      rw [← h.keys]
      exact List.mem_map_of_mem hkv
    rw [of_decide_eq_true hd] at hm
    obtain ⟨z, hz, ez⟩ := List.mem_map.mp hm
    unfold zs at hz
    obtain ⟨n, hn', rfl⟩ := List.mem_map.mp hz
    have := List.mem_range.mp hn'
    injection ez with ez
    exact c ⟨by omega, by omega⟩
section
variable {P : Program} {w : World} {K : PySem.W.Frag} {mg : Str → Option Value} {base : Heap}
theorem ok__law_is_whole (T : Txt K mg) : FO P w K mg base (L2.CX P w) 1 (a__law_is_whole K) ["_law_thing"] (spWhole K) := by
  refine T.d__law_is_whole.ok sc__law_is_whole (fun vs H Q E h => ?_) (fun cdv A outer s H vs Q E hr h => ?_)
  · obtain ⟨v, d, rfl, _⟩ := h
    rfl
  · obtain ⟨v, d, rfl, hd, q⟩ := h
    refine ⟨_, (pss_one (ps_ret (pe_and (pe_callB (id := "isinstance") call_isi (by rfl) T.f_isinstance (by decide +kernel) (pa_cons (pv 0) (pa_cons (pe_ty (n := "int") T.f_int) pa_nil))) (pe_one (pe_not (pe_callB (id := "isinstance") call_isi (by rfl) T.f_isinstance (by decide +kernel) (pa_cons (pv 0) (pa_cons (pe_ty (n := "bool") T.f_bool) pa_nil)))))))), ?_⟩
    refine ⟨_, rfl, _, _, _, _, _, rfl, .ty _, hd.ty, kit_int K d, _, rfl, ?_⟩
    cases d with
    | int i => exact ⟨_, rfl, _, _, _, _, _, rfl, .ty _, hd.ty, kit_bool K (.int i), _, rfl, q⟩
    | bool b => exact ⟨_, rfl, _, _, _, _, _, rfl, .ty _, hd.ty, kit_bool K (.bool b), _, rfl, q⟩
    | _ => exact q
theorem ok__law_is_count (T : Txt K mg) : FO P w K mg base (L2.CX P w) 2 (a__law_is_count K) ["_law_thing", "_law_low", "_law_high"] (spCount K) := by
  refine T.d__law_is_count.ok sc__law_is_count (fun vs H Q E h => ?_) (fun cdv A outer s H vs Q E hr h => ?_)
  · obtain ⟨v, d, lo, hi, rfl, _⟩ := h
    rfl
  · obtain ⟨v, d, lo, hi, rfl, hd, q⟩ := h
    have G__law_is_whole := ok__law_is_whole (P := P) (w := w) (base := base) T
    refine ⟨_, (pss_one (ps_ret (pe_and (pe_call G__law_is_whole (hr.mono (by decide)) rfl T.g__law_is_whole T.d__law_is_whole.kp T.b__law_is_whole .nil passE (pa_cons (pv 0) pa_nil)) (pe_one (pe_chain op_le op_le (pv 1) (pv 0) (pv 2)))))), ?_⟩
    refine ⟨_, rfl, v, d, rfl, hd, _, rfl, ?_⟩
    cases d with
    | int i =>
      rcases hd with hd | ⟨_, _, _, e⟩
      · cases hd
        refine ⟨_, rfl, _, rfl, lo, i, rfl, rfl, decide (lo ≤ i), rfl, ?_⟩
        have q2 : Q (.bl (decide (lo ≤ i) && decide (i ≤ hi))) H := q
        by_cases h1 : lo ≤ i
        · rw [decide_eq_true h1] at q2 ⊢
          refine iteT ?_
          exact ⟨_, rfl, _, _, rfl, rfl, q2⟩
        · rw [decide_eq_false h1] at q2 ⊢
          exact q2
      · cases e
    | _ => exact q
theorem ok__law_is_bead (T : Txt K mg) : FO P w K mg base (L2.CX P w) 2 (a__law_is_bead K) ["_law_model", "_law_thing"] (spLBead K) := by
  refine T.d__law_is_bead.ok sc__law_is_bead (fun vs H Q E h => ?_) (fun cdv A outer s H vs Q E hr h => ?_)
  · obtain ⟨m, v, d, r, rfl, _⟩ := h
    rfl
  · obtain ⟨m, v, d, r, rfl, ⟨ma, tl, kd, nd, kk, rfl, hM⟩, hd, q⟩ := h
    have G__law_is_whole := ok__law_is_whole (P := P) (w := w) (base := base) T
    refine ⟨_, (pss_one (ps_ret (pe_and (pe_call G__law_is_whole (hr.mono (by decide)) rfl T.g__law_is_whole T.d__law_is_whole.kp T.b__law_is_whole .nil passE (pa_cons (pv 1) pa_nil)) (pe_one (pe_cmp (pc_din (hu_of hr) (pv 1) (pe_dget (hu_of hr) (pv 0) pe_str (fun _ _ => rfl)))))))), ?_⟩
    refine ⟨_, rfl, v, d, rfl, hd, _, rfl, ?_⟩
    cases d with
    | int i =>
      rcases hd with hd | ⟨_, _, _, e⟩
      · cases hd
        have hg1 : DGet H ma (.str "kids") (some (.ref kd)) := DGet.k (k := Sum.inr "kids") hM.m
        refine ⟨_, rfl, _, rfl, ma, .ref kd, rfl, hg1, kd, valV kk (Sum.inl i), rfl, DGet.k (k := Sum.inl i) hM.kd, ?_⟩
        rw [md_val hM]
        exact q
      · cases e
    | _ => exact q
theorem ok__law_order (T : Txt K mg) : FO P w K mg base (L2.CX P w) 2 (a__law_order K) ["_law_model"] (spOrder K) := by
  refine T.d__law_order.ok sc__law_order (fun vs H Q E h => ?_) (fun cdv A outer s H vs Q E hr h => ?_)
  · obtain ⟨m, r, rfl, _⟩ := h
    rfl
  · obtain ⟨m, r, rfl, ⟨ma, tl, kd, nd, kk, rfl, hM⟩, g, q⟩ := h
    have G__law_read := ok__law_read (P := P) (w := w) (base := base) T
    refine ⟨_, (pss_cons (ps_set (i := 1) sc__law_order.nd rfl (Or.inl rfl) (pe_call G__law_read (hr.mono (by decide)) rfl T.g__law_read T.d__law_read.kp T.b__law_read .nil passE (pa_cons (pv 0) (pa_cons (pe_dget (hu_of hr) (pv 0) pe_str (fun _ _ => rfl)) pa_nil)))) (pss_cons (ps_set (i := 2) sc__law_order.nd rfl (Or.inl rfl) (pe_bm PySem.F.plainAttrs_list PySem.F.slot_list_index PySem.F.type_list_index mt_index (pv 1) (pa_cons (pe_callB (id := "min") (cr_min rfl) (by rfl) T.f_min (by decide +kernel) (pa_cons (pv 1) pa_nil)) pa_nil))) (pss_one (ps_ret (pe_op op_cat (pe_slice sl_list (pv 1) (po_some (pv 2)) po_none) (pe_slice sl_list (pv 1) po_none (po_some (pv 2)))))))), ?_⟩
    obtain ⟨mm, hmm, hring⟩ := tops_ring g
    have h100 := g.le
    have hsl := seg_len r mm (mm + r.length)
    have hg1 : DGet H ma (.str "tops") (some (.ref tl)) := DGet.k (k := Sum.inr "tops") hM.m
    refine ⟨_, rfl, _, rfl, ma, .ref tl, rfl, hg1, .ref ma, tl, r, topsL r, rfl, ⟨ma, tl, kd, nd, kk, rfl, hM⟩, g, .inl (.inl hM.tl), fun x hx => (mem_tops.mp hx).1, by rw [hring, hsl]; omega, fun c H1 hc S1 hC => ?_⟩
    rw [hring] at hC
    obtain ⟨j, hj, hj0, hjn, hturn⟩ := turn_back hmm
    have zl : (zs (seg r mm (mm + r.length))).length = r.length := by unfold zs; rw [List.length_map, hsl]; omega
    refine ⟨_, rfl, .inl ⟨rfl, _, .inl (.inl hC)⟩, _, rfl, c, _, rfl, .inl (.inl hC), by omega, fun mn hmn hle => ?_⟩
    have em : mn = 0 := by
      have h2 := hle 0 (List.mem_of_getElem? (zs_get hj0))
      unfold zs at hmn
      obtain ⟨k, _, rfl⟩ := List.mem_map.mp hmn
      omega
    subst em
    refine ⟨c, _, .int 0, j, .int 0, rfl, rfl, .inl (.inl hC), rfl, flat_ints _, by rw [List.getElem?_map, zs_get hj0]; rfl, rfl, fun i z hi hz => ?_, ?_⟩
    · rw [List.getElem?_map] at hz
      cases e : (seg r mm (mm + r.length))[i]? with
      | none =>
        unfold zs at hz
        rw [List.getElem?_map, e] at hz
        cases hz
      | some y =>
        rw [zs_get e] at hz
        have e2 := Option.some.inj hz
        subst e2
        show (((y : Nat) : Int) == 0) = false
        have : y ≠ 0 := fun z => hjn i hi (by rw [e, z])
        exact beq_eq_false_iff_ne.mpr fun z => this (by omega)
    refine ⟨_, rfl, _, rfl, _, rfl, np ?_⟩
    refine sll_go (.inl (.inl hC)) fun b H2 hb S2 hB => ?_
    refine ⟨_, rfl, np ⟨_, rfl, _, rfl, ?_⟩⟩
    refine sll_go (.inl (.inl (S2 _ _ hC))) fun b2 H3 hb2 S3 hB2 => ?_
    have zl2 : ((zs (seg r mm (mm + r.length))).map V.int).length = r.length := by rw [List.length_map, zl]
    rw [cut_drop (by omega)] at hB
    rw [cut_take (by omega)] at hB2
    refine ⟨b, b2, _, _, rfl, rfl, S3 _ _ hB, hB2, ?_, fun p hp => ?_⟩
    · rw [List.length_drop, List.length_take]
      exact le_line (by omega)
    · have S13 := (S1.trans S2).trans S3
      refine q p _ (S13.free hp) (S13.trans (same_new hp)) ?_
      rw [upd_same, ← hturn]
      unfold zs
      rw [List.map_append, List.map_append, List.map_drop, List.map_drop, List.map_take, List.map_take]
theorem ok__law_is_name (T : Txt K mg) : FO P w K mg base (L2.CX P w) 1 (a__law_is_name K) ["_law_thing"] (spName K) := by
  refine T.d__law_is_name.ok sc__law_is_name (fun vs H Q E h => ?_) (fun cdv A outer s H vs Q E hr h => ?_)
  · obtain ⟨v, d, rfl, _⟩ := h
    rfl
  · obtain ⟨v, d, rfl, hd, hs, q⟩ := h
    refine ⟨_, (pss_cons (ps_if (PW.pt (pw_or (pt_not (pt_val (pe_callB (id := "isinstance") call_isi (by rfl) T.f_isinstance (by decide +kernel) (pa_cons (pv 0) (pa_cons (pe_ty (n := "str") T.f_str) pa_nil))))) (pw_or1 (pt_not (pt_chain op_le op_le pe_int (pe_callB (id := "len") call_len (by rfl) T.f_len (by decide +kernel) (pa_cons (pv 0) pa_nil)) pe_int))))) (pss_one (ps_ret pe_bl)) pss_nil) (pss_one (ps_ret (pe_callB (id := "all") (cr_all rfl) (by rfl) T.f_all (by decide +kernel) (pa_cons (pe_lc (own := [("_law_sign", 1)]) (g := gName 1) rfl sc__law_is_name.nd (pi_str (pv 0)) (blkOk_by (own := [("_law_sign", 1)]) (N := ["_law_thing", "_law_sign"]) (sc := defScope s__law_is_name) (by decide +kernel)) (fun _ _ _ _ _ => pg_name (i := 1) sc__law_is_name.nd rfl (Or.inl rfl)) (fun _ _ _ _ _ => pts_nil) (fun _ _ _ _ _ => (pe_cmpR op_in_sign (pv 1) pe_str rfl))) pa_nil))))), ?_⟩
    refine ⟨_, rfl, _, _, _, _, _, rfl, .ty _, hd.ty, kit_str K d, _, rfl, ?_⟩
    cases d with
    | str z =>
      rcases hd with hd | ⟨_, _, _, e⟩
      · cases hd
        have hz : z.length ≤ 1000 := of_decide_eq_true hs
        have bad : ¬ (1 ≤ z.length ∧ z.length ≤ 8) → dName (.str z) = false := fun h => by
          show nameB z = false
          unfold nameB
          by_cases c : 1 ≤ z.length
          · rw [decide_eq_false (show ¬ z.length ≤ 8 from fun h2 => h ⟨c, h2⟩), Bool.false_and, Bool.and_false]
          · rw [decide_eq_false c, Bool.false_and]
        refine iteF ?_
        refine ⟨_, rfl, _, z.length, rfl, ⟨le_line (by omega), rfl⟩, _, _, rfl, rfl, _, rfl, ?_⟩
        by_cases c1 : 1 ≤ z.length
        · rw [decide_eq_true (show (1 : Int) ≤ (z.length : Nat) by omega)]
          refine iteT ?_
          refine ⟨_, _, rfl, rfl, _, rfl, ?_⟩
          by_cases c2 : z.length ≤ 8
          · rw [decide_eq_true (show ((z.length : Nat) : Int) ≤ 8 by omega)]
            refine iteF ?_
            refine ⟨_, rfl, z, rfl, fun D hD => ?_⟩
            refine lcm (K := K) (walk_str (z := z)) (z.cps.toList.map fun c => .bool (lowB c)) (by rw [List.length_map]; simp) (by have e : z.length = z.cps.size := rfl; omega) hD (fun d h => ?_) (fun _ _ => True.intro) (fun i x H1 H1' d hi S y => ?_) gname_mono (fun H' acc S hA hP => ?_)
            · obtain ⟨c, _, rfl⟩ := List.mem_map.mp h
              rfl
            · obtain ⟨rfl, c, hc, rfl⟩ := y
              rw [List.getElem?_map, Array.getElem?_toList, hc] at hi
              have e := Option.some.inj hi
              subst e
              exact ⟨Same.refl _, fun Qy hy => ⟨rfl, _, rfl, c, letters, rfl, rfl, hy _ _ (Same.refl _) (.bl _)⟩⟩
            · have e1 : acc = (z.cps.toList.map lowB).map V.bl := by
                rw [List.map_map]
                exact DpAll.bls hP
              rw [e1] at hA
              refine ⟨D, z.cps.toList.map lowB, rfl, .inl (.inl hA), ?_⟩
              have e : (z.cps.toList.map lowB).all id = dName (.str z) := by
                show _ = nameB z
                unfold nameB
                rw [decide_eq_true c1, decide_eq_true c2, Bool.true_and, Bool.true_and, List.all_map]
                rfl
              rw [e]
              exact q _ S
          · rw [decide_eq_false (show ¬ ((z.length : Nat) : Int) ≤ 8 by omega)]
            have q2 := q _ (Same.refl _)
            rw [bad (fun h => c2 h.2)] at q2
            exact iteT q2
        · rw [decide_eq_false (show ¬ (1 : Int) ≤ (z.length : Nat) by omega)]
          have q2 := q _ (Same.refl _)
          rw [bad (fun h => c1 h.1)] at q2
          exact iteF ⟨_, rfl, iteT q2⟩
      · cases e
    | _ => exact q _ (Same.refl _)
end
end Bt

namespace Bt
open PySem PySem.Spec PyProof.Rows L2
/-! ### the drawn things -/
def AllTh (K : PySem.W.Frag) (H : Hp) (Pr : PyData → Prop) (xs : List V) : Prop := ∀ x ∈ xs, ∃ d, TD K H x d ∧ Pr d
theorem AllTh.mono {K : PySem.W.Frag} {H H' : Hp} {Pr : PyData → Prop} {xs : List V} (h : AllTh K H Pr xs) (S : Same H H') : AllTh K H' Pr xs := fun x hx => by
  obtain ⟨d, t, p⟩ := h x hx
  exact ⟨d, t.mono S, p⟩
theorem AllTh.nil {K : PySem.W.Frag} {H : Hp} {Pr : PyData → Prop} : AllTh K H Pr [] := fun x hx => by cases hx
theorem AllTh.cons {K : PySem.W.Frag} {H : Hp} {Pr : PyData → Prop} {x : V} {xs : List V} {d : PyData} (t : TD K H x d) (p : Pr d) (h : AllTh K H Pr xs) : AllTh K H Pr (x :: xs) := fun y hy => by
  rcases List.mem_cons.mp hy with e | hy
  · rw [e]
    exact ⟨d, t, p⟩
  · exact h y hy
theorem at_in {xs : List V} {i : Int} (h0 : 0 ≤ i) (h1 : i < (xs.length : Nat)) : ∃ x, atI xs i = some x ∧ x ∈ xs := by
  have hl : i.toNat < xs.length := by omega
  have e : i = ((i.toNat : Nat) : Int) := by omega
  refine ⟨xs[i.toNat], ?_, List.getElem_mem hl⟩
  conv => lhs; rw [e]
  exact atI_nat (List.getElem?_eq_getElem hl)
def NumT (d : PyData) : Prop := (∃ i, d = .int i ∧ i.natAbs < 2 ^ 200) ∨ (∃ b, d = .bool b) ∨ d = .none ∨ d = .str "0" ∨ d = .str "" ∨ d = .tuple [.int 0] ∨ d = .list [.int 0] ∨ d = .dict []
def smallT (d : PyData) : Prop := small d = true
def anyT (_ : PyData) : Prop := True
def spNumber (K : PySem.W.Frag) : Sp := fun vs H Q E => ∃ p m gl r, ∃ gs : List Int, vs = [.ref p, m, .ref gl] ∧ Pot H p ∧ Md K (hide p H) m r ∧ Good r ∧ gl ≠ p ∧ H gl = some (.lst (gs.map V.int)) ∧ gs.length ≤ 100 ∧ (∀ g ∈ gs, g.natAbs < 2 ^ 200) ∧ ∀ v d H', SP p H H' → TD K (hide p H') v d → NumT d → Q v H'
def spCountL (K : PySem.W.Frag) : Sp := fun vs H Q E => ∃ p, ∃ h : Int, vs = [.ref p, .int h] ∧ Pot H p ∧ 0 ≤ h ∧ h ≤ 1000 ∧ ∀ v d H', SP p H H' → TD K (hide p H') v d → Q v H'
def spWord (K : PySem.W.Frag) : Sp := fun vs H Q E => ∃ p, vs = [.ref p] ∧ Pot H p ∧ ∀ v d H', SP p H H' → TD K (hide p H') v d → small d = true → Q v H'
section
variable {P : Program} {w : World} {K : PySem.W.Frag} {mg : Str → Option Value} {base : Heap}
theorem ok__law_word (T : Txt K mg) : FO P w K mg base (L2.CX P w) 3 (a__law_word K) ["_law_pot_here"] (spWord K) := by
  refine T.d__law_word.ok sc__law_word (fun vs H Q E h => ?_) (fun cdv A outer s H vs Q E hr h => ?_)
  · obtain ⟨p, rfl, _⟩ := h
    rfl
  · obtain ⟨p, rfl, hp, q⟩ := h
    have G__law_draw := ok__law_draw (P := P) (w := w) (base := base) T
    have G__law_name := ok__law_name (P := P) (w := w) (base := base) T
    refine ⟨_, (pss_cons (ps_if (pt_cmpR op_gt (pe_call G__law_draw (hr.mono (by decide)) rfl T.g__law_draw T.d__law_draw.kp T.b__law_draw .nil passE (pa_cons (pv 0) (pa_cons pe_int pa_nil))) pe_int (nomark _)) (pss_one (ps_ret (pe_call G__law_name (hr.mono (by decide)) rfl T.g__law_name T.d__law_name.kp T.b__law_name .nil passE (pa_cons (pv 0) pa_nil)))) pss_nil) (pss_one (ps_ret (pe_ix ix_list (pe_lst (pa_cons pe_str (pa_cons pe_str (pa_cons pe_str (pa_cons pe_str (pa_cons pe_str (pa_cons pe_non (pa_cons pe_int (pa_cons pe_bl (pa_cons (pe_tup (pa_cons pe_str pa_nil)) (pa_cons (pe_lst (pa_cons pe_str pa_nil)) (pa_cons pe_dnewK (pa_cons pe_str pa_nil))))))))))))) (pe_call G__law_draw (hr.mono (by decide)) rfl T.g__law_draw T.d__law_draw.kp T.b__law_draw .nil passE (pa_cons (pv 0) (pa_cons pe_int pa_nil))) (fun _ _ => rfl))))), ?_⟩
    refine ⟨_, rfl, p, 3, rfl, hp, (by decide), (by decide +kernel), fun d H1 d0 d1 S1 => ?_⟩
    refine ⟨_, _, rfl, rfl, _, rfl, ?_⟩
    by_cases c : 0 < d
    · rw [decide_eq_true c]
      refine iteT ⟨_, rfl, p, rfl, S1.pot, fun z H2 hz S2 => q _ (.str z) H2 (S1.trans S2) (.inl (.str z)) ?_⟩
      have := nameB_len hz
      exact decide_eq_true (show z.length ≤ 1000 by omega)
    · rw [decide_eq_false c]
      refine iteF ?_
      refine ⟨(by show 1 ≤ sizeLine; decide), fun t ht => ?_⟩
      have S2 : SP p H (upd H1 t (.tup [.str "a"])) := S1.new ht
      have nt := S1.pot.ne ht
      have h2 : (upd H1 t (.tup [.str "a"])) t = some (.tup [.str "a"]) := upd_same
      generalize upd H1 t (.tup [.str "a"]) = H2 at S2 h2
      refine ⟨(by show 1 ≤ sizeLine; decide), fun l hl => ?_⟩
      have S3 : SP p H (upd H2 l (.lst [.str "a"])) := S2.new hl
      have nl := S2.pot.ne hl
      have h3 : (upd H2 l (.lst [.str "a"])) l = some (.lst [.str "a"]) := upd_same
      have h2' : (upd H2 l (.lst [.str "a"])) t = some (.tup [.str "a"]) := by rw [upd_ne (ne_of_none h2 hl)]; exact h2
      generalize upd H2 l (.lst [.str "a"]) = H3 at S3 h3 h2'
      refine fun k hk => ?_
      have S4 : SP p H (upd H3 k (.dK [])) := S3.new hk
      have nk := S3.pot.ne hk
      have h4 : (upd H3 k (.dK [])) k = some (.dK []) := upd_same
      have h3' : (upd H3 k (.dK [])) l = some (.lst [.str "a"]) := by rw [upd_ne (ne_of_none h3 hk)]; exact h3
      have h2'' : (upd H3 k (.dK [])) t = some (.tup [.str "a"]) := by rw [upd_ne (ne_of_none h2' hk)]; exact h2'
      generalize upd H3 k (.dK []) = H4 at S4 h4 h3' h2''
      refine ⟨(by show 12 ≤ sizeLine; decide), fun b hb => ?_⟩
      have S5 : SP p H (upd H4 b (.lst [.str "", .str "A", .str "a1", .str "abcdefghi", .str "a b", .non, .int 7, .bl true, .ref t, .ref l, .ref k, .str "a\n"])) := S4.new hb
      have nb := S4.pot.ne hb
      have h5 : (upd H4 b (.lst [.str "", .str "A", .str "a1", .str "abcdefghi", .str "a b", .non, .int 7, .bl true, .ref t, .ref l, .ref k, .str "a\n"])) b = some (.lst [.str "", .str "A", .str "a1", .str "abcdefghi", .str "a b", .non, .int 7, .bl true, .ref t, .ref l, .ref k, .str "a\n"]) := upd_same
      have S45 : Same H4 (upd H4 b (.lst [.str "", .str "A", .str "a1", .str "abcdefghi", .str "a b", .non, .int 7, .bl true, .ref t, .ref l, .ref k, .str "a\n"])) := same_new hb
      generalize upd H4 b (.lst [.str "", .str "A", .str "a1", .str "abcdefghi", .str "a b", .non, .int 7, .bl true, .ref t, .ref l, .ref k, .str "a\n"]) = H5 at S5 h5 S45
      have dt : TD K (hide p H5) (.ref t) (.tuple [.str "a"]) := .inl (.tup (SqT.of (hide_get (S45 _ _ h2'') nt)) (.cons (.str _) .nil))
      have dl : TD K (hide p H5) (.ref l) (.list [.str "a"]) := .inl (.lst (.inl (.inl (hide_get (S45 _ _ h3') nl))) (.cons (.str _) .nil))
      have dk : TD K (hide p H5) (.ref k) (.dict []) := .inr ⟨k, rfl, hide_get (S45 _ _ h4) nk, rfl⟩
      have all : AllTh K (hide p H5) smallT [.str "", .str "A", .str "a1", .str "abcdefghi", .str "a b", .non, .int 7, .bl true, .ref t, .ref l, .ref k, .str "a\n"] :=
        .cons (.inl (.str _)) (by unfold smallT; decide +kernel) (.cons (.inl (.str _)) (by unfold smallT; decide +kernel) (.cons (.inl (.str _)) (by unfold smallT; decide +kernel) (.cons (.inl (.str _)) (by unfold smallT; decide +kernel) (.cons (.inl (.str _)) (by unfold smallT; decide +kernel)
          (.cons (.inl .non) rfl (.cons (.inl (.int _)) rfl (.cons (.inl (.bl _)) rfl (.cons dt (by unfold smallT; decide +kernel) (.cons dl (by unfold smallT; decide +kernel) (.cons dk rfl (.cons (.inl (.str _)) (by unfold smallT; decide +kernel) .nil)))))))))))
      refine ⟨_, rfl, p, 12, rfl, S5.pot, (by decide), (by decide +kernel), fun e H6 e0 e1 S6 => ?_⟩
      obtain ⟨x, hx, hm⟩ := at_in (xs := [V.str "", .str "A", .str "a1", .str "abcdefghi", .str "a b", .non, .int 7, .bl true, .ref t, .ref l, .ref k, .str "a\n"]) e0 e1
      obtain ⟨d, hd, hs⟩ := (all.mono S6.S) x hm
      exact ⟨b, _, e, x, rfl, rfl, .inl (.inl (S6.at h5 nb)), hx, q x d H6 (S5.trans S6) hd hs⟩
theorem ok__law_count (T : Txt K mg) : FO P w K mg base (L2.CX P w) 3 (a__law_count K) ["_law_pot_here", "_law_high"] (spCountL K) := by
  refine T.d__law_count.ok sc__law_count (fun vs H Q E h => ?_) (fun cdv A outer s H vs Q E hr h => ?_)
  · obtain ⟨p, hh, rfl, _⟩ := h
    rfl
  · obtain ⟨p, hi, rfl, hp, hi0, hi1, q⟩ := h
    have G__law_draw := ok__law_draw (P := P) (w := w) (base := base) T
    refine ⟨_, (pss_cons (ps_if (pt_cmpR op_gt (pe_call G__law_draw (hr.mono (by decide)) rfl T.g__law_draw T.d__law_draw.kp T.b__law_draw .nil passE (pa_cons (pv 0) (pa_cons pe_int pa_nil))) pe_int (nomark _)) (pss_one (ps_ret (pe_call G__law_draw (hr.mono (by decide)) rfl T.g__law_draw T.d__law_draw.kp T.b__law_draw .nil passE (pa_cons (pv 0) (pa_cons (pe_op op_add (pv 1) pe_int) pa_nil))))) pss_nil) (pss_cons (ps_set (i := 2) sc__law_count.nd rfl (Or.inl rfl) (pe_call G__law_draw (hr.mono (by decide)) rfl T.g__law_draw T.d__law_draw.kp T.b__law_draw .nil passE (pa_cons (pv 0) (pa_cons (pe_op op_pow pe_int pe_int) pa_nil)))) (pss_one (ps_ret (pe_ix ix_list (pe_lst (pa_cons (pe_un un_neg pe_int) (pa_cons (pe_op op_add (pv 1) pe_int) (pa_cons (pe_op op_add (pe_op op_add (pv 1) pe_int) (pv 2)) (pa_cons (pe_op op_sub (pe_un un_neg pe_int) (pv 2)) (pa_cons pe_bl (pa_cons pe_bl (pa_cons pe_non (pa_cons pe_str (pa_cons (pe_tup (pa_cons pe_int pa_nil)) (pa_cons (pe_lst (pa_cons pe_int pa_nil)) (pa_cons pe_dnewK pa_nil)))))))))))) (pe_call G__law_draw (hr.mono (by decide)) rfl T.g__law_draw T.d__law_draw.kp T.b__law_draw .nil passE (pa_cons (pv 0) (pa_cons pe_int pa_nil))) (fun _ _ => rfl)))))), ?_⟩
    refine ⟨_, rfl, p, 3, rfl, hp, (by decide), (by decide +kernel), fun d H1 d0 d1 S1 => ?_⟩
    refine ⟨_, _, rfl, rfl, _, rfl, ?_⟩
    by_cases c : 0 < d
    · rw [decide_eq_true c]
      refine iteT ⟨_, rfl, _, rfl, _, _, rfl, rfl, p, hi + 1, rfl, S1.pot, by omega, log2_small (by omega) (by omega), fun e H2 e0 e1 S2 => q _ (.int e) H2 (S1.trans S2) (.inl (.int e))⟩
    · rw [decide_eq_false c]
      refine iteF ?_
      have pw : CPow 10 50 := ⟨by decide, by decide, by decide⟩
      refine ⟨_, rfl, _, _, rfl, rfl, pw, p, _, rfl, S1.pot, by decide, log2_small (by decide) (by decide), fun f Hf f0 f1 Sf => ?_⟩
      have S1f := S1.trans Sf
      refine ⟨_, rfl, _, rfl, _, _, rfl, rfl, _, rfl, _, _, rfl, rfl, _, rfl, _, _, rfl, rfl, _, rfl, _, rfl, _, _, rfl, rfl, ?_⟩
      refine ⟨(by show 1 ≤ sizeLine; decide), fun t ht => ?_⟩
      have S2 : SP p H (upd Hf t (.tup [.int 1])) := S1f.new ht
      have nt := S1f.pot.ne ht
      have h2 : (upd Hf t (.tup [.int 1])) t = some (.tup [.int 1]) := upd_same
      generalize upd Hf t (.tup [.int 1]) = H2 at S2 h2
      refine ⟨(by show 1 ≤ sizeLine; decide), fun l hl => ?_⟩
      have S3 : SP p H (upd H2 l (.lst [.int 1])) := S2.new hl
      have nl := S2.pot.ne hl
      have h3 : (upd H2 l (.lst [.int 1])) l = some (.lst [.int 1]) := upd_same
      have h2' : (upd H2 l (.lst [.int 1])) t = some (.tup [.int 1]) := by rw [upd_ne (ne_of_none h2 hl)]; exact h2
      generalize upd H2 l (.lst [.int 1]) = H3 at S3 h3 h2'
      refine fun k hk => ?_
      have S4 : SP p H (upd H3 k (.dK [])) := S3.new hk
      have nk := S3.pot.ne hk
      have h4 : (upd H3 k (.dK [])) k = some (.dK []) := upd_same
      have h3' : (upd H3 k (.dK [])) l = some (.lst [.int 1]) := by rw [upd_ne (ne_of_none h3 hk)]; exact h3
      have h2'' : (upd H3 k (.dK [])) t = some (.tup [.int 1]) := by rw [upd_ne (ne_of_none h2' hk)]; exact h2'
      generalize upd H3 k (.dK []) = H4 at S4 h4 h3' h2''
      refine ⟨(by show 11 ≤ sizeLine; decide), fun b hb => ?_⟩
      have S5 : SP p H (upd H4 b (.lst [V.int (-1), .int (hi + 1), .int (hi + 2 + f), .int (-1 - f), .bl true, .bl false, .non, .str "1", .ref t, .ref l, .ref k])) := S4.new hb
      have nb := S4.pot.ne hb
      have h5 : (upd H4 b (.lst [V.int (-1), .int (hi + 1), .int (hi + 2 + f), .int (-1 - f), .bl true, .bl false, .non, .str "1", .ref t, .ref l, .ref k])) b = some (.lst [V.int (-1), .int (hi + 1), .int (hi + 2 + f), .int (-1 - f), .bl true, .bl false, .non, .str "1", .ref t, .ref l, .ref k]) := upd_same
      have S45 : Same H4 (upd H4 b (.lst [V.int (-1), .int (hi + 1), .int (hi + 2 + f), .int (-1 - f), .bl true, .bl false, .non, .str "1", .ref t, .ref l, .ref k])) := same_new hb
      generalize upd H4 b (.lst [V.int (-1), .int (hi + 1), .int (hi + 2 + f), .int (-1 - f), .bl true, .bl false, .non, .str "1", .ref t, .ref l, .ref k]) = H5 at S5 h5 S45
      have dt : TD K (hide p H5) (.ref t) (.tuple [.int 1]) := .inl (.tup (SqT.of (hide_get (S45 _ _ h2'') nt)) (.cons (.int _) .nil))
      have dl : TD K (hide p H5) (.ref l) (.list [.int 1]) := .inl (.lst (.inl (.inl (hide_get (S45 _ _ h3') nl))) (.cons (.int _) .nil))
      have dk : TD K (hide p H5) (.ref k) (.dict []) := .inr ⟨k, rfl, hide_get (S45 _ _ h4) nk, rfl⟩
      have all : AllTh K (hide p H5) anyT [V.int (-1), .int (hi + 1), .int (hi + 2 + f), .int (-1 - f), .bl true, .bl false, .non, .str "1", .ref t, .ref l, .ref k] :=
        .cons (.inl (.int _)) True.intro (.cons (.inl (.int _)) True.intro (.cons (.inl (.int _)) True.intro (.cons (.inl (.int _)) True.intro (.cons (.inl (.bl _)) True.intro (.cons (.inl (.bl _)) True.intro (.cons (.inl .non) True.intro (.cons (.inl (.str _)) True.intro (.cons dt True.intro (.cons dl True.intro (.cons dk True.intro .nil))))))))))
      refine ⟨_, rfl, p, 11, rfl, S5.pot, (by decide), (by decide +kernel), fun e H6 e0 e1 S6 => ?_⟩
      obtain ⟨x, hx, hm⟩ := at_in (xs := [V.int (-1), .int (hi + 1), .int (hi + 2 + f), .int (-1 - f), .bl true, .bl false, .non, .str "1", .ref t, .ref l, .ref k]) e0 e1
      obtain ⟨d, hd, hs⟩ := (all.mono S6.S) x hm
      exact ⟨b, _, e, x, rfl, rfl, .inl (.inl (S6.at h5 nb)), hx, q x d H6 (S5.trans S6) hd⟩
theorem ok__law_number (T : Txt K mg) : FO P w K mg base (L2.CX P w) 2 (a__law_number K) ["_law_pot_here", "_law_model", "_law_gone"] (spNumber K) := by
  refine T.d__law_number.ok sc__law_number (fun vs H Q E h => ?_) (fun cdv A outer s H vs Q E hr h => ?_)
  · obtain ⟨p, m, gl, r, gs, rfl, _⟩ := h
    rfl
  · obtain ⟨p, m, gl, r, gs, rfl, hp, ⟨ma, tl, kd, nd, kk, rfl, hM⟩, g, ngl, hgl, hgs, hgb, q⟩ := h
    have G__law_draw := ok__law_draw (P := P) (w := w) (base := base) T
    refine ⟨_, (pss_cons (ps_set (i := 3) sc__law_number.nd rfl (Or.inl rfl) (pe_callB (id := "sorted") (cr_sortedDN (by rfl)) (by rfl) T.f_sorted (by decide +kernel) (pa_cons (pe_dget (hu_of hr) (pv 1) pe_str (fun _ _ => rfl)) pa_nil))) (pss_cons (ps_if (pt_cmpR op_gt (pe_call G__law_draw (hr.mono (by decide)) rfl T.g__law_draw T.d__law_draw.kp T.b__law_draw .nil passE (pa_cons (pv 0) (pa_cons pe_int pa_nil))) pe_int (nomark _)) (pss_one (ps_ret (pe_ix ix_list (pv 3) (pe_call G__law_draw (hr.mono (by decide)) rfl T.g__law_draw T.d__law_draw.kp T.b__law_draw .nil passE (pa_cons (pv 0) (pa_cons (pe_callB (id := "len") call_len (by rfl) T.f_len (by decide +kernel) (pa_cons (pv 3) pa_nil)) pa_nil))) (fun _ _ => rfl)))) pss_nil) (pss_cons (ps_set (i := 4) sc__law_number.nd rfl (Or.inl rfl) (pe_call G__law_draw (hr.mono (by decide)) rfl T.g__law_draw T.d__law_draw.kp T.b__law_draw .nil passE (pa_cons (pv 0) (pa_cons (pe_op op_pow pe_int pe_int) pa_nil)))) (pss_cons (ps_set (i := 5) sc__law_number.nd rfl (Or.inl rfl) (pe_lst (pa_cons (pe_un un_neg pe_int) (pa_cons (pe_op op_sub (pe_un un_neg pe_int) (pv 4)) (pa_cons (pe_op op_add (pe_op op_add (pe_callB (id := "max") (cr_max rfl) (by rfl) T.f_max (by decide +kernel) (pa_cons (pv 3) pa_nil)) pe_int) (pe_callB (id := "len") call_len (by rfl) T.f_len (by decide +kernel) (pa_cons (pv 2) pa_nil))) (pa_cons (pe_op op_add pe_int (pv 4)) (pa_cons pe_bl (pa_cons pe_bl (pa_cons pe_non (pa_cons pe_str (pa_cons (pe_tup (pa_cons pe_int pa_nil)) (pa_cons (pe_lst (pa_cons pe_int pa_nil)) (pa_cons pe_dnewK (pa_cons pe_str pa_nil)))))))))))))) (pss_one (ps_ret (pe_ix ix_list (pe_op op_cat (pv 5) (pe_op op_rep (pv 2) pe_int)) (pe_call G__law_draw (hr.mono (by decide)) rfl T.g__law_draw T.d__law_draw.kp T.b__law_draw .nil passE (pa_cons (pv 0) (pa_cons (pe_op op_add (pe_callB (id := "len") call_len (by rfl) T.f_len (by decide +kernel) (pa_cons (pv 5) pa_nil)) (pe_op op_mul pe_int (pe_callB (id := "len") call_len (by rfl) T.f_len (by decide +kernel) (pa_cons (pv 2) pa_nil)))) pa_nil))) (fun _ _ => rfl)))))))), ?_⟩
    have h1 := g.ne
    have h100 := g.le
    have hMH := hM.mono (hide_le p H)
    have hg1 : DGet H ma (.str "kids") (some (.ref kd)) := DGet.k (k := Sum.inr "kids") hMH.m
    refine ⟨_, rfl, ma, .ref kd, rfl, hg1, kd, kk, zs (List.range r.length), rfl, .inl hMH.kd, hMH.keys, fun ys nb0 hperm hsort hnb0 => ?_⟩
    have yl : ys.length = r.length := by rw [hperm.length_eq]; unfold zs; rw [List.length_map, List.length_range]
    have yb : ∀ y ∈ ys, 0 ≤ y ∧ y < 100 := fun y hy => by
      have := hperm.mem_iff.mp hy
      unfold zs at this
      obtain ⟨k, hk, rfl⟩ := List.mem_map.mp this
      have := List.mem_range.mp hk
      omega
    have nnb := hp.ne hnb0
    have S0 : SP p H (upd H nb0 (.lst (ys.map V.int))) := SP.of hp (same_new hnb0)
    have hN0 : (upd H nb0 (.lst (ys.map V.int))) nb0 = some (.lst (ys.map V.int)) := upd_same
    generalize upd H nb0 (.lst (ys.map V.int)) = H0 at S0 hN0
    refine ⟨_, rfl, p, 3, rfl, S0.pot, (by decide), (by decide +kernel), fun d H1 d0 d1 S1 => ?_⟩
    have S01 := S0.trans S1
    have hN1 := S1.at hN0 nnb
    have hgl1 := S01.at hgl ngl
    refine ⟨_, _, rfl, rfl, _, rfl, ?_⟩
    have yml : (ys.map V.int).length = r.length := by rw [List.length_map, yl]
    have big : ∀ i : Int, -(2 ^ 190) < i → i < 2 ^ 190 → NumT (.int i) := fun i a b => .inl ⟨i, rfl, by omega⟩
    by_cases c : 0 < d
    · rw [decide_eq_true c]
      refine iteT ?_
      refine ⟨_, rfl, _, rfl, _, rfl, _, _, rfl, .inl ⟨_, .inl (.inl hN1), rfl⟩, p, _, rfl, S1.pot, by omega, log2_small (by omega) (by omega), fun e H2 e0 e1 S2 => ?_⟩
      obtain ⟨x, hx, hm⟩ := at_in (xs := ys.map V.int) e0 e1
      obtain ⟨y, hy, rfl⟩ := List.mem_map.mp hm
      have := yb y hy
      exact ⟨nb0, _, e, _, rfl, rfl, .inl (.inl (S2.at hN1 nnb)), hx, q _ (.int y) H2 (S01.trans S2) (.inl (.int y)) (big y (by omega) (by omega))⟩
    · rw [decide_eq_false c]
      refine iteF ?_
      have pw : CPow 10 50 := ⟨by decide, by decide, by decide⟩
      refine ⟨_, rfl, _, _, rfl, rfl, pw, p, _, rfl, S1.pot, by decide, log2_small (by decide) (by decide), fun f Hf f0 f1 Sf => ?_⟩
      have S1f := S01.trans Sf
      have hNf := Sf.at hN1 nnb
      have hglf := Sf.at hgl1 ngl
      have f2 : f < 2 ^ 180 := by
        have : ((10 : Int) ^ (50 : Int).toNat) < 2 ^ 180 := by decide
        omega
      refine ⟨_, rfl, _, rfl, _, rfl, _, _, rfl, rfl, _, rfl, nb0, ys, rfl, .inl (.inl hNf), by omega, fun mx hmx _ => ?_⟩
      have mb := yb mx hmx
      refine ⟨_, _, rfl, rfl, _, rfl, _, gs.length, rfl, .inl ⟨_, .inl (.inl hglf), by rw [List.length_map]⟩, _, _, rfl, rfl, _, rfl, _, _, rfl, rfl, ?_⟩
      refine ⟨(by show 1 ≤ sizeLine; decide), fun t ht => ?_⟩
      have S2 : SP p H (upd Hf t (.tup [.int 0])) := S1f.new ht
      have nt := S1f.pot.ne ht
      have h2 : (upd Hf t (.tup [.int 0])) t = some (.tup [.int 0]) := upd_same
      generalize upd Hf t (.tup [.int 0]) = H2 at S2 h2
      refine ⟨(by show 1 ≤ sizeLine; decide), fun l hl => ?_⟩
      have S3 : SP p H (upd H2 l (.lst [.int 0])) := S2.new hl
      have nl := S2.pot.ne hl
      have h3 : (upd H2 l (.lst [.int 0])) l = some (.lst [.int 0]) := upd_same
      have h2' : (upd H2 l (.lst [.int 0])) t = some (.tup [.int 0]) := by rw [upd_ne (ne_of_none h2 hl)]; exact h2
      generalize upd H2 l (.lst [.int 0]) = H3 at S3 h3 h2'
      refine fun k hk => ?_
      have S4 : SP p H (upd H3 k (.dK [])) := S3.new hk
      have nk := S3.pot.ne hk
      have h4 : (upd H3 k (.dK [])) k = some (.dK []) := upd_same
      have h3' : (upd H3 k (.dK [])) l = some (.lst [.int 0]) := by rw [upd_ne (ne_of_none h3 hk)]; exact h3
      have h2'' : (upd H3 k (.dK [])) t = some (.tup [.int 0]) := by rw [upd_ne (ne_of_none h2' hk)]; exact h2'
      generalize upd H3 k (.dK []) = H4 at S4 h4 h3' h2''
      refine ⟨(by show 12 ≤ sizeLine; decide), fun b hb => ?_⟩
      have S5 : SP p H (upd H4 b (.lst [V.int (-1), .int (-1 - f), .int (mx + 1 + (gs.length : Nat)), .int (200 + f), .bl true, .bl false, .non, .str "0", .ref t, .ref l, .ref k, .str ""])) := S4.new hb
      have nb := S4.pot.ne hb
      have h5 : (upd H4 b (.lst [V.int (-1), .int (-1 - f), .int (mx + 1 + (gs.length : Nat)), .int (200 + f), .bl true, .bl false, .non, .str "0", .ref t, .ref l, .ref k, .str ""])) b = some (.lst [V.int (-1), .int (-1 - f), .int (mx + 1 + (gs.length : Nat)), .int (200 + f), .bl true, .bl false, .non, .str "0", .ref t, .ref l, .ref k, .str ""]) := upd_same
      have S45 : Same H4 (upd H4 b (.lst [V.int (-1), .int (-1 - f), .int (mx + 1 + (gs.length : Nat)), .int (200 + f), .bl true, .bl false, .non, .str "0", .ref t, .ref l, .ref k, .str ""])) := same_new hb
      generalize upd H4 b (.lst [V.int (-1), .int (-1 - f), .int (mx + 1 + (gs.length : Nat)), .int (200 + f), .bl true, .bl false, .non, .str "0", .ref t, .ref l, .ref k, .str ""]) = H5 at S5 h5 S45
      have dt : TD K (hide p H5) (.ref t) (.tuple [.int 0]) := .inl (.tup (SqT.of (hide_get (S45 _ _ h2'') nt)) (.cons (.int _) .nil))
      have dl : TD K (hide p H5) (.ref l) (.list [.int 0]) := .inl (.lst (.inl (.inl (hide_get (S45 _ _ h3') nl))) (.cons (.int _) .nil))
      have dk : TD K (hide p H5) (.ref k) (.dict []) := .inr ⟨k, rfl, hide_get (S45 _ _ h4) nk, rfl⟩
      have all : AllTh K (hide p H5) NumT [V.int (-1), .int (-1 - f), .int (mx + 1 + (gs.length : Nat)), .int (200 + f), .bl true, .bl false, .non, .str "0", .ref t, .ref l, .ref k, .str ""] :=
        .cons (.inl (.int _)) (big _ (by omega) (by omega)) (.cons (.inl (.int _)) (big _ (by omega) (by omega)) (.cons (.inl (.int _)) (big _ (by omega) (by omega)) (.cons (.inl (.int _)) (big _ (by omega) (by omega)) (.cons (.inl (.bl _)) (.inr (.inl ⟨_, rfl⟩)) (.cons (.inl (.bl _)) (.inr (.inl ⟨_, rfl⟩)) (.cons (.inl .non) (.inr (.inr (.inl rfl))) (.cons (.inl (.str _)) (.inr (.inr (.inr (.inl rfl))))
          (.cons dt (.inr (.inr (.inr (.inr (.inr (.inl rfl)))))) (.cons dl (.inr (.inr (.inr (.inr (.inr (.inr (.inl rfl))))))) (.cons dk (.inr (.inr (.inr (.inr (.inr (.inr (.inr rfl))))))) (.cons (.inl (.str _)) (.inr (.inr (.inr (.inr (.inl rfl))))) .nil)))))))))))
      have hgl5 := S5.at hgl ngl
      refine ⟨_, rfl, _, rfl, gl, 4, _, rfl, rfl, hgl5, by decide, by decide, ?_, fun b2 hb2 => ?_⟩
      · rw [List.length_map]
        show gs.length * 4 ≤ sizeLine
        exact le_line (by omega)
      have er : (List.replicate (4 : Int).toNat (gs.map V.int)).flatten = (gs ++ (gs ++ (gs ++ gs))).map V.int := by
        show (List.replicate 4 (gs.map V.int)).flatten = _
        simp [List.replicate_succ]
      rw [er]
      have S6 : SP p H (upd H5 b2 (.lst ((gs ++ (gs ++ (gs ++ gs))).map V.int))) := S5.new hb2
      have S56 : Same H5 (upd H5 b2 (.lst ((gs ++ (gs ++ (gs ++ gs))).map V.int))) := same_new hb2
      have h6 : (upd H5 b2 (.lst ((gs ++ (gs ++ (gs ++ gs))).map V.int))) b2 = some (.lst ((gs ++ (gs ++ (gs ++ gs))).map V.int)) := upd_same
      generalize upd H5 b2 (.lst ((gs ++ (gs ++ (gs ++ gs))).map V.int)) = H6 at S6 S56 h6
      have h56 := S56 _ _ h5
      refine ⟨b, b2, _, _, rfl, rfl, h56, h6, ?_, fun b3 hb3 => ?_⟩
      · rw [List.length_map, List.length_append, List.length_append, List.length_append]
        show 12 + _ ≤ sizeLine
        exact le_line (by omega)
      have nb3 := S6.pot.ne hb3
      have S7 : SP p H (upd H6 b3 (.lst ([V.int (-1), .int (-1 - f), .int (mx + 1 + (gs.length : Nat)), .int (200 + f), .bl true, .bl false, .non, .str "0", .ref t, .ref l, .ref k, .str ""] ++ (gs ++ (gs ++ (gs ++ gs))).map V.int))) := S6.new hb3
      have S67 : Same H6 (upd H6 b3 (.lst ([V.int (-1), .int (-1 - f), .int (mx + 1 + (gs.length : Nat)), .int (200 + f), .bl true, .bl false, .non, .str "0", .ref t, .ref l, .ref k, .str ""] ++ (gs ++ (gs ++ (gs ++ gs))).map V.int))) := same_new hb3
      have h7 : (upd H6 b3 (.lst ([V.int (-1), .int (-1 - f), .int (mx + 1 + (gs.length : Nat)), .int (200 + f), .bl true, .bl false, .non, .str "0", .ref t, .ref l, .ref k, .str ""] ++ (gs ++ (gs ++ (gs ++ gs))).map V.int))) b3 = some (.lst ([V.int (-1), .int (-1 - f), .int (mx + 1 + (gs.length : Nat)), .int (200 + f), .bl true, .bl false, .non, .str "0", .ref t, .ref l, .ref k, .str ""] ++ (gs ++ (gs ++ (gs ++ gs))).map V.int)) := upd_same
      generalize upd H6 b3 (.lst ([V.int (-1), .int (-1 - f), .int (mx + 1 + (gs.length : Nat)), .int (200 + f), .bl true, .bl false, .non, .str "0", .ref t, .ref l, .ref k, .str ""] ++ (gs ++ (gs ++ (gs ++ gs))).map V.int)) = H7 at S7 S67 h7
      have all7 : AllTh K (hide p H7) NumT ([V.int (-1), .int (-1 - f), .int (mx + 1 + (gs.length : Nat)), .int (200 + f), .bl true, .bl false, .non, .str "0", .ref t, .ref l, .ref k, .str ""] ++ (gs ++ (gs ++ (gs ++ gs))).map V.int) := fun x hx => by
        rcases List.mem_append.mp hx with h | h
        · exact (all.mono (hide_same (S56.trans S67))) x h
        · obtain ⟨g', hg', rfl⟩ := List.mem_map.mp h
          have hm : g' ∈ gs := by simpa using hg'
          exact ⟨.int g', .inl (.int g'), .inl ⟨g', rfl, hgb g' hm⟩⟩
      have h57 := S67 _ _ h56
      have hgl7 := S7.at hgl ngl
      refine ⟨_, rfl, _, rfl, _, _, rfl, .inl ⟨_, .inl (.inl h57), rfl⟩, _, rfl, _, gs.length, rfl, .inl ⟨_, .inl (.inl hgl7), by rw [List.length_map]⟩, _, _, rfl, rfl, .inl ⟨by decide, by decide⟩, _, _, rfl, rfl, p, _, rfl, S7.pot, ?_, ?_, fun e H8 e0 e1 S8 => ?_⟩
      · show (0 : Int) < ((12 : Nat) : Int) + 4 * (gs.length : Nat)
        omega
      · exact log2_small (show (0 : Int) < ((12 : Nat) : Int) + 4 * (gs.length : Nat) by omega) (show ((12 : Nat) : Int) + 4 * (gs.length : Nat) < 2 ^ 200 by omega)
      have e1' : e < ((12 : Nat) : Int) + 4 * (gs.length : Nat) := e1
      obtain ⟨x, hx, hm⟩ := at_in (xs := [V.int (-1), .int (-1 - f), .int (mx + 1 + (gs.length : Nat)), .int (200 + f), .bl true, .bl false, .non, .str "0", .ref t, .ref l, .ref k, .str ""] ++ (gs ++ (gs ++ (gs ++ gs))).map V.int) e0 (by
        rw [List.length_append, List.length_map, List.length_append, List.length_append, List.length_append]
        show e < ((12 + (gs.length + (gs.length + (gs.length + gs.length))) : Nat) : Int)
        omega)
      obtain ⟨d, hd, hs⟩ := (all7.mono S8.S) x hm
      exact ⟨b3, _, e, x, rfl, rfl, .inl (.inl (S8.at h7 nb3)), hx, q x d H8 (S7.trans S8) hd hs⟩
end
end Bt

namespace Bt
open PySem PySem.Spec PyProof.Rows L2
/-! ### defs that may call repr: no repr is under way -/
structure RoomG (k : Nat) (A : Around) : Prop where
  r : Room k A
  g : A.guards = some []
theorem RoomG.deeper {k : Nat} {A : Around} (h : RoomG (k + 1) A) (env : Env) : RoomG k (A.deeper env) := ⟨h.r.deeper env, h.g⟩
theorem RoomG.mono {j k : Nat} {A : Around} (h : RoomG k A) (l : j ≤ k) : RoomG j A := ⟨h.r.mono l, h.g⟩
structure FnG (P : Program) (w : World) (K : PySem.W.Frag) (mg : Str → Option Value) (base : Heap) (CX : CXT) (k : Nat) (f : Addr) (fd : FuncData) (ps : List Str) (sp : Sp) : Prop where
  len : ∀ vs H Q E, sp vs H Q E → vs.length = ps.length
  run : ∀ (A : Around) (outer : List Env) (s : Shared) (H : Hp) (args : Args) (us : List Value) (vs : List V) (Q : VK) (E : XK), RoomG k A → Env0 P w K mg base A outer s H → BindsTo s fd args (ps.zip us) → Vals vs us → sp vs H Q E →
    codeAny (model P w) A (.call (.ref f) args) (CR CX outer P w H s Q E) s
abbrev FGo (P : Program) (w : World) (K : PySem.W.Frag) (mg : Str → Option Value) (base : Heap) (CX : CXT) (k : Nat) (f : Addr) (ps : List Str) (sp : Sp) : Prop := FnG P w K mg base CX k f (fdAt K f) ps sp
section
variable {P : Program} {w : World} {K : PySem.W.Frag} {mg : Str → Option Value} {base : Heap} {x qual : Str} {params : Arguments} {body : List Stmt} {scope : Scope} {dvs : List V} {kws : List (Str × V)} {f : Addr} {fd : FuncData}
theorem okG {CX : CXT} {N ps : List Str} {k : Nat} {sp : Sp} (F : FunD K x qual params body scope dvs kws f fd) (S : FnScope N ps scope) (len : ∀ vs H Q E, sp vs H Q E → vs.length = ps.length)
    (hbody : ∀ (cdv : Value) (A : Around) (outer : List Env) (s : Shared) (H : Hp) (vs : List V) (Q : VK) (E : XK), RoomG k (A.deeper (envOfC qual scope s.heap.objs.size f cdv)) → sp vs H Q E →
      ∃ t, PSs (cxOf CX P w K mg base N qual scope f cdv A outer s H E) body t ∧ t { nx := fun _ H' => Q .non H', rt := Q } (start N vs) H) : FnG P w K mg base CX (k + 1) f fd ps sp := by
  obtain ⟨oc, od, dV, kV, doc, pm, an, cdv, ct, osl, rfl, lk, hcd, _, _⟩ := F.ex
  refine ⟨len, fun A outer s H args us vs Q E hr e0 hb r hsp => ?_⟩
  have hl := len _ _ _ _ hsp
  have KX : K.In s.heap := e0.mod.kin.keeps fun b o e => (e0.bs b o e).1
  have lim : s.heap.NoLimit := e0.mod.nolimit.keeps fun b o e => (e0.bs b o e).1
  have hkind : ∀ y ∈ ps.zip us, scope.names.lookup y.1 = some .local ∨ (scope.names.lookup y.1 = some .cell ∧ ((cellsFrom (s.heap.objs.size + 1) scope.names []).lookup y.1).isSome = true) := fun ⟨n, v⟩ hy =>
    (S.par n (List.of_mem_zip hy).1).imp id fun q => ⟨q, PySem.W.cellsFrom_some _ _ _ (.inl q)⟩
  refine codeAny_call_function hr.r.depth (KX _ _ lk) rfl S.co S.gen rfl (PySem.W.codeRec_of KX hcd) (hb _ _ _ _ (wpAny_newFunctionEnv_cells S.kind hkind fun env he s1 y => ?_))
  subst he
  refine ⟨lim.keeps y.toInCall.keep, codeAny_func ?_⟩
  obtain ⟨t, ht, hq⟩ := hbody cdv A outer s H vs Q E (hr.deeper _) hsp
  have I : Inv (cxOf CX P w K mg base N qual scope f cdv A outer s H E) [] (start N vs) H s1 := inv_start S hr.r.hd e0 hl r y
  refine wpAny_mono (ht.run [] s1 (start N vs) H _ I hq) (fun fl s' hs => ?_) fun e s' hs => hs
  cases fl with
  | ret u =>
    obtain ⟨v, σ', H', J, rv, q⟩ := hs
    exact ⟨v, H', J.os, J.bare, J.base, J.hok, rv, q⟩
  | next =>
    obtain ⟨σ', H', J, q⟩ := hs
    exact ⟨.non, H', J.os, J.bare, J.base, J.hok, rfl, q⟩
  | brk =>
    obtain ⟨_, _, _, q⟩ := hs
    exact q.elim
  | cont =>
    obtain ⟨_, _, _, q⟩ := hs
    exact q.elim
end
section
variable {X : Cx} {CX : CXT} {k : Nat} {f : Addr} {fd : FuncData} {ps : List Str} {sp : Sp} {dvs : List V} {ds : List Value} {E : XK} {x : Str} {p pos : Pos} {e : Expr} {es : List Expr} {t : TA}
/-- f(e, ..), f such a def -/
theorem pe_callG (F : FnG X.prog X.w X.K X.mg X.base CX k f fd ps sp) (hr : RoomG k X.A) (hg : Gl X x) (hm : X.mg x = some (.ref f)) (hk : PySem.W.keepIn X.K (.ref f) = true) (hb : Binds X.K fd ps ds) (hd : Vals dvs ds) (hx : Passes CX X E)
    (ha : PA X (e :: es) t) (hdb : (x == ("__debug__" : Str)) = false := by decide) (he : starEach (e :: es) X.env = (false, eval e X.env) :: starEach es X.env := by rfl) (hpl : (backTo pos (starEach es X.env)).any (·.1) = false := by rfl) :
    PE X (.Call (.Name x p) (e :: es) [] pos) (tCall sp dvs E t) := by
  refine ⟨fun pins s σ H Q I h => ?_⟩
  refine wpAny_Call_Name_kw (ld_glob I hg hm ?_ hdb)
  refine PySem.W.callWith_K (h₀ := X.base) I.ok.mod.kin hk (thn (ha.run pos pins s σ H _ I h) fun us s1 ⟨vs, H1, I1, r, q⟩ => ⟨I1.kIn, ?_⟩) he hpl
  have r2 : Vals (vs ++ dvs) (us ++ ds) := r.append hd
  have hl : (us ++ ds).length = ps.length := by rw [← r2.length]; exact F.len _ _ _ _ q
  refine wpAny_call (codeAny_mono (F.run X.A X.stack s1 H1 ⟨us, []⟩ (us ++ ds) (vs ++ dvs) Q E hr I1.env0 (hb s1 us I1.kIn hl) r2 q) fun r s' hq => ?_)
  cases r with
  | error e => exact hx pins σ H1 s1 e s' I1 hq
  | ok fl =>
    cases fl with
    | ret u => exact I1.after hq
    | next => exact False.elim hq
    | brk => exact False.elim hq
    | cont => exact False.elim hq
end

/-! ### repr(x), x data -/
theorem dp_noDict : ∀ {K : PySem.W.Frag} {H : Hp} (d : PyData) (v : V), Dp K H v d → d.hasDict = false
  | _, _, .none, _, _ => rfl
  | _, _, .bool _, _, _ => rfl
  | _, _, .int _, _, _ => rfl
  | _, _, .str _, _, _ => rfl
  | K, H, .list ds, v, h => by
    cases h with
    | lst h1 h2 =>
      rw [PyData.hasDict]
      exact all ds _ h2
  | K, H, .tuple ds, v, h => by
    cases h with
    | tup h1 h2 =>
      rw [PyData.hasDict]
      exact all ds _ h2
  | _, _, .dict _, _, h => by cases h
where
  all : ∀ {K : PySem.W.Frag} {H : Hp} (ds : List PyData) (vs : List V), DpAll K H vs ds → PyData.hasDictAll ds = false
    | _, _, [], _, _ => by rw [PyData.hasDictAll]
    | K, H, d :: ds, _, h => by
      cases h with
      | cons h1 h2 =>
        rw [PyData.hasDictAll, dp_noDict d _ h1, all ds _ h2]
        rfl
def rRepr (K : PySem.W.Frag) : List V → Hp → VK → Prop := fun vs H Q => ∃ v d, vs = [v] ∧ TD K H v d ∧ d.showable = true ∧ d.shown.length ≤ sizeLine ∧ d.depth ≤ 30 ∧ Q (.str d.shown) H
theorem cr_repr {X : Cx} (hg : X.A.guards = some []) (hu : X.A.units + 64 < cLine) : CallR X (.builtin "repr") (rRepr X.K) := by
  intro pins s σ H xs us Q I r h
  obtain ⟨v, d, rfl, hd, hs, hz, hdep, q⟩ := h
  obtain ⟨u, rfl, rv⟩ := vals1 r
  rcases hd with hd | ⟨a, rfl, ha, rfl⟩
  · have hnd := dp_noDict d v hd
    cases d with
    | none =>
      cases hd
      cases rv
      exact PySem.P.repr_of_none ⟨.str _, H, I.tok _, ⟨_, rfl⟩, q⟩
    | bool b =>
      cases hd
      cases rv
      exact PySem.P.repr_of_bool ⟨.str _, H, I.tok _, ⟨_, rfl⟩, q⟩
    | int i =>
      cases hd
      obtain ⟨t, rfl⟩ := rv
      exact PySem.P.repr_of_int (by rw [PyData.showable] at hs; exact of_decide_eq_true hs) ⟨.str _, H, I.tok _, ⟨_, rfl⟩, q⟩
    | str z =>
      cases hd
      obtain ⟨t, rfl⟩ := rv
      exact PySem.P.repr_of_str ⟨.str _, H, I.tok _, ⟨_, rfl⟩, q⟩ (by rw [PyData.shown] at hz; exact hz)
    | list ds =>
      obtain ⟨as, hR⟩ := Dp.reads I _ _ _ hd rv
      obtain ⟨a, _, rfl, _⟩ := hd.lstI
      cases rv
      exact repr_of_reads' hR hs (PyData.noDict_hsm hnd) hg (by omega) (fun _ _ e => e) (fun h' u tk k => ⟨.str _, H, I.kept k, ⟨_, rfl⟩, q⟩) hz
    | tuple ds =>
      obtain ⟨as, hR⟩ := Dp.reads I _ _ _ hd rv
      obtain ⟨a, _, rfl, _⟩ := hd.tupI
      cases rv
      exact repr_of_reads' hR hs (PyData.noDict_hsm hnd) hg (by omega) (fun _ _ e => e) (fun h' u tk k => ⟨.str _, H, I.kept k, ⟨_, rfl⟩, q⟩) hz
    | dict _ => cases hd
  · cases rv
    obtain ⟨_, lo, vs, rel, dd⟩ := dk_of I.hok ha
    cases rel
    have hR : Reads s.heap (.ref a) (.dict []) (a :: [] ++ []) := by
      obtain ⟨o, es, ep, ho, ex, hdat, _, prs, _⟩ := dd
      have he : es.toList = [] := by
        generalize es.toList = l at prs
        cases prs
        rfl
      refine .dict ho ex.1 hdat ?_ ?_
      · rw [he]
        exact .nil
      · rw [he]
        exact .nil
    refine repr_of_reads' hR hs (fun _ hm => ?_) hg (by omega) (fun _ _ e => e) (fun h' u tk k => ⟨.str _, H, I.kept k, ⟨_, rfl⟩, q⟩) hz
    have e : sysModules = a := by simpa using hm
    rw [← e] at lo
    simp at lo
end Bt

namespace Bt
open PySem PySem.Spec PyProof.Rows L2
/-! ### what is due -/
structure ShowOk (d : PyData) : Prop where
  s : d.showable = true
  l : d.shown.length ≤ 2000
  p : d.depth ≤ 30
  o : PyData.strOk d.shown = true
theorem int_strOk (i : Int) : PyData.strOk (Str.ofString (toString i)) = true := by
  unfold PyData.strOk
  rw [Array.all_eq_true_iff_forall_mem]
  intro c hc
  by_cases h : c < 0x110000
  · exact decide_eq_true h
  · exact absurd (Array.mem_toList_iff.mpr hc) (PyProof.Rows.int_text_free' c ⟨by omega, .inr (by omega)⟩ i)
theorem NumT.show {d : PyData} (h : NumT d) : ShowOk d := by
  rcases h with ⟨i, rfl, hi⟩ | ⟨b, rfl⟩ | rfl | rfl | rfl | rfl | rfl | rfl
  · have hl : i.natAbs.log2 < 1920 := by
      by_cases h0 : i.natAbs = 0
      · rw [h0]
        decide
      · have := (Nat.log2_lt h0).mpr hi
        omega
    refine ⟨by rw [PyData.showable]; exact decide_eq_true hl, ?_, by simp [PyData.depth], ?_⟩
    · rw [PyData.shown]
      have := PyProof.Rows.int_text_len_1921 hl
      exact Nat.le_trans this (by decide)
    · rw [PyData.shown]
      exact int_strOk i
  · cases b <;> exact ⟨by rfl, by decide +kernel, by simp [PyData.depth], by decide +kernel⟩
  · exact ⟨by rfl, by decide +kernel, by simp [PyData.depth], by decide +kernel⟩
  · exact ⟨by rfl, by decide +kernel, by simp [PyData.depth], by decide +kernel⟩
  · exact ⟨by rfl, by decide +kernel, by simp [PyData.depth], by decide +kernel⟩
  · exact ⟨by decide +kernel, by decide +kernel, by simp [PyData.depth, PyData.depthAll], by decide +kernel⟩
  · exact ⟨by decide +kernel, by decide +kernel, by simp [PyData.depth, PyData.depthAll], by decide +kernel⟩
  · exact ⟨by decide +kernel, by decide +kernel, by simp [PyData.depth, PyData.depthKv], by decide +kernel⟩
/-- the things of a list -/
structure TDs (K : PySem.W.Frag) (H : Hp) (xs : List V) (ds : List PyData) : Prop where
  l : xs.length = ds.length
  at_ : ∀ (i : Nat) (v : V), xs[i]? = some v → ∃ d, ds[i]? = some d ∧ TD K H v d
theorem TDs.mono {K : PySem.W.Frag} {H H' : Hp} {xs : List V} {ds : List PyData} (h : TDs K H xs ds) (S : Same H H') : TDs K H' xs ds :=
  ⟨h.l, fun i v e => by obtain ⟨d, e1, e2⟩ := h.at_ i v e; exact ⟨d, e1, e2.mono S⟩⟩
def beadDue (d : PyData) : PyData := .tuple [.str "bead", .str d.shown]
def firstN (r : Row) : List PyData → List PyData
  | [] => []
  | d :: ds => if isBd r d = true then firstN r ds else [beadDue d]
/-- a new list of data -/
def NewL (K : PySem.W.Frag) (H : Hp) (Q : VK) (ds : List PyData) : Prop := ∀ b vs H', H b = none → Same H H' → H' b = some (.lst vs) → DpAll K H' vs ds → Q (.ref b) H'
theorem NewL.mono {K : PySem.W.Frag} {H H' : Hp} {Q : VK} {ds : List PyData} (h : NewL K H Q ds) (S : Same H H') : NewL K H' Q ds := fun b vs H2 hb S2 e a => h b vs H2 (S.free hb) (S.trans S2) e a
def spFirst (K : PySem.W.Frag) : Sp := fun vs H Q E => ∃ m l r xs ds, vs = [m, .ref l] ∧ Md K H m r ∧ SqL K H l xs ∧ TDs K H xs ds ∧ (∀ d ∈ ds, ShowOk d) ∧ NewL K H Q (firstN r ds)
theorem firstN_drop {r : Row} : ∀ {ds : List PyData} {i : Nat}, (∀ (j : Nat) (d : PyData), j < i → ds[j]? = some d → isBd r d = true) → firstN r ds = firstN r (ds.drop i)
  | _, 0, _ => by rw [List.drop_zero]
  | [], i + 1, _ => by rw [List.drop_nil]
  | d :: ds, i + 1, h => by
    have h0 := h 0 d (by omega) rfl
    show (if isBd r d = true then firstN r ds else [beadDue d]) = firstN r (ds.drop i)
    rw [if_pos h0]
    exact firstN_drop fun j e hj he => h (j + 1) e (by omega) (by simpa using he)
section
variable {P : Program} {w : World} {K : PySem.W.Frag} {mg : Str → Option Value} {base : Heap}
theorem ok__law_first_none (T : Txt K mg) : FGo P w K mg base (L2.CX P w) 3 (a__law_first_none K) ["_law_model", "_law_some"] (spFirst K) := by
  refine okG T.d__law_first_none sc__law_first_none (fun vs H Q E h => ?_) (fun cdv A outer s H vs Q E hr h => ?_)
  · obtain ⟨m, l, r, xs, ds, rfl, _⟩ := h
    rfl
  · obtain ⟨m, l, r, xs, ds, rfl, hM, hL, hT, hS, q⟩ := h
    have G__law_is_bead := ok__law_is_bead (P := P) (w := w) (base := base) T
    refine ⟨_, (pss_cons (ps_for (passes_of rfl) rfl (pi_list (pv 1)) (pg_name (i := 2) sc__law_first_none.nd rfl (Or.inl rfl)) (pss_one (ps_if (pt_not (pt_val (pe_call G__law_is_bead (hr.r.mono (by decide)) rfl T.g__law_is_bead T.d__law_is_bead.kp T.b__law_is_bead .nil passE (pa_cons (pv 0) (pa_cons (pv 2) pa_nil))))) (pss_one (ps_ret (pe_lst (pa_cons (pe_tup (pa_cons pe_str (pa_cons (pe_callB (id := "repr") (cr_repr hr.g hr.r.units) (by rfl) T.f_repr (by decide +kernel) (pa_cons (pv 2) pa_nil)) pa_nil))) pa_nil)))) pss_nil))) (pss_one (ps_ret (pe_lst pa_nil)))), ?_⟩
    refine ⟨_, rfl, l, rfl, ⟨_, hL⟩, ?_⟩
    refine for_it (walk_list (K := K) (a := l) (xs := xs)) (fun i σ H' => ∃ x, σ = [some m, some (.ref l), x] ∧ H' = H ∧ ∀ (j : Nat) (d : PyData), j < i → ds[j]? = some d → isBd r d = true) ⟨none, rfl, rfl, fun j d hj => by omega⟩ (fun i σ H' _ ⟨_, _, e, _⟩ => by rw [e]; exact hL) ?_ ?_
    · rintro i x σ H1 H2 hi ⟨x0, rfl, rfl, hb⟩ ⟨rfl, hx⟩
      obtain ⟨d, hd, ht⟩ := hT.at_ i x hx
      have sd := hS d (List.mem_of_getElem? hd)
      refine ⟨_, rfl, _, rfl, m, x, d, r, rfl, hM, ht, _, rfl, ?_⟩
      cases c : isBd r d with
      | true =>
        refine iteF ⟨_, rfl, rfl, fun j e hj he => ?_⟩
        by_cases cj : j = i
        · subst cj
          rw [hd] at he
          have := Option.some.inj he
          rw [← this]
          exact c
        · exact hb j e (by omega) he
      | false =>
        refine iteT ?_
        have ef : firstN r ds = [beadDue d] := by
          rw [firstN_drop hb]
          have : ds.drop i = d :: ds.drop (i + 1) := by
            have hil := (List.getElem?_eq_some_iff.mp hd)
            rw [List.drop_eq_getElem_cons hil.1, hil.2]
          rw [this]
          show (if isBd r d = true then firstN r (ds.drop (i + 1)) else [beadDue d]) = _
          rw [c]
          rfl
        refine ⟨_, rfl, x, d, rfl, ht, sd.s, le_line (by have := sd.l; omega), sd.p, (by show 2 ≤ sizeLine; decide), fun t ht' => ?_⟩
        have S1 : Same H2 (upd H2 t (.tup [.str "bead", .str d.shown])) := same_new ht'
        have h1 : (upd H2 t (.tup [.str "bead", .str d.shown])) t = some (.tup [.str "bead", .str d.shown]) := upd_same
        generalize upd H2 t (.tup [.str "bead", .str d.shown]) = H3 at S1 h1
        refine ⟨(by show 1 ≤ sizeLine; decide), fun b hb' => ?_⟩
        rw [ef] at q
        exact q b [.ref t] _ (S1.free hb') (S1.trans (same_new hb')) upd_same (.cons (.tup (SqT.of (by rw [upd_ne (ne_of_none h1 hb')]; exact h1)) (.cons (.str _) (.cons (.str _) .nil))) .nil)
    · rintro σ H1 ⟨x0, rfl, rfl, hb⟩
      refine ⟨(by show 0 ≤ sizeLine; decide), fun b hb' => ?_⟩
      have ef : firstN r ds = [] := by
        rw [firstN_drop hb, hT.l, List.drop_length]
        rfl
      rw [ef] at q
      exact q b [] _ hb' (same_new hb') upd_same .nil
end
end Bt

namespace Bt
open PySem PySem.Spec PyProof.Rows L2
def tagD (z : Str) : PyData := .tuple [.str z]
def tagIf (z : Str) (c : Bool) : List PyData := if c = true then [tagD z] else []
theorem isBd_int {r : Row} {d : PyData} (h : isBd r d = true) : ∃ n : Nat, d = .int (n : Nat) ∧ n < r.length := by
  cases d with
  | int i =>
    have h' : (decide (0 ≤ i) && decide (i < (r.length : Nat))) = true := h
    rw [Bool.and_eq_true] at h'
    have h0 := of_decide_eq_true h'.1
    have h1 := of_decide_eq_true h'.2
    exact ⟨i.toNat, by rw [Int.toNat_of_nonneg h0], by omega⟩
  | _ => cases h
theorem td_n {K : PySem.W.Frag} {H : Hp} {v : V} {n : Nat} (h : TD K H v (.int (n : Nat))) : v = .int ((n : Nat) : Int) := by
  rcases h with h | ⟨_, _, _, e⟩
  · exact h.intI
  · cases e
theorem rep_go {l : Addr} {v : V} {c : Bool} {H : Hp} {Q : VK} (h : H l = some (.lst [v])) (k : ∀ p, H p = none → Q (.ref p) (upd H p (.lst (if c = true then [v] else [])))) : rRep (.ref l) (.int (if c = true then 1 else 0)) H Q := by
  refine ⟨l, _, [v], rfl, rfl, h, by split <;> decide, by split <;> decide, ?_, fun p hp => ?_⟩
  · cases c
    · show 1 * 0 ≤ sizeLine
      exact Nat.zero_le _
    · show 1 * 1 ≤ sizeLine
      decide
  · have := k p hp
    cases c
    · exact this
    · exact this
/-- a due list can be compared -/
structure DueOk (d : PyData) : Prop where
  c : d.canLay0 = true
  p : d.depth ≤ 10
theorem due_shaped {ds : List PyData} (h : ∀ d ∈ ds, DueOk d) : SeqAt.shaped (.list ds) = true := by
  have h1 : ∀ l : List PyData, (∀ d ∈ l, DueOk d) → PyData.canLayAll0 l = true := fun l => by
    induction l with
    | nil => intro _; rfl
    | cons n l ih =>
      intro h
      show (n.canLay0 && PyData.canLayAll0 l) = true
      rw [ih fun d hd => h d (List.mem_cons_of_mem _ hd), (h n (List.mem_cons_self ..)).c]
      rfl
  have h2 : ∀ l : List PyData, (∀ d ∈ l, DueOk d) → PyData.depthAll l ≤ 10 := fun l => by
    induction l with
    | nil => intro _; simp [PyData.depthAll]
    | cons n l ih =>
      intro h
      rw [PyData.depthAll]
      have := ih fun d hd => h d (List.mem_cons_of_mem _ hd)
      have := (h n (List.mem_cons_self ..)).p
      omega
  show (PyData.canLayAll0 ds && decide ((PyData.list ds).depth ≤ 64)) = true
  rw [h1 ds h, Bool.true_and]
  refine decide_eq_true ?_
  rw [PyData.depth]
  have := h2 ds h
  omega
theorem eqv_nil' (ds : List PyData) : PyData.eqv (.list ds) (.list []) = decide (ds = []) := by
  cases ds with
  | nil => simp [PyData.eqv, PyData.eqvAll]
  | cons n ds => simp [PyData.eqv, PyData.eqvAll]
theorem beadDue_ok {d : PyData} (h : ShowOk d) : DueOk (beadDue d) := by
  refine ⟨?_, by simp [beadDue, PyData.depth, PyData.depthAll]⟩
  show (PyData.strOk "bead" && (PyData.strOk d.shown && true)) = true
  rw [h.o]
  decide +kernel
theorem first_ok {r : Row} : ∀ {ds : List PyData}, (∀ d ∈ ds, ShowOk d) → ∀ e ∈ firstN r ds, DueOk e
  | [], _, e, he => by cases he
  | d :: ds, h, e, he => by
    have he' : e ∈ (if isBd r d = true then firstN r ds else [beadDue d]) := he
    by_cases c : isBd r d = true
    · rw [if_pos c] at he'
      exact first_ok (fun x hx => h x (List.mem_cons_of_mem _ hx)) e he'
    · rw [if_neg c] at he'
      have : e = beadDue d := by simpa using he'
      rw [this]
      exact beadDue_ok (h d (List.mem_cons_self ..))
theorem firstN_nil {r : Row} : ∀ {ds : List PyData}, firstN r ds = [] → ∀ d ∈ ds, isBd r d = true
  | [], _, d, hd => by cases hd
  | x :: ds, h, d, hd => by
    have h' : (if isBd r x = true then firstN r ds else [beadDue x]) = [] := h
    by_cases c : isBd r x = true
    · rw [if_pos c] at h'
      rcases List.mem_cons.mp hd with e | hd
      · rw [e]
        exact c
      · exact firstN_nil h' d hd
    · rw [if_neg c] at h'
      cases h'
theorem TDs.take {K : PySem.W.Frag} {H : Hp} {xs : List V} {ds : List PyData} (h : TDs K H xs ds) (n : Nat) : TDs K H (xs.take n) (ds.take n) := by
  refine ⟨by rw [List.length_take, List.length_take, h.l], fun i v e => ?_⟩
  rw [List.getElem?_take] at e
  by_cases c : i < n
  · rw [if_pos c] at e
    obtain ⟨d, e1, e2⟩ := h.at_ i v e
    exact ⟨d, by rw [List.getElem?_take, if_pos c]; exact e1, e2⟩
  · rw [if_neg c] at e
    cases e
theorem TDs.drop {K : PySem.W.Frag} {H : Hp} {xs : List V} {ds : List PyData} (h : TDs K H xs ds) (n : Nat) : TDs K H (xs.drop n) (ds.drop n) := by
  refine ⟨by rw [List.length_drop, List.length_drop, h.l], fun i v e => ?_⟩
  rw [List.getElem?_drop] at e
  obtain ⟨d, e1, e2⟩ := h.at_ _ v e
  exact ⟨d, by rw [List.getElem?_drop]; exact e1, e2⟩
def othersL (r : Row) (n p : Nat) : List Nat := (kidsL r p).filter fun k => decide (k ≠ n)
def nOf : PyData → Nat
  | .int i => i.toNat
  | _ => 0
def dueGraft (r : Row) (ds : List PyData) : List PyData :=
  if firstN r (ds.take 2) = [] then tagIf "within" (decide (nOf (ds.getD 1 .none) ∈ arcL r (nOf (ds.getD 0 .none)))) ++ tagIf "number" (!dCount (ds.getD 2 .none) 0 ((othersL r (nOf (ds.getD 0 .none)) (nOf (ds.getD 1 .none))).length : Nat)) else firstN r (ds.take 2)
def spDue (K : PySem.W.Frag) (f : Row → List PyData → List PyData) (k j : Nat) : Sp := fun vs H Q E => ∃ m l r xs ds, vs = [m, .ref l] ∧ Md K H m r ∧ Good r ∧ H l = some (.lst xs) ∧ TDs K H xs ds ∧ ds.length = k ∧ (∀ d ∈ ds.take j, ShowOk d) ∧ NewL K H Q (f r ds)
theorem three_of {α : Type} : ∀ {l : List α}, l.length = 3 → ∃ a b c, l = [a, b, c]
  | [a, b, c], _ => ⟨a, b, c, rfl⟩
  | [], h => by simp at h
  | [_], h => by simp at h
  | [_, _], h => by simp at h
  | _ :: _ :: _ :: _ :: _, h => by simp at h
theorem tds3 {K : PySem.W.Frag} {H : Hp} {x0 x1 x2 : V} {d0 d1 d2 : PyData} (h : TDs K H [x0, x1, x2] [d0, d1, d2]) : TD K H x0 d0 ∧ TD K H x1 d1 ∧ TD K H x2 d2 := by
  obtain ⟨e0, a0, t0⟩ := h.at_ 0 x0 rfl
  obtain ⟨e1, a1, t1⟩ := h.at_ 1 x1 rfl
  obtain ⟨e2, a2, t2⟩ := h.at_ 2 x2 rfl
  have b0 : d0 = e0 := Option.some.inj a0
  have b1 : d1 = e1 := Option.some.inj a1
  have b2 : d2 = e2 := Option.some.inj a2
  rw [b0, b1, b2]
  exact ⟨t0, t1, t2⟩
theorem arc_le1000 {r : Row} (g : Good r) (n : Nat) : (arcL r n).length ≤ 1000 := by
  rw [arcL_len]
  have h1 := arcLen_le r n
  have h2 := g.le
  omega
theorem tag_dp {K : PySem.W.Frag} {H : Hp} {t : Addr} {z : Str} {c : Bool} (h : SqT K H t [.str z]) : DpAll K H (if c = true then [V.ref t] else []) (tagIf z c) := by
  cases c with
  | false => exact .nil
  | true => exact .cons (.tup h (.cons (.str _) .nil)) .nil
theorem dp_app {K : PySem.W.Frag} {H : Hp} : ∀ {vs ws : List V} {ds es : List PyData}, DpAll K H vs ds → DpAll K H ws es → DpAll K H (vs ++ ws) (ds ++ es)
  | _, _, _, _, .nil, h => h
  | _, _, _, _, .cons h t, g => .cons h (dp_app t g)
theorem fmap_filterN {β : Type} (p : Nat → Bool) (f : Nat → β) : ∀ ns : List Nat, (ns.map fun n => if p n = true then some (f n) else none).filterMap id = (ns.filter p).map f
  | [] => rfl
  | n :: ns => by
    have ih := fmap_filterN p f ns
    rw [List.map_cons, List.filter_cons]
    by_cases h : p n = true
    · rw [if_pos h, if_pos h, List.filterMap_cons, ih]
      rfl
    · rw [if_neg h, if_neg h, List.filterMap_cons, ih]
      rfl
section
variable {P : Program} {w : World} {K : PySem.W.Frag} {mg : Str → Option Value} {base : Heap}
theorem ok__law_due_graft (T : Txt K mg) : FGo P w K mg base (L2.CX P w) 4 (a__law_due_graft K) ["_law_model", "_law_some"] (spDue K dueGraft 3 2) := by
  refine okG T.d__law_due_graft sc__law_due_graft (fun vs H Q E h => ?_) (fun cdv A outer s H vs Q E hr h => ?_)
  · obtain ⟨m, l, r, xs, ds, rfl, _⟩ := h
    rfl
  · obtain ⟨m, l, r, xs, ds, rfl, hM, g, hL, hT, hdl, hS, q⟩ := h
    have G__law_first_none := ok__law_first_none (P := P) (w := w) (base := base) T
    have G__law_is_count := ok__law_is_count (P := P) (w := w) (base := base) T
    have G__law_read := ok__law_read (P := P) (w := w) (base := base) T
    refine ⟨_, (pss_cons (ps_set (i := 2) sc__law_due_graft.nd rfl (Or.inl rfl) (pe_callG G__law_first_none (hr.mono (by decide)) rfl T.g__law_first_none T.d__law_first_none.kp T.b__law_first_none .nil passE (pa_cons (pv 0) (pa_cons (pe_slice sl_list (pv 1) po_none (po_some pe_int)) pa_nil)))) (pss_cons (ps_if (pt_cmpR (op_eqD hr.r.units) (pv 2) (pe_lst pa_nil) (nomark _)) (pss_cons (ps_setLc (i := 3) (own := [("_law_one", 4)]) (g := gName 4) rfl sc__law_due_graft.nd rfl rfl (sw_true rfl rfl rfl (by decide +kernel)) (pi_list (pe_dget (hu_of hr.r) (pe_dget (hu_of hr.r) (pv 0) pe_str (fun _ _ => rfl)) (pe_ix ix_list (pv 1) pe_int (fun _ _ => rfl)) (fun _ _ => rfl))) (blkOk_by (own := [("_law_one", 4)]) (N := ["_law_model", "_law_some", "_law_due_here", "_law_others", "_law_one"]) (sc := defScope s__law_due_graft) (by decide +kernel)) (fun _ _ _ _ _ => pg_name (i := 4) sc__law_due_graft.nd rfl (Or.inl rfl)) (fun _ _ _ _ _ => pts_one (pt_cmpR op_ne (pv 4) (pe_ix (ix_listK (K := K)) (pv 1) pe_int (fun _ _ => rfl)) (nomark _))) (fun _ _ _ _ _ => (pv 4))) (pss_cons (ps_set (i := 2) sc__law_due_graft.nd rfl (Or.inl rfl) (pe_op op_rep (pe_lst (pa_cons (pe_tup (pa_cons pe_str pa_nil)) pa_nil)) (pe_callTy (T := "int") call_int1 (by rfl) T.f_int (by decide +kernel) (pa_cons (pe_cmpR op_in_seq (pe_ix ix_list (pv 1) pe_int (fun _ _ => rfl)) (pe_call G__law_read (hr.r.mono (by decide)) rfl T.g__law_read T.d__law_read.kp T.b__law_read .nil passE (pa_cons (pv 0) (pa_cons (pe_lst (pa_cons (pe_ix ix_list (pv 1) pe_int (fun _ _ => rfl)) pa_nil)) pa_nil))) rfl) pa_nil)))) (pss_one (ps_set (i := 2) sc__law_due_graft.nd rfl (Or.inl rfl) (pe_op op_cat (pv 2) (pe_op op_rep (pe_lst (pa_cons (pe_tup (pa_cons pe_str pa_nil)) pa_nil)) (pe_callTy (T := "int") call_int1 (by rfl) T.f_int (by decide +kernel) (pa_cons (pe_not (pe_call G__law_is_count (hr.r.mono (by decide)) rfl T.g__law_is_count T.d__law_is_count.kp T.b__law_is_count .nil passE (pa_cons (pe_ix ix_list (pv 1) pe_int (fun _ _ => rfl)) (pa_cons pe_int (pa_cons (pe_callB (id := "len") call_len (by rfl) T.f_len (by decide +kernel) (pa_cons (pv 3) pa_nil)) pa_nil))))) pa_nil)))))))) pss_nil) (pss_one (ps_ret (pv 2))))), ?_⟩
    have hxl : xs.length = 3 := by rw [hT.l, hdl]
    refine ⟨_, rfl, _, rfl, np ⟨_, rfl, ?_⟩⟩
    refine sll_go (hi := some ((2 : Nat) : Int)) (.inl (.inl hL)) fun b H1 hb S1 hB => ?_
    rw [cut_take (by omega)] at hB
    refine ⟨m, b, r, xs.take 2, ds.take 2, rfl, hM.mono S1, .inl (.inl hB), (hT.mono S1).take 2, hS, fun u us H2 hu S2 hU hUd => ?_⟩
    have S12 := S1.trans S2
    have du := first_ok (r := r) hS
    have hUd' := hUd
    refine ⟨_, rfl, (by show 0 ≤ sizeLine; decide), fun e0 he0 => ?_⟩
    have S3 : Same H2 (upd H2 e0 (.lst [])) := same_new he0
    have hE3 : (upd H2 e0 (.lst [])) e0 = some (.lst []) := upd_same
    generalize upd H2 e0 (.lst []) = H3 at S3 hE3
    have S13 := S12.trans S3
    refine ⟨_, _, .lst (.inl (.inl (S3 _ _ hU))) (hUd.mono S3), .lst (.inl (.inl hE3)) .nil, due_shaped du, due_shaped (ds := []) (fun d hd => by cases hd), _, rfl, ?_⟩
    rw [eqv_nil']
    obtain ⟨x0, x1, x2, rfl⟩ := three_of hxl
    obtain ⟨d0, d1, d2, rfl⟩ := three_of hdl
    obtain ⟨t0, t1, t2⟩ := tds3 hT
    by_cases c : firstN r [d0, d1] = []
    · have c' : firstN r (List.take 2 [d0, d1, d2]) = [] := c
      rw [decide_eq_true c']
      refine iteT ?_
      have hbd := firstN_nil c
      obtain ⟨n, rfl, hn⟩ := isBd_int (hbd d0 (by simp))
      obtain ⟨pp, rfl, hp⟩ := isBd_int (hbd d1 (by simp))
      cases td_n t0
      cases td_n t1
      obtain ⟨ma, tl, kd, nd, kk, rfl, hM0⟩ := hM
      have hM3 := hM0.mono S13
      obtain ⟨kl, hkv, hkl⟩ := hM3.kid pp hp
      have hg1 : DGet H3 ma (.str "kids") (some (.ref kd)) := DGet.k (k := Sum.inr "kids") hM3.m
      have hg2 : DGet H3 kd (.int ((pp : Nat) : Int)) (some (.ref kl)) := by
        rw [← hkv]
        exact DGet.k (k := Sum.inl ((pp : Nat) : Int)) hM3.kd
      have hL3 := S13 _ _ hL
      refine ⟨_, rfl, ma, .ref kd, rfl, hg1, _, rfl, l, _, 1, _, rfl, rfl, .inl (.inl hL3), rfl, kd, .ref kl, rfl, hg2, kl, rfl, ⟨_, .inl (.inl hkl)⟩, fun D hD => ?_⟩
      have gkl : (kidsL r pp).length ≤ 100 := by unfold kidsL; rw [List.length_map, List.length_range]; have := dn_le g pp; omega
      refine lcg (K := K) (walk_list (K := K) (a := kl) (xs := (zs (kidsL r pp)).map V.int)) ((kidsL r pp).map fun k => if decide (k ≠ n) = true then some (.int ((k : Nat) : Int)) else none) (by unfold zs; rw [List.length_map, List.length_map, List.length_map]) (by unfold zs; rw [List.length_map, List.length_map]; omega) hD (fun d h => ?_) (fun _ S => same_l S (.inl (.inl hkl))) (fun i x H4 H4' d hi S y => ?_) (fun H4 acc S4 hD4 hP => ?_)
      · obtain ⟨k, _, e⟩ := List.mem_map.mp h
        by_cases c : decide (k ≠ n) = true
        · rw [if_pos c] at e
          rw [← Option.some.inj e]
          rfl
        · rw [if_neg c] at e
          cases e
      · obtain ⟨rfl, hx⟩ := y
        rw [List.getElem?_map] at hi hx
        cases hk : (kidsL r pp)[i]? with
        | none => rw [hk] at hi; cases hi
        | some k =>
          rw [zs_get hk] at hx
          rw [hk] at hi
          have e := Option.some.inj hx
          subst e
          have e := Option.some.inj hi
          subst e
          refine ⟨Same.refl _, fun Qn Qy hn hy => ⟨rfl, _, rfl, _, rfl, l, _, 0, _, rfl, rfl, .inl (.inl (S _ _ hL3)), rfl, rfl, _, rfl, ?_⟩⟩
          show (if (!decide (V.int ((k : Nat) : Int) = V.int ((n : Nat) : Int))) = true then _ else _)
          by_cases c : k = n
          · subst c
            rw [decide_eq_true rfl]
            refine iteF (hn ?_ _ (Same.refl _))
            exact if_neg (by simp)
          · rw [decide_eq_false (fun e => c (by have := V.int.inj e; omega))]
            refine iteT ⟨_, rfl, hy (.int ((k : Nat) : Int)) ?_ _ _ (Same.refl _) (.int _)⟩
            exact if_pos (by simpa using c)
      · rw [fmap_filterN (fun k => decide (k ≠ n)) (fun k : Nat => PyData.int ((k : Nat) : Int))] at hP
        have S14 := S13.trans S4
        have S04 := S3.trans S4
        refine ⟨(by show 1 ≤ sizeLine; decide), fun t ht => ?_⟩
        have S5 : Same H4 (upd H4 t (.tup [.str "within"])) := same_new ht
        have hT5 : (upd H4 t (.tup [.str "within"])) t = some (.tup [.str "within"]) := upd_same
        generalize upd H4 t (.tup [.str "within"]) = H5 at S5 hT5
        refine ⟨(by show 1 ≤ sizeLine; decide), fun q1 hq1 => ?_⟩
        have S6 : Same H5 (upd H5 q1 (.lst [.ref t])) := same_new hq1
        have hQ6 : (upd H5 q1 (.lst [.ref t])) q1 = some (.lst [.ref t]) := upd_same
        generalize upd H5 q1 (.lst [.ref t]) = H6 at S6 hQ6
        have S16 := S14.trans (S5.trans S6)
        refine ⟨_, rfl, l, _, 1, _, rfl, rfl, .inl (.inl (S16 _ _ hL)), rfl, ?_⟩
        refine ⟨_, rfl, _, rfl, l, _, 0, _, rfl, rfl, .inl (.inl (S16 _ _ hL)), rfl, (by show 1 ≤ sizeLine; decide), fun q2 hq2 => ?_⟩
        have S7 : Same H6 (upd H6 q2 (.lst [.int ((n : Nat) : Int)])) := same_new hq2
        have hQ7 : (upd H6 q2 (.lst [.int ((n : Nat) : Int)])) q2 = some (.lst [.int ((n : Nat) : Int)]) := upd_same
        generalize upd H6 q2 (.lst [.int ((n : Nat) : Int)]) = H7 at S7 hQ7
        have S17 := S16.trans S7
        refine ⟨.ref ma, q2, r, [n], rfl, ⟨ma, tl, kd, nd, kk, rfl, hM0.mono S17⟩, g, .inl (.inl hQ7), (fun x hx => by rw [List.mem_singleton.mp hx]; exact hn), (by rw [List.flatMap_singleton]; exact arc_le1000 g n), fun a2 H8 ha2 S8 hA8 => ?_⟩
        rw [List.flatMap_singleton] at hA8
        refine ⟨a2, _, rfl, .inl (.inl (.inl hA8)), rfl, flat_ints _, .inr ⟨_, rfl, ?_⟩⟩
        have ei : inV (.int ((pp : Nat) : Int)) ((zs (arcL r n)).map V.int) = decide (pp ∈ arcL r n) := by
          rw [inV_int]
          exact decide_eq_decide.mpr mem_zs
        show rRep (.ref q1) (.int (if inV (.int ((pp : Nat) : Int)) ((zs (arcL r n)).map V.int) = true then 1 else 0)) H8 _
        rw [ei]
        refine rep_go ((S7.trans S8) _ _ hQ6) fun g1 hg1' => ?_
        have S9 := same_new hg1' (o := HO.lst (if decide (pp ∈ arcL r n) = true then [.ref t] else []))
        have hG9 : (upd H8 g1 (.lst (if decide (pp ∈ arcL r n) = true then [V.ref t] else []))) g1 = some (.lst (if decide (pp ∈ arcL r n) = true then [.ref t] else [])) := upd_same
        generalize upd H8 g1 (.lst (if decide (pp ∈ arcL r n) = true then [V.ref t] else [])) = H9 at S9 hG9
        have S19 := (S17.trans S8).trans S9
        refine ⟨_, rfl, (by show 1 ≤ sizeLine; decide), fun t3 ht3 => ?_⟩
        have S10 : Same H9 (upd H9 t3 (.tup [.str "number"])) := same_new ht3
        have hT10 : (upd H9 t3 (.tup [.str "number"])) t3 = some (.tup [.str "number"]) := upd_same
        generalize upd H9 t3 (.tup [.str "number"]) = H10 at S10 hT10
        refine ⟨(by show 1 ≤ sizeLine; decide), fun q3 hq3 => ?_⟩
        have S11 : Same H10 (upd H10 q3 (.lst [.ref t3])) := same_new hq3
        have hQ11 : (upd H10 q3 (.lst [.ref t3])) q3 = some (.lst [.ref t3]) := upd_same
        generalize upd H10 q3 (.lst [.ref t3]) = H11 at S11 hQ11
        have S1B := S19.trans (S10.trans S11)
        refine ⟨_, rfl, l, _, 2, _, rfl, rfl, .inl (.inl (S1B _ _ hL)), rfl, ?_⟩
        have hl8 : (acc).length = (othersL r n pp).length := by
          have := hP.len
          rw [List.length_map] at this
          exact this
        have hD4' : H11 D = some (.lst acc) := ((S5.trans S6).trans ((S7.trans S8).trans (S9.trans (S10.trans S11)))) _ _ hD4
        refine ⟨_, rfl, _, _, rfl, .inl ⟨acc, .inl (.inl hD4'), rfl⟩, x2, d2, 0, ((othersL r n pp).length : Nat), by rw [hl8]; rfl, t2.mono S1B, _, rfl, .inr ⟨_, rfl, ?_⟩⟩
        show rRep (.ref q3) (.int (if (!dCount d2 0 ((othersL r n pp).length : Nat)) = true then 1 else 0)) H11 _
        refine rep_go hQ11 fun g2 hg2 => ?_
        have S12 := same_new hg2 (o := HO.lst (if (!dCount d2 0 ((othersL r n pp).length : Nat)) = true then [.ref t3] else []))
        have hG12 : (upd H11 g2 (.lst (if (!dCount d2 0 ((othersL r n pp).length : Nat)) = true then [V.ref t3] else []))) g2 = some (.lst (if (!dCount d2 0 ((othersL r n pp).length : Nat)) = true then [.ref t3] else [])) := upd_same
        generalize upd H11 g2 (.lst (if (!dCount d2 0 ((othersL r n pp).length : Nat)) = true then [V.ref t3] else [])) = H12 at S12 hG12
        have S1C := S1B.trans S12
        have SB := (S10.trans S11).trans S12
        refine ⟨g1, g2, _, _, rfl, rfl, SB _ _ hG9, hG12, ?_, fun p hp => ?_⟩
        · refine le_line ?_
          split <;> split <;> simp
        · have eq : dueGraft r [.int (n : Nat), .int (pp : Nat), d2] = tagIf "within" (decide (pp ∈ arcL r n)) ++ tagIf "number" (!dCount d2 0 ((othersL r n pp).length : Nat)) := if_pos c'
          rw [eq] at q
          have SC := same_new hp (o := HO.lst ((if decide (pp ∈ arcL r n) = true then [V.ref t] else []) ++ (if (!dCount d2 0 ((othersL r n pp).length : Nat)) = true then [V.ref t3] else [])))
          refine ⟨_, rfl, q p _ _ (S1C.free hp) (S1C.trans SC) upd_same ?_⟩
          refine dp_app (tag_dp (SqT.of ?_)) (tag_dp (SqT.of ?_))
          · exact SC _ _ ((((S6.trans S7).trans S8).trans (S9.trans SB)) _ _ hT5)
          · exact SC _ _ (((S11.trans S12)) _ _ hT10)
    · have c' : ¬ firstN r (List.take 2 [d0, d1, d2]) = [] := c
      rw [decide_eq_false c']
      refine iteF ?_
      have eq : dueGraft r [d0, d1, d2] = firstN r [d0, d1] := if_neg c'
      rw [eq] at q
      exact ⟨_, rfl, q u us H3 (S1.free hu) S13 (S3 _ _ hU) (hUd.mono S3)⟩
end
end Bt

namespace Bt
open PySem PySem.Spec PyProof.Rows L2
def fullD (n : Nat) : PyData := .tuple [.str "full", .int (n : Nat)]
def fullIf (n : Nat) (c : Bool) : List PyData := if c = true then [fullD n] else []
def dueBud (room : Nat) (r : Row) (ds : List PyData) : List PyData :=
  if dName (ds.getD 0 .none) = true then
    (if firstN r ((ds.drop 1).take 1) = [] then tagIf "number" (!dCount (ds.getD 2 .none) 0 ((kidsL r (nOf (ds.getD 1 .none))).length : Nat)) ++ fullIf room (decide (r.length = room)) else firstN r ((ds.drop 1).take 1))
  else [tagD "name"]
def spDueBud (K : PySem.W.Frag) : Sp := fun vs H Q E => ∃ m l r xs ds, ∃ room : Nat, vs = [m, .ref l, .int (room : Nat)] ∧ Md K H m r ∧ Good r ∧ H l = some (.lst xs) ∧ TDs K H xs ds ∧ ds.length = 3 ∧ small (ds.getD 0 .none) = true ∧ ShowOk (ds.getD 1 .none) ∧ NewL K H Q (dueBud room r ds)
theorem full_dp {K : PySem.W.Frag} {H : Hp} {t : Addr} {n : Nat} {c : Bool} (h : SqT K H t [.str "full", .int (n : Nat)]) : DpAll K H (if c = true then [V.ref t] else []) (fullIf n c) := by
  cases c with
  | false => exact .nil
  | true => exact .cons (.tup h (.cons (.str _) (.cons (.int _) .nil))) .nil
section
variable {P : Program} {w : World} {K : PySem.W.Frag} {mg : Str → Option Value} {base : Heap}
theorem ok__law_due_bud (T : Txt K mg) : FGo P w K mg base (L2.CX P w) 4 (a__law_due_bud K) ["_law_model", "_law_some", "_law_room"] (spDueBud K) := by
  refine okG T.d__law_due_bud sc__law_due_bud (fun vs H Q E h => ?_) (fun cdv A outer s H vs Q E hr h => ?_)
  · obtain ⟨m, l, r, xs, ds, room, rfl, _⟩ := h
    rfl
  · obtain ⟨m, l, r, xs, ds, room, rfl, hM, g, hL, hT, hdl, hsm, hS, q⟩ := h
    have G__law_first_none := ok__law_first_none (P := P) (w := w) (base := base) T
    have G__law_is_count := ok__law_is_count (P := P) (w := w) (base := base) T
    have G__law_is_name := ok__law_is_name (P := P) (w := w) (base := base) T
    refine ⟨_, (pss_cons (ps_if (pt_not (pt_val (pe_call G__law_is_name (hr.r.mono (by decide)) rfl T.g__law_is_name T.d__law_is_name.kp T.b__law_is_name .nil passE (pa_cons (pe_ix ix_list (pv 1) pe_int (fun _ _ => rfl)) pa_nil)))) (pss_one (ps_ret (pe_lst (pa_cons (pe_tup (pa_cons pe_str pa_nil)) pa_nil)))) pss_nil) (pss_cons (ps_set (i := 3) sc__law_due_bud.nd rfl (Or.inl rfl) (pe_callG G__law_first_none (hr.mono (by decide)) rfl T.g__law_first_none T.d__law_first_none.kp T.b__law_first_none .nil passE (pa_cons (pv 0) (pa_cons (pe_slice sl_list (pv 1) (po_some pe_int) (po_some pe_int)) pa_nil)))) (pss_cons (ps_if (pt_cmpR (op_eqD hr.r.units) (pv 3) (pe_lst pa_nil) (nomark _)) (pss_cons (ps_set (i := 3) sc__law_due_bud.nd rfl (Or.inl rfl) (pe_op op_rep (pe_lst (pa_cons (pe_tup (pa_cons pe_str pa_nil)) pa_nil)) (pe_callTy (T := "int") call_int1 (by rfl) T.f_int (by decide +kernel) (pa_cons (pe_not (pe_call G__law_is_count (hr.r.mono (by decide)) rfl T.g__law_is_count T.d__law_is_count.kp T.b__law_is_count .nil passE (pa_cons (pe_ix ix_list (pv 1) pe_int (fun _ _ => rfl)) (pa_cons pe_int (pa_cons (pe_callB (id := "len") call_len (by rfl) T.f_len (by decide +kernel) (pa_cons (pe_dget (hu_of hr.r) (pe_dget (hu_of hr.r) (pv 0) pe_str (fun _ _ => rfl)) (pe_ix ix_list (pv 1) pe_int (fun _ _ => rfl)) (fun _ _ => rfl)) pa_nil)) pa_nil))))) pa_nil)))) (pss_one (ps_set (i := 3) sc__law_due_bud.nd rfl (Or.inl rfl) (pe_op op_cat (pv 3) (pe_op op_rep (pe_lst (pa_cons (pe_tup (pa_cons pe_str (pa_cons (pv 2) pa_nil))) pa_nil)) (pe_callTy (T := "int") call_int1 (by rfl) T.f_int (by decide +kernel) (pa_cons (pe_cmpR op_eq (pe_callB (id := "len") call_lenD (by rfl) T.f_len (by decide +kernel) (pa_cons (pe_dget (hu_of hr.r) (pv 0) pe_str (fun _ _ => rfl)) pa_nil)) (pv 2) (nomark _)) pa_nil))))))) pss_nil) (pss_one (ps_ret (pv 3)))))), ?_⟩
    have hxl : xs.length = 3 := by rw [hT.l, hdl]
    obtain ⟨x0, x1, x2, rfl⟩ := three_of hxl
    obtain ⟨d0, d1, d2, rfl⟩ := three_of hdl
    obtain ⟨t0, t1, t2⟩ := tds3 hT
    refine ⟨_, rfl, l, _, 0, _, rfl, rfl, .inl (.inl hL), rfl, x0, d0, rfl, t0, hsm, fun Ha Sa => ⟨_, rfl, ?_⟩⟩
    have hM := hM.mono Sa
    have hL := Sa _ _ hL
    have t0 := t0.mono Sa
    have t1 := t1.mono Sa
    have t2 := t2.mono Sa
    by_cases cn : dName d0 = true
    · rw [cn]
      refine iteF ?_
      refine ⟨_, rfl, _, rfl, _, rfl, _, rfl, ?_⟩
      refine sll_go (lo := some ((1 : Nat) : Int)) (hi := some ((2 : Nat) : Int)) (.inl (.inl hL)) fun b H1 hb S1 hB => ?_
      have hB : H1 b = some (.lst [x1]) := hB
      refine ⟨m, b, r, [x1], [d1], rfl, hM.mono S1, .inl (.inl hB), (((hT.mono Sa).mono S1).drop 1).take 1, (fun d hd => by rw [List.mem_singleton.mp hd]; exact hS), fun u us H2 hu S2 hU hUd => ?_⟩
      have S12 := S1.trans S2
      have hSS : ∀ d ∈ [d1], ShowOk d := fun d hd => by rw [List.mem_singleton.mp hd]; exact hS
      have du := first_ok (r := r) hSS
      have hUd' := hUd
      refine ⟨_, rfl, (by show 0 ≤ sizeLine; decide), fun e0 he0 => ?_⟩
      have S3 : Same H2 (upd H2 e0 (.lst [])) := same_new he0
      have hE3 : (upd H2 e0 (.lst [])) e0 = some (.lst []) := upd_same
      generalize upd H2 e0 (.lst []) = H3 at S3 hE3
      have S13 := S12.trans S3
      refine ⟨_, _, .lst (.inl (.inl (S3 _ _ hU))) (hUd.mono S3), .lst (.inl (.inl hE3)) .nil, due_shaped du, due_shaped (ds := []) (fun d hd => by cases hd), _, rfl, ?_⟩
      rw [eqv_nil']
      by_cases c : firstN r [d1] = []
      · rw [decide_eq_true c]
        refine iteT ?_
        obtain ⟨pp, rfl, hp⟩ := isBd_int (firstN_nil c d1 (by simp))
        cases td_n t1
        obtain ⟨ma, tl, kd, nd, kk, rfl, hM0⟩ := hM
        refine ⟨(by show 1 ≤ sizeLine; decide), fun t ht => ?_⟩
        have S5 : Same H3 (upd H3 t (.tup [.str "number"])) := same_new ht
        have hT5 : (upd H3 t (.tup [.str "number"])) t = some (.tup [.str "number"]) := upd_same
        generalize upd H3 t (.tup [.str "number"]) = H5 at S5 hT5
        refine ⟨(by show 1 ≤ sizeLine; decide), fun q1 hq1 => ?_⟩
        have S6 : Same H5 (upd H5 q1 (.lst [.ref t])) := same_new hq1
        have hQ6 : (upd H5 q1 (.lst [.ref t])) q1 = some (.lst [.ref t]) := upd_same
        generalize upd H5 q1 (.lst [.ref t]) = H6 at S6 hQ6
        have S16 := S13.trans (S5.trans S6)
        have hM3 := hM0.mono S16
        obtain ⟨kl, hkv, hkl⟩ := hM3.kid pp hp
        have hg1 : DGet H6 ma (.str "kids") (some (.ref kd)) := DGet.k (k := Sum.inr "kids") hM3.m
        have hg2 : DGet H6 kd (.int ((pp : Nat) : Int)) (some (.ref kl)) := by
          rw [← hkv]
          exact DGet.k (k := Sum.inl ((pp : Nat) : Int)) hM3.kd
        refine ⟨_, rfl, l, _, 2, _, rfl, rfl, .inl (.inl (S16 _ _ hL)), rfl, ?_⟩
        have zl : ((zs (kidsL r pp)).map V.int).length = (kidsL r pp).length := by unfold zs; rw [List.length_map, List.length_map]
        refine ⟨_, rfl, ma, .ref kd, rfl, hg1, _, rfl, l, _, 1, _, rfl, rfl, .inl (.inl (S16 _ _ hL)), rfl, kd, .ref kl, rfl, hg2, _, _, rfl, .inl ⟨_, .inl (.inl hkl), rfl⟩, x2, d2, 0, ((kidsL r pp).length : Nat), by rw [zl]; rfl, t2.mono S16, _, rfl, .inr ⟨_, rfl, ?_⟩⟩
        show rRep (.ref q1) (.int (if (!dCount d2 0 ((kidsL r pp).length : Nat)) = true then 1 else 0)) H6 _
        refine rep_go hQ6 fun g1 hg1' => ?_
        have S9 := same_new hg1' (o := HO.lst (if (!dCount d2 0 ((kidsL r pp).length : Nat)) = true then [.ref t] else []))
        have hG9 : (upd H6 g1 (.lst (if (!dCount d2 0 ((kidsL r pp).length : Nat)) = true then [V.ref t] else []))) g1 = some (.lst (if (!dCount d2 0 ((kidsL r pp).length : Nat)) = true then [.ref t] else [])) := upd_same
        generalize upd H6 g1 (.lst (if (!dCount d2 0 ((kidsL r pp).length : Nat)) = true then [V.ref t] else [])) = H9 at S9 hG9
        have S19 := S16.trans S9
        have hkk : kk.length = r.length := by
          have := congrArg List.length hM0.keys
          unfold zs at this
          rw [List.length_map, List.length_map, List.length_map, List.length_range] at this
          exact this
        refine ⟨_, rfl, _, rfl, (by show 2 ≤ sizeLine; decide), fun t3 ht3 => ?_⟩
        have S10 : Same H9 (upd H9 t3 (.tup [.str "full", .int (room : Nat)])) := same_new ht3
        have hT10 : (upd H9 t3 (.tup [.str "full", .int (room : Nat)])) t3 = some (.tup [.str "full", .int (room : Nat)]) := upd_same
        generalize upd H9 t3 (.tup [.str "full", .int (room : Nat)]) = H10 at S10 hT10
        refine ⟨(by show 1 ≤ sizeLine; decide), fun q3 hq3 => ?_⟩
        have S11 : Same H10 (upd H10 q3 (.lst [.ref t3])) := same_new hq3
        have hQ11 : (upd H10 q3 (.lst [.ref t3])) q3 = some (.lst [.ref t3]) := upd_same
        generalize upd H10 q3 (.lst [.ref t3]) = H11 at S11 hQ11
        have S9B := S9.trans (S10.trans S11)
        have hg1 : DGet H11 ma (.str "kids") (some (.ref kd)) := DGet.k (k := Sum.inr "kids") (S9B _ _ hM3.m)
        refine ⟨_, rfl, ma, .ref kd, rfl, hg1, kd, kk, rfl, S9B _ _ hM3.kd, _, rfl, rfl, .inr ⟨_, rfl, ?_⟩⟩
        have ed : decide (V.int ((kk.length : Nat) : Int) = V.int ((room : Nat) : Int)) = decide (r.length = room) := by
          rw [hkk]
          refine decide_eq_decide.mpr ⟨fun e => ?_, fun e => by rw [e]⟩
          have := V.int.inj e
          omega
        show rRep (.ref q3) (.int (if decide (V.int ((kk.length : Nat) : Int) = V.int ((room : Nat) : Int)) = true then 1 else 0)) H11 _
        rw [ed]
        refine rep_go hQ11 fun g2 hg2' => ?_
        have S12' := same_new hg2' (o := HO.lst (if decide (r.length = room) = true then [.ref t3] else []))
        have hG12 : (upd H11 g2 (.lst (if decide (r.length = room) = true then [V.ref t3] else []))) g2 = some (.lst (if decide (r.length = room) = true then [.ref t3] else [])) := upd_same
        generalize upd H11 g2 (.lst (if decide (r.length = room) = true then [V.ref t3] else [])) = H12 at S12' hG12
        have SB := (S10.trans S11).trans S12'
        have S1C := Sa.trans (S19.trans SB)
        refine ⟨g1, g2, _, _, rfl, rfl, SB _ _ hG9, hG12, ?_, fun p hp' => ?_⟩
        · refine le_line ?_
          split <;> split <;> simp
        · have eq : dueBud room r [d0, .int (pp : Nat), d2] = tagIf "number" (!dCount d2 0 ((kidsL r pp).length : Nat)) ++ fullIf room (decide (r.length = room)) := (if_pos cn).trans (if_pos c)
          rw [eq] at q
          have SC := same_new hp' (o := HO.lst ((if (!dCount d2 0 ((kidsL r pp).length : Nat)) = true then [V.ref t] else []) ++ (if decide (r.length = room) = true then [V.ref t3] else [])))
          refine ⟨_, rfl, q p _ _ (S1C.free hp') (S1C.trans SC) upd_same ?_⟩
          refine dp_app (tag_dp (SqT.of ?_)) (full_dp (SqT.of ?_))
          · exact SC _ _ ((S6.trans (S9.trans SB)) _ _ hT5)
          · exact SC _ _ ((S11.trans S12') _ _ hT10)
      · rw [decide_eq_false c]
        refine iteF ?_
        have eq : dueBud room r [d0, d1, d2] = firstN r [d1] := (if_pos cn).trans (if_neg c)
        rw [eq] at q
        exact ⟨_, rfl, q u us H3 ((Sa.trans S1).free hu) (Sa.trans S13) (S3 _ _ hU) (hUd.mono S3)⟩
    · have cn : dName d0 = false := by
        cases e : dName d0 with
        | true => exact absurd e cn
        | false => rfl
      rw [cn]
      refine iteT ?_
      refine ⟨(by show 1 ≤ sizeLine; decide), fun t ht => ?_⟩
      have S5 : Same Ha (upd Ha t (.tup [.str "name"])) := same_new ht
      have hT5 : (upd Ha t (.tup [.str "name"])) t = some (.tup [.str "name"]) := upd_same
      generalize upd Ha t (.tup [.str "name"]) = H5 at S5 hT5
      refine ⟨(by show 1 ≤ sizeLine; decide), fun q1 hq1 => ?_⟩
      have S6 : Same H5 (upd H5 q1 (.lst [.ref t])) := same_new hq1
      have eq : dueBud room r [d0, d1, d2] = [tagD "name"] := if_neg (by show ¬ dName d0 = true; rw [cn]; decide)
      rw [eq] at q
      exact q q1 _ _ ((Sa.trans S5).free hq1) ((Sa.trans S5).trans S6) upd_same (.cons (.tup (SqT.of (S6 _ _ hT5)) (.cons (.str _) .nil)) .nil)
end
end Bt

namespace Bt
open PySem PySem.Spec PyProof.Rows L2
def dueOne (door : Nat) (r : Row) (ds : List PyData) : List PyData :=
  if firstN r (ds.take 1) = [] then
    (if door = 1 then tagIf "root" (decide (nOf (ds.getD 0 .none) ∈ topsL r)) else tagIf "arms" (decide (kidsL r (nOf (ds.getD 0 .none)) ≠ [])) ++ tagIf "tree" (decide (topsL r = [nOf (ds.getD 0 .none)])))
  else firstN r (ds.take 1)
def spDueOne (K : PySem.W.Frag) : Sp := fun vs H Q E => ∃ m l r xs ds, ∃ door : Nat, vs = [m, .int (door : Nat), .ref l] ∧ Md K H m r ∧ Good r ∧ H l = some (.lst xs) ∧ TDs K H xs ds ∧ ds.length = 3 ∧ ShowOk (ds.getD 0 .none) ∧ NewL K H Q (dueOne door r ds)
theorem eqv_ints : ∀ (as bs : List Int), PyData.eqv (.list (as.map PyData.int)) (.list (bs.map PyData.int)) = decide (as = bs)
  | [], [] => by simp [PyData.eqv, PyData.eqvAll]
  | [], b :: bs => by simp [PyData.eqv, PyData.eqvAll]
  | a :: as, [] => by simp [PyData.eqv, PyData.eqvAll]
  | a :: as, b :: bs => by
    have ih := eqv_ints as bs
    rw [PyData.eqv] at ih ⊢
    rw [List.map_cons, List.map_cons, PyData.eqvAll, ih]
    have : (PyData.int a).eqv (.int b) = decide (a = b) := by
      show (a == b) = decide (a = b)
      rw [Bool.eq_iff_iff]
      simp
    rw [this, ← Bool.decide_and]
    exact decide_eq_decide.mpr ⟨fun h => by rw [h.1, h.2], fun h => List.cons.inj h⟩
theorem zs_inj : ∀ {as bs : List Nat}, zs as = zs bs → as = bs
  | [], [], _ => rfl
  | [], _ :: _, h => by cases h
  | _ :: _, [], h => by cases h
  | a :: as, b :: bs, h => by
    have h1 : ((a : Nat) : Int) :: zs as = ((b : Nat) : Int) :: zs bs := h
    injection h1 with h2 h3
    have e1 : a = b := by omega
    rw [e1, zs_inj h3]
theorem dec_nat {a b : Nat} : decide (V.int ((a : Nat) : Int) = V.int ((b : Nat) : Int)) = decide (a = b) :=
  decide_eq_decide.mpr ⟨fun e => by have := V.int.inj e; omega, fun e => by rw [e]⟩
/-- [(tag,)] * int(test) -/
theorem tag_go {K : PySem.W.Frag} {z : Str} {te : TE} {σ : L2.St} {H : Hp} {Q : VK} {c : Bool} (h : ∀ H2, Same H H2 → ∀ Qv : VK, (∀ H3, Same H2 H3 → Qv (.bl c) H3) → te σ H2 Qv) (k : ∀ p t H4, H p = none → Same H H4 → SqT K H4 t [.str z] → H4 p = some (.lst (if c = true then [.ref t] else [])) → Q (.ref p) H4) :
    tOp rRep (tLst (tCons (tTup (tCons (tC (.str z)) tNil)) tNil)) (tCB (fun xs H Q => (∃ i, xs = [V.int i] ∧ Q (V.int i) H) ∨ ∃ k, xs = [V.bl k] ∧ Q (V.int (if k = true then 1 else 0)) H) (tCons te tNil)) σ H Q := by
  refine ⟨(by show 1 ≤ sizeLine; decide), fun t ht => ?_⟩
  have S5 : Same H (upd H t (.tup [.str z])) := same_new ht
  have hT5 : (upd H t (.tup [.str z])) t = some (.tup [.str z]) := upd_same
  generalize upd H t (.tup [.str z]) = H5 at S5 hT5
  refine ⟨(by show 1 ≤ sizeLine; decide), fun q1 hq1 => ?_⟩
  have S6 : Same H5 (upd H5 q1 (.lst [.ref t])) := same_new hq1
  have hQ6 : (upd H5 q1 (.lst [.ref t])) q1 = some (.lst [.ref t]) := upd_same
  generalize upd H5 q1 (.lst [.ref t]) = H6 at S6 hQ6
  refine h H6 (S5.trans S6) _ fun H7 S7 => .inr ⟨_, rfl, ?_⟩
  show rRep (.ref q1) (.int (if c = true then 1 else 0)) H7 _
  refine rep_go (S7 _ _ hQ6) fun g1 hg1 => ?_
  have S9 := same_new hg1 (o := HO.lst (if c = true then [.ref t] else []))
  have S17 := S5.trans (S6.trans S7)
  exact k g1 t _ (S17.free hg1) (S17.trans S9) (SqT.of (S9 _ _ ((S6.trans S7) _ _ hT5))) upd_same
section
variable {P : Program} {w : World} {K : PySem.W.Frag} {mg : Str → Option Value} {base : Heap}
theorem ok__law_due_of_one (T : Txt K mg) : FGo P w K mg base (L2.CX P w) 4 (a__law_due_of_one K) ["_law_model", "_law_door", "_law_some"] (spDueOne K) := by
  refine okG T.d__law_due_of_one sc__law_due_of_one (fun vs H Q E h => ?_) (fun cdv A outer s H vs Q E hr h => ?_)
  · obtain ⟨m, l, r, xs, ds, room, rfl, _⟩ := h
    rfl
  · obtain ⟨m, l, r, xs, ds, door, rfl, hM, g, hL, hT, hdl, hS, q⟩ := h
    have G__law_first_none := ok__law_first_none (P := P) (w := w) (base := base) T
    refine ⟨_, (pss_cons (ps_set (i := 3) sc__law_due_of_one.nd rfl (Or.inl rfl) (pe_callG G__law_first_none (hr.mono (by decide)) rfl T.g__law_first_none T.d__law_first_none.kp T.b__law_first_none .nil passE (pa_cons (pv 0) (pa_cons (pe_slice sl_list (pv 2) po_none (po_some pe_int)) pa_nil)))) (pss_cons (ps_if (PW.pt (pw_and (pt_cmpR (op_eqD hr.r.units) (pv 3) (pe_lst pa_nil) (nomark _)) (pw_and1 (pt_cmpR op_eq (pv 1) pe_int (nomark _))))) (pss_one (ps_set (i := 3) sc__law_due_of_one.nd rfl (Or.inl rfl) (pe_op op_rep (pe_lst (pa_cons (pe_tup (pa_cons pe_str pa_nil)) pa_nil)) (pe_callTy (T := "int") call_int1 (by rfl) T.f_int (by decide +kernel) (pa_cons (pe_cmpR op_in_seq (pe_ix ix_list (pv 2) pe_int (fun _ _ => rfl)) (pe_dget (hu_of hr.r) (pv 0) pe_str (fun _ _ => rfl)) rfl) pa_nil))))) (pss_one (ps_if (pt_cmpR (op_eqD hr.r.units) (pv 3) (pe_lst pa_nil) (nomark _)) (pss_cons (ps_set (i := 3) sc__law_due_of_one.nd rfl (Or.inl rfl) (pe_op op_rep (pe_lst (pa_cons (pe_tup (pa_cons pe_str pa_nil)) pa_nil)) (pe_callTy (T := "int") call_int1 (by rfl) T.f_int (by decide +kernel) (pa_cons (pe_cmpR (op_neD hr.r.units) (pe_dget (hu_of hr.r) (pe_dget (hu_of hr.r) (pv 0) pe_str (fun _ _ => rfl)) (pe_ix ix_list (pv 2) pe_int (fun _ _ => rfl)) (fun _ _ => rfl)) (pe_lst pa_nil) (nomark _)) pa_nil)))) (pss_one (ps_set (i := 3) sc__law_due_of_one.nd rfl (Or.inl rfl) (pe_op op_cat (pv 3) (pe_op op_rep (pe_lst (pa_cons (pe_tup (pa_cons pe_str pa_nil)) pa_nil)) (pe_callTy (T := "int") call_int1 (by rfl) T.f_int (by decide +kernel) (pa_cons (pe_cmpR (op_eqD hr.r.units) (pe_dget (hu_of hr.r) (pv 0) pe_str (fun _ _ => rfl)) (pe_lst (pa_cons (pe_ix ix_list (pv 2) pe_int (fun _ _ => rfl)) pa_nil)) (nomark _)) pa_nil))))))) pss_nil))) (pss_one (ps_ret (pv 3))))), ?_⟩
    have hxl : xs.length = 3 := by rw [hT.l, hdl]
    obtain ⟨x0, x1, x2, rfl⟩ := three_of hxl
    obtain ⟨d0, d1, d2, rfl⟩ := three_of hdl
    obtain ⟨t0, t1, t2⟩ := tds3 hT
    refine ⟨_, rfl, _, rfl, np ⟨_, rfl, ?_⟩⟩
    refine sll_go (hi := some ((1 : Nat) : Int)) (.inl (.inl hL)) fun b H1 hb S1 hB => ?_
    have hB : H1 b = some (.lst [x0]) := hB
    have hSS : ∀ d ∈ [d0], ShowOk d := fun d hd => by rw [List.mem_singleton.mp hd]; exact hS
    refine ⟨m, b, r, [x0], [d0], rfl, hM.mono S1, .inl (.inl hB), (hT.mono S1).take 1, hSS, fun u us H2 hu S2 hU hUd => ?_⟩
    have S12 := S1.trans S2
    have du := first_ok (r := r) hSS
    have hUd' := hUd
    refine ⟨_, rfl, (by show 0 ≤ sizeLine; decide), fun e0 he0 => ?_⟩
    have S3 : Same H2 (upd H2 e0 (.lst [])) := same_new he0
    have hE3 : (upd H2 e0 (.lst [])) e0 = some (.lst []) := upd_same
    generalize upd H2 e0 (.lst []) = H3 at S3 hE3
    have S13 := S12.trans S3
    refine ⟨_, _, .lst (.inl (.inl (S3 _ _ hU))) (hUd.mono S3), .lst (.inl (.inl hE3)) .nil, due_shaped du, due_shaped (ds := []) (fun d hd => by cases hd), _, rfl, ?_⟩
    rw [eqv_nil']
    by_cases c : firstN r [d0] = []
    · rw [decide_eq_true c]
      obtain ⟨n, rfl, hn⟩ := isBd_int (firstN_nil c d0 (by simp))
      cases td_n t0
      obtain ⟨ma, tl, kd, nd, kk, rfl, hM0⟩ := hM
      have S01 := S13
      refine iteT ⟨_, rfl, rfl, _, rfl, ?_⟩
      show (if (decide (V.int ((door : Nat) : Int) = V.int ((1 : Nat) : Int))) = true then _ else _)
      rw [dec_nat]
      by_cases cd : door = 1
      · subst cd
        refine iteT ?_
        refine tag_go (K := K) (c := decide (n ∈ topsL r)) (fun H4 S4 Qv kv => ?_) (fun p t H4 hp S4 hT4 hP4 => ?_)
        · have hM4 := hM0.mono (S13.trans S4)
          have hg1 : DGet H4 ma (.str "tops") (some (.ref tl)) := DGet.k (k := Sum.inr "tops") hM4.m
          refine ⟨_, rfl, l, _, 0, _, rfl, rfl, .inl (.inl ((S13.trans S4) _ _ hL)), rfl, _, rfl, ma, .ref tl, rfl, hg1, tl, _, rfl, .inl (.inl (.inl hM4.tl)), rfl, flat_ints _, ?_⟩
          have ei : inV (.int ((n : Nat) : Int)) ((zs (topsL r)).map V.int) = decide (n ∈ topsL r) := by
            rw [inV_int]
            exact decide_eq_decide.mpr mem_zs
          have k2 := kv H4 (Same.refl _)
          rw [← ei] at k2
          exact k2
        · have eq : dueOne 1 r [.int (n : Nat), d1, d2] = tagIf "root" (decide (n ∈ topsL r)) := (if_pos c).trans (if_pos rfl)
          rw [eq] at q
          exact ⟨_, rfl, q p _ _ (S13.free hp) (S13.trans S4) hP4 (tag_dp hT4)⟩
      · rw [decide_eq_false cd]
        refine iteF ?_
        refine ⟨_, rfl, (by show 0 ≤ sizeLine; decide), fun e1 he1 => ?_⟩
        have S4 : Same H3 (upd H3 e1 (.lst [])) := same_new he1
        have hE4 : (upd H3 e1 (.lst [])) e1 = some (.lst []) := upd_same
        generalize upd H3 e1 (.lst []) = H4 at S4 hE4
        have S14 := S13.trans S4
        refine ⟨_, _, .lst (.inl (.inl ((S3.trans S4) _ _ hU))) (hUd.mono (S3.trans S4)), .lst (.inl (.inl hE4)) .nil, due_shaped du, due_shaped (ds := []) (fun d hd => by cases hd), _, rfl, ?_⟩
        rw [eqv_nil', decide_eq_true c]
        refine iteT ?_
        refine tag_go (K := K) (c := decide (kidsL r n ≠ [])) (fun H5 S5 Qv kv => ?_) (fun p t H5 hp S5 hT5 hP5 => ?_)
        · have hM5 := hM0.mono (S14.trans S5)
          obtain ⟨kl, hkv, hkl⟩ := hM5.kid n hn
          have hg1 : DGet H5 ma (.str "kids") (some (.ref kd)) := DGet.k (k := Sum.inr "kids") hM5.m
          have hg2 : DGet H5 kd (.int ((n : Nat) : Int)) (some (.ref kl)) := by
            rw [← hkv]
            exact DGet.k (k := Sum.inl ((n : Nat) : Int)) hM5.kd
          refine ⟨_, rfl, ma, .ref kd, rfl, hg1, _, rfl, l, _, 0, _, rfl, rfl, .inl (.inl ((S14.trans S5) _ _ hL)), rfl, kd, .ref kl, rfl, hg2, (by show 0 ≤ sizeLine; decide), fun e2 he2 => ?_⟩
          have S6 : Same H5 (upd H5 e2 (.lst [])) := same_new he2
          have hE6 : (upd H5 e2 (.lst [])) e2 = some (.lst []) := upd_same
          generalize upd H5 e2 (.lst []) = H6 at S6 hE6
          refine ⟨_, _, dp_ints (.inl (.inl (S6 _ _ hkl))), dp_ints (ns := []) (.inl (.inl hE6)), shaped_ints _, shaped_ints [], ?_⟩
          rw [eqv_nil]
          have ec : (!decide (zs (kidsL r n) = [])) = decide (kidsL r n ≠ []) := by
            cases kidsL r n <;> simp [zs]
          rw [ec]
          exact kv H6 S6
        · refine ⟨_, rfl, ?_⟩
          refine tag_go (K := K) (c := decide (topsL r = [n])) (fun H6 S6 Qv kv => ?_) (fun p2 t2 H6 hp2 S6 hT6 hP6 => ?_)
          · have S16 := S14.trans (S5.trans S6)
            have hM6 := hM0.mono S16
            have hg1 : DGet H6 ma (.str "tops") (some (.ref tl)) := DGet.k (k := Sum.inr "tops") hM6.m
            refine ⟨_, rfl, ma, .ref tl, rfl, hg1, _, rfl, l, _, 0, _, rfl, rfl, .inl (.inl (S16 _ _ hL)), rfl, (by show 1 ≤ sizeLine; decide), fun e2 he2 => ?_⟩
            have S7 : Same H6 (upd H6 e2 (.lst [.int ((n : Nat) : Int)])) := same_new he2
            have hE7 : (upd H6 e2 (.lst [.int ((n : Nat) : Int)])) e2 = some (.lst [.int ((n : Nat) : Int)]) := upd_same
            generalize upd H6 e2 (.lst [.int ((n : Nat) : Int)]) = H7 at S7 hE7
            refine ⟨_, _, dp_ints (.inl (.inl (S7 _ _ hM6.tl))), dp_ints (ns := zs [n]) (.inl (.inl hE7)), shaped_ints _, shaped_ints (zs [n]), ?_⟩
            rw [eqv_ints]
            have ec : decide (zs (topsL r) = zs [n]) = decide (topsL r = [n]) := decide_eq_decide.mpr ⟨fun e => zs_inj e, fun e => by rw [e]⟩
            rw [ec]
            exact kv H7 S7
          · refine ⟨p, p2, _, _, rfl, rfl, S6 _ _ hP5, hP6, ?_, fun p3 hp3 => ?_⟩
            · refine le_line ?_
              split <;> split <;> simp
            · have eq : dueOne door r [.int (n : Nat), d1, d2] = tagIf "arms" (decide (kidsL r n ≠ [])) ++ tagIf "tree" (decide (topsL r = [n])) := (if_pos c).trans (if_neg cd)
              rw [eq] at q
              have SC := same_new hp3 (o := HO.lst ((if decide (kidsL r n ≠ []) = true then [V.ref t] else []) ++ (if decide (topsL r = [n]) = true then [V.ref t2] else [])))
              have S16 := S14.trans (S5.trans S6)
              exact ⟨_, rfl, q p3 _ _ (S16.free hp3) (S16.trans SC) upd_same (dp_app (tag_dp (same_t SC (same_t S6 hT5))) (tag_dp (same_t SC hT6)))⟩
    · rw [decide_eq_false c]
      refine iteF ?_
      refine iteF ?_
      refine ⟨_, rfl, (by show 0 ≤ sizeLine; decide), fun e1 he1 => ?_⟩
      have S4 : Same H3 (upd H3 e1 (.lst [])) := same_new he1
      have hE4 : (upd H3 e1 (.lst [])) e1 = some (.lst []) := upd_same
      generalize upd H3 e1 (.lst []) = H4 at S4 hE4
      have S14 := S13.trans S4
      refine ⟨_, _, .lst (.inl (.inl ((S3.trans S4) _ _ hU))) (hUd.mono (S3.trans S4)), .lst (.inl (.inl hE4)) .nil, due_shaped du, due_shaped (ds := []) (fun d hd => by cases hd), _, rfl, ?_⟩
      rw [eqv_nil', decide_eq_false c]
      refine iteF ?_
      have eq : dueOne door r [d0, d1, d2] = firstN r [d0] := if_neg c
      rw [eq] at q
      exact ⟨_, rfl, q u us H4 (S1.free hu) S14 ((S3.trans S4) _ _ hU) (hUd.mono (S3.trans S4))⟩
end
end Bt

namespace Bt
open PySem PySem.Spec PyProof.Rows L2
def dueSwap (r : Row) (ds : List PyData) : List PyData :=
  if firstN r ds = [] then tagIf "within" (decide (nOf (ds.getD 0 .none) ∈ arcL r (nOf (ds.getD 1 .none))) || decide (nOf (ds.getD 1 .none) ∈ arcL r (nOf (ds.getD 0 .none))))
  else firstN r ds
theorem two_ofL {α : Type} : ∀ {l : List α}, l.length = 2 → ∃ a b, l = [a, b]
  | [a, b], _ => ⟨a, b, rfl⟩
  | [], h => by simp at h
  | [_], h => by simp at h
  | _ :: _ :: _ :: _, h => by simp at h
theorem tds2 {K : PySem.W.Frag} {H : Hp} {x0 x1 : V} {d0 d1 : PyData} (h : TDs K H [x0, x1] [d0, d1]) : TD K H x0 d0 ∧ TD K H x1 d1 := by
  obtain ⟨e0, a0, t0⟩ := h.at_ 0 x0 rfl
  obtain ⟨e1, a1, t1⟩ := h.at_ 1 x1 rfl
  have b0 : d0 = e0 := Option.some.inj a0
  have b1 : d1 = e1 := Option.some.inj a1
  rw [b0, b1]
  exact ⟨t0, t1⟩
section
variable {P : Program} {w : World} {K : PySem.W.Frag} {mg : Str → Option Value} {base : Heap}
theorem ok__law_due_swap (T : Txt K mg) : FGo P w K mg base (L2.CX P w) 4 (a__law_due_swap K) ["_law_model", "_law_some"] (spDue K dueSwap 2 2) := by
  refine okG T.d__law_due_swap sc__law_due_swap (fun vs H Q E h => ?_) (fun cdv A outer s H vs Q E hr h => ?_)
  · obtain ⟨m, l, r, xs, ds, rfl, _⟩ := h
    rfl
  · obtain ⟨m, l, r, xs, ds, rfl, hM, g, hL, hT, hdl, hS, q⟩ := h
    have G__law_first_none := ok__law_first_none (P := P) (w := w) (base := base) T
    have G__law_read := ok__law_read (P := P) (w := w) (base := base) T
    refine ⟨_, (pss_cons (ps_set (i := 2) sc__law_due_swap.nd rfl (Or.inl rfl) (pe_callG G__law_first_none (hr.mono (by decide)) rfl T.g__law_first_none T.d__law_first_none.kp T.b__law_first_none .nil passE (pa_cons (pv 0) (pa_cons (pv 1) pa_nil)))) (pss_cons (ps_if (pt_cmpR (op_eqD hr.r.units) (pv 2) (pe_lst pa_nil) (nomark _)) (pss_cons (ps_par (i := 3) (j := 4) (by rfl) sc__law_due_swap.nd rfl rfl (by decide) rfl rfl (pa_cons (pe_call G__law_read (hr.r.mono (by decide)) rfl T.g__law_read T.d__law_read.kp T.b__law_read .nil passE (pa_cons (pv 0) (pa_cons (pe_lst (pa_cons (pe_ix ix_list (pv 1) pe_int (fun _ _ => rfl)) pa_nil)) pa_nil))) (pa_cons (pe_call G__law_read (hr.r.mono (by decide)) rfl T.g__law_read T.d__law_read.kp T.b__law_read .nil passE (pa_cons (pv 0) (pa_cons (pe_lst (pa_cons (pe_ix ix_list (pv 1) pe_int (fun _ _ => rfl)) pa_nil)) pa_nil))) pa_nil)) (by rfl)) (pss_one (ps_set (i := 2) sc__law_due_swap.nd rfl (Or.inl rfl) (pe_op op_rep (pe_lst (pa_cons (pe_tup (pa_cons pe_str pa_nil)) pa_nil)) (pe_callTy (T := "int") call_int1 (by rfl) T.f_int (by decide +kernel) (pa_cons (pe_or (pe_cmpR op_in_seq (pe_ix ix_list (pv 1) pe_int (fun _ _ => rfl)) (pv 4) rfl) (pe_one (pe_cmpR op_in_seq (pe_ix ix_list (pv 1) pe_int (fun _ _ => rfl)) (pv 3) rfl))) pa_nil)))))) pss_nil) (pss_one (ps_ret (pv 2))))), ?_⟩
    have hxl : xs.length = 2 := by rw [hT.l, hdl]
    obtain ⟨x0, x1, rfl⟩ := two_ofL hxl
    obtain ⟨d0, d1, rfl⟩ := two_ofL hdl
    obtain ⟨t0, t1⟩ := tds2 hT
    have hSS : ∀ d ∈ [d0, d1], ShowOk d := hS
    refine ⟨_, rfl, _, rfl, m, l, r, [x0, x1], [d0, d1], rfl, hM, .inl (.inl hL), hT, hSS, fun u us H2 hu S2 hU hUd => ?_⟩
    have du := first_ok (r := r) hSS
    have hUd' := hUd
    refine ⟨_, rfl, (by show 0 ≤ sizeLine; decide), fun e0 he0 => ?_⟩
    have S3 : Same H2 (upd H2 e0 (.lst [])) := same_new he0
    have hE3 : (upd H2 e0 (.lst [])) e0 = some (.lst []) := upd_same
    generalize upd H2 e0 (.lst []) = H3 at S3 hE3
    have S13 := S2.trans S3
    refine ⟨_, _, .lst (.inl (.inl (S3 _ _ hU))) (hUd.mono S3), .lst (.inl (.inl hE3)) .nil, due_shaped du, due_shaped (ds := []) (fun d hd => by cases hd), _, rfl, ?_⟩
    rw [eqv_nil']
    by_cases c : firstN r [d0, d1] = []
    · rw [decide_eq_true c]
      refine iteT ?_
      have hbd := firstN_nil c
      obtain ⟨n, rfl, hn⟩ := isBd_int (hbd d0 (by simp))
      obtain ⟨n2, rfl, hn2⟩ := isBd_int (hbd d1 (by simp))
      cases td_n t0
      cases td_n t1
      obtain ⟨ma, tl, kd, nd, kk, rfl, hM0⟩ := hM
      have hL3 := S13 _ _ hL
      refine ⟨_, rfl, _, rfl, l, _, 0, _, rfl, rfl, .inl (.inl hL3), rfl, (by show 1 ≤ sizeLine; decide), fun q2 hq2 => ?_⟩
      have S4 : Same H3 (upd H3 q2 (.lst [.int ((n : Nat) : Int)])) := same_new hq2
      have hQ4 : (upd H3 q2 (.lst [.int ((n : Nat) : Int)])) q2 = some (.lst [.int ((n : Nat) : Int)]) := upd_same
      generalize upd H3 q2 (.lst [.int ((n : Nat) : Int)]) = H4 at S4 hQ4
      have S14 := S13.trans S4
      refine ⟨.ref ma, q2, r, [n], rfl, ⟨ma, tl, kd, nd, kk, rfl, hM0.mono S14⟩, g, .inl (.inl hQ4), (fun x hx => by rw [List.mem_singleton.mp hx]; exact hn), (by rw [List.flatMap_singleton]; exact arc_le1000 g n), fun a1 H5 ha1 S5 hA1 => ?_⟩
      rw [List.flatMap_singleton] at hA1
      have S15 := S14.trans S5
      refine ⟨_, rfl, _, rfl, l, _, 1, _, rfl, rfl, .inl (.inl (S15 _ _ hL)), rfl, (by show 1 ≤ sizeLine; decide), fun q3 hq3 => ?_⟩
      have S6 : Same H5 (upd H5 q3 (.lst [.int ((n2 : Nat) : Int)])) := same_new hq3
      have hQ6 : (upd H5 q3 (.lst [.int ((n2 : Nat) : Int)])) q3 = some (.lst [.int ((n2 : Nat) : Int)]) := upd_same
      generalize upd H5 q3 (.lst [.int ((n2 : Nat) : Int)]) = H6 at S6 hQ6
      have S16 := S15.trans S6
      refine ⟨.ref ma, q3, r, [n2], rfl, ⟨ma, tl, kd, nd, kk, rfl, hM0.mono S16⟩, g, .inl (.inl hQ6), (fun x hx => by rw [List.mem_singleton.mp hx]; exact hn2), (by rw [List.flatMap_singleton]; exact arc_le1000 g n2), fun a2 H7 ha2 S7 hA2 => ?_⟩
      rw [List.flatMap_singleton] at hA2
      have S17 := S16.trans S7
      have hA1' := (S6.trans S7) _ _ hA1
      refine ⟨_, _, rfl, ?_⟩
      refine tag_go (K := K) (c := decide (n ∈ arcL r n2) || decide (n2 ∈ arcL r n)) (fun H8 S8 Qv kv => ?_) (fun p t H8 hp S8 hT8 hP8 => ?_)
      · refine ⟨_, rfl, l, _, 0, _, rfl, rfl, .inl (.inl ((S17.trans S8) _ _ hL)), rfl, _, rfl, a2, _, rfl, .inl (.inl (.inl (S8 _ _ hA2))), rfl, flat_ints _, ?_⟩
        have ei : inV (.int ((n : Nat) : Int)) ((zs (arcL r n2)).map V.int) = decide (n ∈ arcL r n2) := by
          rw [inV_int]
          exact decide_eq_decide.mpr mem_zs
        have ej : inV (.int ((n2 : Nat) : Int)) ((zs (arcL r n)).map V.int) = decide (n2 ∈ arcL r n) := by
          rw [inV_int]
          exact decide_eq_decide.mpr mem_zs
        refine ⟨inV (.int ((n : Nat) : Int)) ((zs (arcL r n2)).map V.int), rfl, ?_⟩
        rw [ei]
        by_cases c2 : n ∈ arcL r n2
        · rw [decide_eq_true c2] at kv ⊢
          exact kv H8 (Same.refl _)
        · rw [decide_eq_false c2] at kv ⊢
          refine iteF ?_
          refine ⟨_, rfl, l, _, 1, _, rfl, rfl, .inl (.inl ((S17.trans S8) _ _ hL)), rfl, _, rfl, a1, _, rfl, .inl (.inl (.inl (S8 _ _ hA1'))), rfl, flat_ints _, ?_⟩
          have k2 := kv H8 (Same.refl _)
          rw [← ej] at k2
          exact k2
      · have eq : dueSwap r [.int (n : Nat), .int (n2 : Nat)] = tagIf "within" (decide (n ∈ arcL r n2) || decide (n2 ∈ arcL r n)) := if_pos c
        rw [eq] at q
        exact ⟨_, rfl, q p _ _ (S17.free hp) (S17.trans S8) hP8 (tag_dp hT8)⟩
    · rw [decide_eq_false c]
      refine iteF ?_
      have eq : dueSwap r [d0, d1] = firstN r [d0, d1] := if_neg c
      rw [eq] at q
      exact ⟨_, rfl, q u us H3 hu S13 (S3 _ _ hU) (hUd.mono S3)⟩
end
end Bt

namespace Bt
open PySem PySem.Spec PyProof.Rows L2
/-- the arms of the beads in order, from bead n on -/
def armsFrom (r : Row) (n : Nat) : List Nat := (List.range r.length).map fun k => (kidsL r ((n + k) % r.length)).length
def dueSplit (r : Row) (ds : List PyData) : List PyData :=
  if firstN r (ds.take 1) = [] then
    (if dCount (ds.getD 1 .none) 1 ((r.length : Nat) - 1 : Int) = true then
      tagIf "tree" (decide (((armsFrom r (nOf (ds.getD 0 .none))).take (nOf (ds.getD 1 .none))).sum ≥ ((armsFrom r (nOf (ds.getD 0 .none))).take (nOf (ds.getD 1 .none))).length) || decide (((armsFrom r (nOf (ds.getD 0 .none))).drop (nOf (ds.getD 1 .none))).sum ≥ ((armsFrom r (nOf (ds.getD 0 .none))).drop (nOf (ds.getD 1 .none))).length))
    else [tagD "run"])
  else firstN r (ds.take 1)
theorem turn_range {m n : Nat} (h : n < m) : (List.range m).drop n ++ (List.range m).take n = (List.range m).map fun k => (n + k) % m := by
  refine List.ext_getElem? fun i => ?_
  by_cases c : i < m - n
  · rw [List.getElem?_append_left (by simp; omega), List.getElem?_drop, List.getElem?_range (by omega), List.getElem?_map, List.getElem?_range (by omega)]
    show some (n + i) = some ((n + i) % m)
    rw [Nat.mod_eq_of_lt (by omega)]
  · rw [List.getElem?_append_right (by simp; omega)]
    by_cases c2 : i < m
    · rw [List.length_drop, List.length_range, List.getElem?_take, if_pos (by omega), List.getElem?_range (by omega), List.getElem?_map, List.getElem?_range c2]
      show some (i - (m - n)) = some ((n + i) % m)
      have e : n + i = (i - (m - n)) + m := by omega
      rw [e, Nat.add_mod_right, Nat.mod_eq_of_lt (by omega)]
    · rw [List.getElem?_eq_none (by simp; omega), List.getElem?_eq_none (by simp; omega)]
theorem zs_sum : ∀ l : List Nat, (zs l).sum = ((l.sum : Nat) : Int)
  | [] => rfl
  | a :: l => by
    have ih := zs_sum l
    show (((a : Nat) : Int) :: zs l).sum = _
    rw [List.sum_cons, ih, List.sum_cons]
    omega
section
variable {P : Program} {w : World} {K : PySem.W.Frag} {mg : Str → Option Value} {base : Heap}
theorem ok__law_due_split (T : Txt K mg) : FGo P w K mg base (L2.CX P w) 4 (a__law_due_split K) ["_law_model", "_law_some"] (spDue K dueSplit 2 1) := by
  refine okG T.d__law_due_split sc__law_due_split (fun vs H Q E h => ?_) (fun cdv A outer s H vs Q E hr h => ?_)
  · obtain ⟨m, l, r, xs, ds, rfl, _⟩ := h
    rfl
  · obtain ⟨m, l, r, xs, ds, rfl, hM, g, hL, hT, hdl, hS, q⟩ := h
    have G__law_first_none := ok__law_first_none (P := P) (w := w) (base := base) T
    have G__law_is_count := ok__law_is_count (P := P) (w := w) (base := base) T
    have G__law_order := ok__law_order (P := P) (w := w) (base := base) T
    refine ⟨_, (pss_cons (ps_set (i := 2) sc__law_due_split.nd rfl (Or.inl rfl) (pe_callG G__law_first_none (hr.mono (by decide)) rfl T.g__law_first_none T.d__law_first_none.kp T.b__law_first_none .nil passE (pa_cons (pv 0) (pa_cons (pe_slice sl_list (pv 1) po_none (po_some pe_int)) pa_nil)))) (pss_cons (ps_if (PW.pt (pw_and (pt_cmpR (op_eqD hr.r.units) (pv 2) (pe_lst pa_nil) (nomark _)) (pw_and1 (pt_not (pt_val (pe_call G__law_is_count (hr.r.mono (by decide)) rfl T.g__law_is_count T.d__law_is_count.kp T.b__law_is_count .nil passE (pa_cons (pe_ix ix_list (pv 1) pe_int (fun _ _ => rfl)) (pa_cons pe_int (pa_cons (pe_op op_sub (pe_callB (id := "len") call_lenD (by rfl) T.f_len (by decide +kernel) (pa_cons (pe_dget (hu_of hr.r) (pv 0) pe_str (fun _ _ => rfl)) pa_nil)) pe_int) pa_nil))))))))) (pss_one (ps_set (i := 2) sc__law_due_split.nd rfl (Or.inl rfl) (pe_lst (pa_cons (pe_tup (pa_cons pe_str pa_nil)) pa_nil)))) (pss_one (ps_if (pt_cmpR (op_eqD hr.r.units) (pv 2) (pe_lst pa_nil) (nomark _)) (pss_cons (ps_set (i := 3) sc__law_due_split.nd rfl (Or.inl rfl) (pe_call G__law_order (hr.r.mono (by decide)) rfl T.g__law_order T.d__law_order.kp T.b__law_order .nil passE (pa_cons (pv 0) pa_nil))) (pss_cons (ps_set (i := 4) sc__law_due_split.nd rfl (Or.inl rfl) (pe_bm PySem.F.plainAttrs_list PySem.F.slot_list_index PySem.F.type_list_index mt_index (pv 3) (pa_cons (pe_ix ix_list (pv 1) pe_int (fun _ _ => rfl)) pa_nil))) (pss_cons (ps_set (i := 3) sc__law_due_split.nd rfl (Or.inl rfl) (pe_op op_cat (pe_slice sl_list (pv 3) (po_some (pv 4)) po_none) (pe_slice sl_list (pv 3) po_none (po_some (pv 4))))) (pss_cons (ps_setLc (i := 5) (own := [("_law_number_here", 8)]) (g := gName 8) rfl sc__law_due_split.nd rfl rfl (sw_true rfl rfl rfl (by decide +kernel)) (pi_list (pv 3)) (blkOk_by (own := [("_law_number_here", 8)]) (N := ["_law_model", "_law_some", "_law_due_here", "_law_order_here", "_law_at", "_law_arms", "_law_run", "_law_rest", "_law_number_here"]) (sc := defScope s__law_due_split) (by decide +kernel)) (fun _ _ _ _ _ => pg_name (i := 8) sc__law_due_split.nd rfl (Or.inl rfl)) (fun _ _ _ _ _ => pts_nil) (fun _ _ _ _ _ => (pe_callB (id := "len") (call_lenK (K := K)) (by rfl) T.f_len (by decide +kernel) (pa_cons (pe_dget (hu_of hr.r) (pe_dget (hu_of hr.r) (pv 0) pe_str (fun _ _ => rfl)) (pv 8) (fun _ _ => rfl)) pa_nil)))) (pss_cons (ps_par (i := 6) (j := 7) (by rfl) sc__law_due_split.nd rfl rfl (by decide) rfl rfl (pa_cons (pe_slice sl_list (pv 5) po_none (po_some (pe_ix ix_list (pv 1) pe_int (fun _ _ => rfl)))) (pa_cons (pe_slice sl_list (pv 5) (po_some (pe_ix ix_list (pv 1) pe_int (fun _ _ => rfl))) po_none) pa_nil)) (by rfl)) (pss_one (ps_set (i := 2) sc__law_due_split.nd rfl (Or.inl rfl) (pe_op op_rep (pe_lst (pa_cons (pe_tup (pa_cons pe_str pa_nil)) pa_nil)) (pe_callTy (T := "int") call_int1 (by rfl) T.f_int (by decide +kernel) (pa_cons (pe_or (pe_cmpR op_ge (pe_callB (id := "sum") (cr_sum rfl) (by rfl) T.f_sum (by decide +kernel) (pa_cons (pv 6) pa_nil)) (pe_callB (id := "len") call_len (by rfl) T.f_len (by decide +kernel) (pa_cons (pv 6) pa_nil)) (nomark _)) (pe_one (pe_cmpR op_ge (pe_callB (id := "sum") (cr_sum rfl) (by rfl) T.f_sum (by decide +kernel) (pa_cons (pv 7) pa_nil)) (pe_callB (id := "len") call_len (by rfl) T.f_len (by decide +kernel) (pa_cons (pv 7) pa_nil)) (nomark _)))) pa_nil)))))))))) pss_nil))) (pss_one (ps_ret (pv 2))))), ?_⟩
    have hxl : xs.length = 2 := by rw [hT.l, hdl]
    obtain ⟨x0, x1, rfl⟩ := two_ofL hxl
    obtain ⟨d0, d1, rfl⟩ := two_ofL hdl
    obtain ⟨t0, t1⟩ := tds2 hT
    refine ⟨_, rfl, _, rfl, np ⟨_, rfl, ?_⟩⟩
    refine sll_go (hi := some ((1 : Nat) : Int)) (.inl (.inl hL)) fun b H1 hb S1 hB => ?_
    have hB : H1 b = some (.lst [x0]) := hB
    have hSS : ∀ d ∈ [d0], ShowOk d := hS
    refine ⟨m, b, r, [x0], [d0], rfl, hM.mono S1, .inl (.inl hB), (hT.mono S1).take 1, hSS, fun u us H2 hu S2 hU hUd => ?_⟩
    have S12 := S1.trans S2
    have du := first_ok (r := r) hSS
    have hUd' := hUd
    refine ⟨_, rfl, (by show 0 ≤ sizeLine; decide), fun e0 he0 => ?_⟩
    have S3 : Same H2 (upd H2 e0 (.lst [])) := same_new he0
    have hE3 : (upd H2 e0 (.lst [])) e0 = some (.lst []) := upd_same
    generalize upd H2 e0 (.lst []) = H3 at S3 hE3
    have S13 := S12.trans S3
    refine ⟨_, _, .lst (.inl (.inl (S3 _ _ hU))) (hUd.mono S3), .lst (.inl (.inl hE3)) .nil, due_shaped du, due_shaped (ds := []) (fun d hd => by cases hd), _, rfl, ?_⟩
    rw [eqv_nil']
    by_cases c : firstN r [d0] = []
    · rw [decide_eq_true c]
      obtain ⟨n, rfl, hn⟩ := isBd_int (firstN_nil c d0 (by simp))
      cases td_n t0
      obtain ⟨ma, tl, kd, nd, kk, rfl, hM0⟩ := hM
      have hkk : kk.length = r.length := by
        have := congrArg List.length hM0.keys
        unfold zs at this
        rw [List.length_map, List.length_map, List.length_map, List.length_range] at this
        exact this
      have hM3 := hM0.mono S13
      have hg1 : DGet H3 ma (.str "kids") (some (.ref kd)) := DGet.k (k := Sum.inr "kids") hM3.m
      refine iteT ⟨_, rfl, l, _, 1, _, rfl, rfl, .inl (.inl (S13 _ _ hL)), rfl, ?_⟩
      refine ⟨_, rfl, ma, .ref kd, rfl, hg1, kd, kk, rfl, hM3.kd, _, _, rfl, rfl, x1, d1, 1, ((r.length : Nat) - 1 : Int), by rw [hkk]; rfl, t1.mono S13, _, rfl, ?_⟩
      by_cases cc : dCount d1 1 ((r.length : Nat) - 1 : Int) = true
      · rw [cc]
        refine iteF ?_
        refine ⟨_, rfl, (by show 0 ≤ sizeLine; decide), fun e1 he1 => ?_⟩
        have S4 : Same H3 (upd H3 e1 (.lst [])) := same_new he1
        have hE4 : (upd H3 e1 (.lst [])) e1 = some (.lst []) := upd_same
        generalize upd H3 e1 (.lst []) = H4 at S4 hE4
        have S14 := S13.trans S4
        refine ⟨_, _, .lst (.inl (.inl ((S3.trans S4) _ _ hU))) (hUd.mono (S3.trans S4)), .lst (.inl (.inl hE4)) .nil, due_shaped du, due_shaped (ds := []) (fun d hd => by cases hd), _, rfl, ?_⟩
        rw [eqv_nil', decide_eq_true c]
        refine iteT ?_
        refine ⟨_, rfl, .ref ma, r, rfl, ⟨ma, tl, kd, nd, kk, rfl, hM0.mono S14⟩, g, fun c5 H5 hc5 S5 hC5 => ?_⟩
        have S15 := S14.trans S5
        have hrn : (List.range r.length)[n]? = some n := by rw [List.getElem?_range hn]
        refine ⟨_, rfl, .inl ⟨rfl, _, .inl (.inl hC5)⟩, _, rfl, l, _, 0, _, rfl, rfl, .inl (.inl (S15 _ _ hL)), rfl, ?_⟩
        refine ⟨c5, _, .int ((n : Nat) : Int), n, .int ((n : Nat) : Int), rfl, rfl, .inl (.inl hC5), rfl, flat_ints _, by rw [List.getElem?_map, zs_get hrn]; rfl, (by show (((n : Nat) : Int) == ((n : Nat) : Int)) = true; exact beq_self_eq_true _), fun i z hi hz => ?_, ?_⟩
        · rw [List.getElem?_map, zs_get (show (List.range r.length)[i]? = some i by rw [List.getElem?_range (by omega)])] at hz
          have e2 := Option.some.inj hz
          subst e2
          show (((i : Nat) : Int) == ((n : Nat) : Int)) = false
          exact beq_eq_false_iff_ne.mpr fun z => by omega
        refine ⟨_, rfl, _, rfl, _, rfl, np ?_⟩
        refine sll_go (.inl (.inl hC5)) fun b2 H6 hb2 S6 hB2 => ?_
        refine ⟨_, rfl, np ⟨_, rfl, _, rfl, ?_⟩⟩
        refine sll_go (.inl (.inl (S6 _ _ hC5))) fun b3 H7 hb3 S7 hB3 => ?_
        have zl : ((zs (List.range r.length)).map V.int).length = r.length := by unfold zs; rw [List.length_map, List.length_map, List.length_range]
        have h100 := g.le
        rw [cut_drop (by omega)] at hB2
        rw [cut_take (by omega)] at hB3
        have S17 := (S15.trans S6).trans S7
        refine ⟨b2, b3, _, _, rfl, rfl, S7 _ _ hB2, hB3, ?_, fun p hp => ?_⟩
        · rw [List.length_drop, List.length_take]
          exact le_line (by omega)
        have S8 := same_new hp (o := HO.lst (((zs (List.range r.length)).map V.int).drop n ++ ((zs (List.range r.length)).map V.int).take n))
        have hP8 : (upd H7 p (.lst (((zs (List.range r.length)).map V.int).drop n ++ ((zs (List.range r.length)).map V.int).take n))) p = some (.lst (((zs (List.range r.length)).map V.int).drop n ++ ((zs (List.range r.length)).map V.int).take n)) := upd_same
        generalize upd H7 p (.lst (((zs (List.range r.length)).map V.int).drop n ++ ((zs (List.range r.length)).map V.int).take n)) = H8 at S8 hP8
        have S18 := S17.trans S8
        have et : ((zs (List.range r.length)).map V.int).drop n ++ ((zs (List.range r.length)).map V.int).take n = (zs ((List.range r.length).map fun k => (n + k) % r.length)).map V.int := by
          rw [← turn_range hn]
          unfold zs
          rw [List.map_append, List.map_append, List.map_drop, List.map_drop, List.map_take, List.map_take]
        rw [et] at hP8
        refine ⟨_, rfl, p, rfl, ⟨_, .inl (.inl hP8)⟩, fun D hD => ?_⟩
        have ol : ((List.range r.length).map fun k => (n + k) % r.length).length = r.length := by rw [List.length_map, List.length_range]
        have ao : (armsFrom r n).length = r.length := by unfold armsFrom; rw [List.length_map, List.length_range]
        have zl8 : ((zs ((List.range r.length).map fun k => (n + k) % r.length)).map V.int).length = r.length := by unfold zs; rw [List.length_map, List.length_map, ol]
        refine lcm (K := K) (walk_list (K := K) (a := p) (xs := (zs ((List.range r.length).map fun k => (n + k) % r.length)).map V.int)) ((armsFrom r n).map fun k => .int (k : Nat)) (by rw [List.length_map, zl8, ao]) (by omega) hD (fun d h => ?_) (fun _ S => same_l S (.inl (.inl hP8))) (fun i x H9 H9' d hi S y => ?_) gname_mono (fun H9 acc S9 hD9 hP9 => ?_)
        · obtain ⟨k, _, rfl⟩ := List.mem_map.mp h
          rfl
        · obtain ⟨rfl, hx⟩ := y
          have hil : i < r.length := by
            have := (List.getElem?_eq_some_iff.mp hi).1
            rw [List.length_map, ao] at this
            exact this
          have hx' : x = .int (((n + i) % r.length : Nat)) := by
            rw [List.getElem?_map, zs_get (show ((List.range r.length).map fun k => (n + k) % r.length)[i]? = some ((n + i) % r.length) by rw [List.getElem?_map, List.getElem?_range hil]; rfl)] at hx
            exact (Option.some.inj hx).symm
          have hd' : d = .int ((kidsL r ((n + i) % r.length)).length : Nat) := by
            unfold armsFrom at hi
            rw [List.getElem?_map, List.getElem?_map, List.getElem?_range hil] at hi
            exact (Option.some.inj hi).symm
          subst hx'
          subst hd'
          have hlt : (n + i) % r.length < r.length := Nat.mod_lt _ (by omega)
          have hM9 := hM0.mono (S18.trans S)
          obtain ⟨kl, hkv, hkl⟩ := hM9.kid _ hlt
          have hg1 : DGet H9' ma (.str "kids") (some (.ref kd)) := DGet.k (k := Sum.inr "kids") hM9.m
          have hg2 : DGet H9' kd (.int (((n + i) % r.length : Nat))) (some (.ref kl)) := by
            rw [← hkv]
            exact DGet.k (k := Sum.inl (((n + i) % r.length : Nat) : Int)) hM9.kd
          have zk : ((zs (kidsL r ((n + i) % r.length))).map V.int).length = (kidsL r ((n + i) % r.length)).length := by unfold zs; rw [List.length_map, List.length_map]
          refine ⟨Same.refl _, fun Qy hy => ⟨rfl, _, rfl, ma, .ref kd, rfl, hg1, _, rfl, kd, .ref kl, rfl, hg2, _, _, rfl, .inl ⟨_, .inl (.inl hkl), rfl⟩, ?_⟩⟩
          rw [zk]
          exact hy _ _ (Same.refl _) (.int _)
        · have eP : ((armsFrom r n).map fun k => PyData.int ((k : Nat) : Int)) = (zs (armsFrom r n)).map PyData.int := by
            unfold zs
            rw [List.map_map]
            rfl
          rw [eP] at hP9
          rw [hP9.ints] at hD9
          have S19 := S18.trans S9
          have hd1 : ∃ mm : Nat, d1 = .int (mm : Nat) ∧ 1 ≤ mm ∧ mm < r.length := by
            cases d1 with
            | int z =>
              have h' : (decide (1 ≤ z) && decide (z ≤ ((r.length : Nat) - 1 : Int))) = true := cc
              rw [Bool.and_eq_true] at h'
              have h0 := of_decide_eq_true h'.1
              have h1 := of_decide_eq_true h'.2
              exact ⟨z.toNat, by rw [Int.toNat_of_nonneg (by omega)], by omega, by omega⟩
            | _ => cases cc
          obtain ⟨mm, rfl, hm1, hm2⟩ := hd1
          cases td_n t1
          refine ⟨_, rfl, np ⟨_, rfl, l, _, 1, _, rfl, rfl, .inl (.inl (S19 _ _ hL)), rfl, _, rfl, ?_⟩⟩
          refine sll_go (.inl (.inl hD9)) fun b4 H10 hb4 S10 hB4 => ?_
          have S1A := S19.trans S10
          refine ⟨_, rfl, _, rfl, l, _, 1, _, rfl, rfl, .inl (.inl (S1A _ _ hL)), rfl, _, rfl, np ?_⟩
          refine sll_go (.inl (.inl (S10 _ _ hD9))) fun b5 H11 hb5 S11 hB5 => ?_
          have zla : ((zs (armsFrom r n)).map V.int).length = r.length := by unfold zs; rw [List.length_map, List.length_map, ao]
          rw [cut_take (by omega)] at hB4
          rw [cut_drop (by omega)] at hB5
          have S1B := S1A.trans S11
          have hB4' := S11 _ _ hB4
          refine ⟨_, _, rfl, ?_⟩
          refine tag_go (K := K) (c := decide (((armsFrom r n).take mm).sum ≥ ((armsFrom r n).take mm).length) || decide (((armsFrom r n).drop mm).sum ≥ ((armsFrom r n).drop mm).length)) (fun H12 S12 Qv kv => ?_) (fun p2 t H12 hp2 S12 hT12 hP12 => ?_)
          · have hr5 : H12 b4 = some (.lst ((zs ((armsFrom r n).take mm)).map V.int)) := by
              rw [S12 _ _ hB4']
              unfold zs
              rw [List.map_take, List.map_take]
            have hr6 : H12 b5 = some (.lst ((zs ((armsFrom r n).drop mm)).map V.int)) := by
              rw [S12 _ _ hB5]
              unfold zs
              rw [List.map_drop, List.map_drop]
            refine ⟨_, rfl, b4, zs ((armsFrom r n).take mm), rfl, .inl (.inl hr5), ?_⟩
            refine ⟨_, rfl, _, _, rfl, .inl ⟨_, .inl (.inl hr5), rfl⟩, ?_⟩
            have le1 : ∀ A : List Nat, decide ((((zs A).map V.int).length : Int) ≤ (zs A).sum) = decide (A.sum ≥ A.length) := fun A => by
              rw [zs_sum]
              unfold zs
              rw [List.length_map, List.length_map]
              exact decide_eq_decide.mpr ⟨fun h => by omega, fun h => by omega⟩
            refine ⟨_, _, rfl, rfl, _, rfl, ?_⟩
            rw [le1]
            by_cases c2 : ((armsFrom r n).take mm).sum ≥ ((armsFrom r n).take mm).length
            · rw [decide_eq_true c2] at kv ⊢
              exact kv H12 (Same.refl _)
            · rw [decide_eq_false c2] at kv ⊢
              refine iteF ?_
              refine ⟨_, rfl, b5, zs ((armsFrom r n).drop mm), rfl, .inl (.inl hr6), ?_⟩
              refine ⟨_, rfl, _, _, rfl, .inl ⟨_, .inl (.inl hr6), rfl⟩, ?_⟩
              refine ⟨_, _, rfl, rfl, ?_⟩
              have k2 := kv H12 (Same.refl _)
              rw [← le1] at k2
              exact k2
          · have eq : dueSplit r [.int (n : Nat), .int (mm : Nat)] = tagIf "tree" (decide (((armsFrom r n).take mm).sum ≥ ((armsFrom r n).take mm).length) || decide (((armsFrom r n).drop mm).sum ≥ ((armsFrom r n).drop mm).length)) := (if_pos c).trans (if_pos cc)
            rw [eq] at q
            exact ⟨_, rfl, q p2 _ _ (S1B.free hp2) (S1B.trans S12) hP12 (tag_dp hT12)⟩
      · have cc : dCount d1 1 ((r.length : Nat) - 1 : Int) = false := by
          cases e : dCount d1 1 ((r.length : Nat) - 1 : Int) with
          | true => exact absurd e cc
          | false => rfl
        rw [cc]
        refine iteT ?_
        refine ⟨(by show 1 ≤ sizeLine; decide), fun t ht => ?_⟩
        have S5 : Same H3 (upd H3 t (.tup [.str "run"])) := same_new ht
        have hT5 : (upd H3 t (.tup [.str "run"])) t = some (.tup [.str "run"]) := upd_same
        generalize upd H3 t (.tup [.str "run"]) = H5 at S5 hT5
        refine ⟨(by show 1 ≤ sizeLine; decide), fun q1 hq1 => ?_⟩
        have S6 : Same H5 (upd H5 q1 (.lst [.ref t])) := same_new hq1
        have eq : dueSplit r [.int (n : Nat), d1] = [tagD "run"] := (if_pos c).trans (if_neg (by show ¬ dCount d1 1 ((r.length : Nat) - 1 : Int) = true; rw [cc]; decide))
        rw [eq] at q
        exact ⟨_, rfl, q q1 _ _ ((S13.trans S5).free hq1) ((S13.trans S5).trans S6) upd_same (.cons (.tup (SqT.of (S6 _ _ hT5)) (.cons (.str _) .nil)) .nil)⟩
    · rw [decide_eq_false c]
      refine iteF ?_
      refine iteF ?_
      refine ⟨_, rfl, (by show 0 ≤ sizeLine; decide), fun e1 he1 => ?_⟩
      have S4 : Same H3 (upd H3 e1 (.lst [])) := same_new he1
      have hE4 : (upd H3 e1 (.lst [])) e1 = some (.lst []) := upd_same
      generalize upd H3 e1 (.lst []) = H4 at S4 hE4
      have S14 := S13.trans S4
      refine ⟨_, _, .lst (.inl (.inl ((S3.trans S4) _ _ hU))) (hUd.mono (S3.trans S4)), .lst (.inl (.inl hE4)) .nil, due_shaped du, due_shaped (ds := []) (fun d hd => by cases hd), _, rfl, ?_⟩
      rw [eqv_nil', decide_eq_false c]
      refine iteF ?_
      have eq : dueSplit r [d0, d1] = firstN r [d0] := if_neg c
      rw [eq] at q
      exact ⟨_, rfl, q u us H4 (S1.free hu) S14 ((S3.trans S4) _ _ hU) (hUd.mono (S3.trans S4))⟩
end
end Bt

namespace Bt
open PySem PySem.Spec PyProof.Rows L2
def dueJoin (r r' : Row) (ds : List PyData) : List PyData := firstN r (ds.take 1) ++ firstN r' ((ds.drop 1).take 1) ++ fullIf 100 (decide (r.length + r'.length > 100))
def dueAll (door room : Nat) (r r' : Row) (ds : List PyData) : List PyData :=
  if door = 0 then dueGraft r ds
  else if door = 1 ∨ door = 3 then dueOne door r ds
  else if door = 2 then dueBud room r ds
  else if door = 4 then dueSwap r (ds.take 2)
  else if door = 6 then dueSplit r ds
  else dueJoin r r' ds
def drawnLen (door : Nat) : Nat := if door = 5 ∨ door = 6 then 2 else 3
structure DrawnOk (door : Nat) (ds : List PyData) : Prop where
  a : door ≠ 2 → ShowOk (ds.getD 0 .none)
  z : door = 2 → small (ds.getD 0 .none) = true
  b : door ≠ 6 → ShowOk (ds.getD 1 .none)
def spDueAll (K : PySem.W.Frag) : Sp := fun vs H Q E => ∃ m o l r r' xs ds, ∃ door room : Nat, vs = [m, o, .int (door : Nat), .ref l, .int (room : Nat)] ∧ Md K H m r ∧ Good r ∧ Md K H o r' ∧ Good r' ∧ H l = some (.lst xs) ∧ TDs K H xs ds ∧ door < 7 ∧ ds.length = drawnLen door ∧ DrawnOk door ds ∧ NewL K H Q (dueAll door room r r' ds)
theorem first_le {r : Row} : ∀ {ds : List PyData}, (firstN r ds).length ≤ 1
  | [] => by simp [firstN]
  | d :: ds => by
    show (if isBd r d = true then firstN r ds else [beadDue d]).length ≤ 1
    by_cases c : isBd r d = true
    · rw [if_pos c]
      exact first_le
    · rw [if_neg c]
      exact Nat.le_refl 1
theorem full_go {K : PySem.W.Frag} {n : Nat} {te : TE} {σ : L2.St} {H : Hp} {Q : VK} {c : Bool} (h : ∀ H2, Same H H2 → ∀ Qv : VK, (∀ H3, Same H2 H3 → Qv (.bl c) H3) → te σ H2 Qv) (k : ∀ p t H4, H p = none → Same H H4 → SqT K H4 t [.str "full", .int (n : Nat)] → H4 p = some (.lst (if c = true then [.ref t] else [])) → Q (.ref p) H4) :
    tOp rRep (tLst (tCons (tTup (tCons (tC (.str "full")) (tCons (tC (.int (n : Nat))) tNil))) tNil)) (tCB (fun xs H Q => (∃ i, xs = [V.int i] ∧ Q (V.int i) H) ∨ ∃ k, xs = [V.bl k] ∧ Q (V.int (if k = true then 1 else 0)) H) (tCons te tNil)) σ H Q := by
  refine ⟨(by show 2 ≤ sizeLine; decide), fun t ht => ?_⟩
  have S5 : Same H (upd H t (.tup [.str "full", .int (n : Nat)])) := same_new ht
  have hT5 : (upd H t (.tup [.str "full", .int (n : Nat)])) t = some (.tup [.str "full", .int (n : Nat)]) := upd_same
  generalize upd H t (.tup [.str "full", .int (n : Nat)]) = H5 at S5 hT5
  refine ⟨(by show 1 ≤ sizeLine; decide), fun q1 hq1 => ?_⟩
  have S6 : Same H5 (upd H5 q1 (.lst [.ref t])) := same_new hq1
  have hQ6 : (upd H5 q1 (.lst [.ref t])) q1 = some (.lst [.ref t]) := upd_same
  generalize upd H5 q1 (.lst [.ref t]) = H6 at S6 hQ6
  refine h H6 (S5.trans S6) _ fun H7 S7 => .inr ⟨_, rfl, ?_⟩
  show rRep (.ref q1) (.int (if c = true then 1 else 0)) H7 _
  refine rep_go (S7 _ _ hQ6) fun g1 hg1 => ?_
  have S9 := same_new hg1 (o := HO.lst (if c = true then [.ref t] else []))
  have S17 := S5.trans (S6.trans S7)
  exact k g1 t _ (S17.free hg1) (S17.trans S9) (SqT.of (S9 _ _ ((S6.trans S7) _ _ hT5))) upd_same
section
variable {P : Program} {w : World} {K : PySem.W.Frag} {mg : Str → Option Value} {base : Heap}
theorem ok__law_due (T : Txt K mg) : FGo P w K mg base (L2.CX P w) 5 (a__law_due K) ["_law_model", "_law_other", "_law_door", "_law_some", "_law_room"] (spDueAll K) := by
  refine okG T.d__law_due sc__law_due (fun vs H Q E h => ?_) (fun cdv A outer s H vs Q E hr h => ?_)
  · obtain ⟨m, o, l, r, r', xs, ds, door, room, rfl, _⟩ := h
    rfl
  · obtain ⟨m, o, l, r, r', xs, ds, door, room, rfl, hM, g, hM', g', hL, hT, hd7, hdl, hS, q⟩ := h
    have G__law_due_bud := ok__law_due_bud (P := P) (w := w) (base := base) T
    have G__law_due_graft := ok__law_due_graft (P := P) (w := w) (base := base) T
    have G__law_due_of_one := ok__law_due_of_one (P := P) (w := w) (base := base) T
    have G__law_due_split := ok__law_due_split (P := P) (w := w) (base := base) T
    have G__law_due_swap := ok__law_due_swap (P := P) (w := w) (base := base) T
    have G__law_first_none := ok__law_first_none (P := P) (w := w) (base := base) T
    refine ⟨_, (pss_cons (ps_if (pt_cmpR op_eq (pv 2) pe_int (nomark _)) (pss_one (ps_ret (pe_callG G__law_due_graft (hr.mono (by decide)) rfl T.g__law_due_graft T.d__law_due_graft.kp T.b__law_due_graft .nil passE (pa_cons (pv 0) (pa_cons (pv 3) pa_nil))))) pss_nil) (pss_cons (ps_if (PW.pt (pw_or (pt_cmpR op_eq (pv 2) pe_int (nomark _)) (pw_or1 (pt_cmpR op_eq (pv 2) pe_int (nomark _))))) (pss_one (ps_ret (pe_callG G__law_due_of_one (hr.mono (by decide)) rfl T.g__law_due_of_one T.d__law_due_of_one.kp T.b__law_due_of_one .nil passE (pa_cons (pv 0) (pa_cons (pv 2) (pa_cons (pv 3) pa_nil)))))) pss_nil) (pss_cons (ps_if (pt_cmpR op_eq (pv 2) pe_int (nomark _)) (pss_one (ps_ret (pe_callG G__law_due_bud (hr.mono (by decide)) rfl T.g__law_due_bud T.d__law_due_bud.kp T.b__law_due_bud .nil passE (pa_cons (pv 0) (pa_cons (pv 3) (pa_cons (pv 4) pa_nil)))))) pss_nil) (pss_cons (ps_if (pt_cmpR op_eq (pv 2) pe_int (nomark _)) (pss_one (ps_ret (pe_callG G__law_due_swap (hr.mono (by decide)) rfl T.g__law_due_swap T.d__law_due_swap.kp T.b__law_due_swap .nil passE (pa_cons (pv 0) (pa_cons (pe_slice sl_list (pv 3) po_none (po_some pe_int)) pa_nil))))) pss_nil) (pss_cons (ps_if (pt_cmpR op_eq (pv 2) pe_int (nomark _)) (pss_one (ps_ret (pe_callG G__law_due_split (hr.mono (by decide)) rfl T.g__law_due_split T.d__law_due_split.kp T.b__law_due_split .nil passE (pa_cons (pv 0) (pa_cons (pv 3) pa_nil))))) pss_nil) (pss_cons (ps_set (i := 5) sc__law_due.nd rfl (Or.inl rfl) (pe_op op_cat (pe_callG G__law_first_none (hr.mono (by decide)) rfl T.g__law_first_none T.d__law_first_none.kp T.b__law_first_none .nil passE (pa_cons (pv 0) (pa_cons (pe_slice sl_list (pv 3) po_none (po_some pe_int)) pa_nil))) (pe_callG G__law_first_none (hr.mono (by decide)) rfl T.g__law_first_none T.d__law_first_none.kp T.b__law_first_none .nil passE (pa_cons (pv 1) (pa_cons (pe_slice sl_list (pv 3) (po_some pe_int) (po_some pe_int)) pa_nil))))) (pss_one (ps_ret (pe_op op_cat (pv 5) (pe_op op_rep (pe_lst (pa_cons (pe_tup (pa_cons pe_str (pa_cons pe_int pa_nil))) pa_nil)) (pe_callTy (T := "int") call_int1 (by rfl) T.f_int (by decide +kernel) (pa_cons (pe_cmpR op_gt (pe_op op_add (pe_callB (id := "len") call_lenD (by rfl) T.f_len (by decide +kernel) (pa_cons (pe_dget (hu_of hr.r) (pv 0) pe_str (fun _ _ => rfl)) pa_nil)) (pe_callB (id := "len") call_lenD (by rfl) T.f_len (by decide +kernel) (pa_cons (pe_dget (hu_of hr.r) (pv 1) pe_str (fun _ _ => rfl)) pa_nil))) pe_int (nomark _)) pa_nil)))))))))))), ?_⟩
    have dl : ∀ k : Nat, decide (V.int ((door : Nat) : Int) = V.int ((k : Nat) : Int)) = decide (door = k) := fun k => dec_nat
    refine ⟨_, rfl, rfl, _, rfl, ?_⟩
    show (if decide (V.int ((door : Nat) : Int) = V.int ((0 : Nat) : Int)) = true then _ else _)
    rw [dl]
    by_cases c0 : door = 0
    · subst c0
      refine iteT ⟨_, rfl, _, rfl, m, l, r, xs, ds, rfl, hM, g, hL, hT, hdl, ?_, q⟩
      obtain ⟨e0, e1, e2, rfl⟩ := three_of hdl
      intro d hd
      have hd' : d ∈ [e0, e1] := hd
      rcases List.mem_cons.mp hd' with e | hd'
      · rw [e]; exact hS.a (by decide)
      · rw [List.mem_singleton.mp hd']; exact hS.b (by decide)
    rw [decide_eq_false c0]
    refine iteF ?_
    have q0 : NewL K H Q (if door = 1 ∨ door = 3 then dueOne door r ds else if door = 2 then dueBud room r ds else if door = 4 then dueSwap r (ds.take 2) else if door = 6 then dueSplit r ds else dueJoin r r' ds) := by
      have := q
      unfold dueAll at this
      rw [if_neg c0] at this
      exact this
    refine ⟨_, rfl, rfl, _, rfl, ?_⟩
    show (if decide (V.int ((door : Nat) : Int) = V.int ((1 : Nat) : Int)) = true then _ else _)
    rw [dl]
    by_cases c1 : door = 1
    · rw [decide_eq_true c1]
      refine iteT ?_
      rw [if_pos (Or.inl c1)] at q0
      have d3 : ds.length = 3 := by rw [hdl, c1]; rfl
      refine iteT ⟨_, rfl, _, rfl, _, rfl, m, l, r, xs, ds, door, rfl, hM, g, hL, hT, d3, ?_, q0⟩
      obtain ⟨e0, e1, e2, rfl⟩ := three_of d3
      exact hS.a (by omega)
    rw [decide_eq_false c1]
    refine iteF ?_
    refine ⟨_, rfl, rfl, _, rfl, ?_⟩
    show (if decide (V.int ((door : Nat) : Int) = V.int ((3 : Nat) : Int)) = true then _ else _)
    rw [dl]
    by_cases c3 : door = 3
    · rw [decide_eq_true c3]
      rw [if_pos (Or.inr c3)] at q0
      have d3 : ds.length = 3 := by rw [hdl, c3]; rfl
      refine iteT ⟨_, rfl, _, rfl, _, rfl, m, l, r, xs, ds, door, rfl, hM, g, hL, hT, d3, ?_, q0⟩
      obtain ⟨e0, e1, e2, rfl⟩ := three_of d3
      exact hS.a (by omega)
    rw [decide_eq_false c3]
    refine iteF ?_
    rw [if_neg (fun h => h.elim c1 c3)] at q0
    refine ⟨_, rfl, rfl, _, rfl, ?_⟩
    show (if decide (V.int ((door : Nat) : Int) = V.int ((2 : Nat) : Int)) = true then _ else _)
    rw [dl]
    by_cases c2 : door = 2
    · rw [decide_eq_true c2]
      rw [if_pos c2] at q0
      have d3 : ds.length = 3 := by rw [hdl, c2]; rfl
      refine iteT ⟨_, rfl, _, rfl, _, rfl, m, l, r, xs, ds, room, rfl, hM, g, hL, hT, d3, ?_, ?_, q0⟩
      · obtain ⟨e0, e1, e2, rfl⟩ := three_of d3
        exact hS.z c2
      · obtain ⟨e0, e1, e2, rfl⟩ := three_of d3
        exact hS.b (by omega)
    rw [decide_eq_false c2]
    refine iteF ?_
    rw [if_neg c2] at q0
    refine ⟨_, rfl, rfl, _, rfl, ?_⟩
    show (if decide (V.int ((door : Nat) : Int) = V.int ((4 : Nat) : Int)) = true then _ else _)
    rw [dl]
    by_cases c4 : door = 4
    · rw [decide_eq_true c4]
      rw [if_pos c4] at q0
      have d3 : ds.length = 3 := by rw [hdl, c4]; rfl
      have hxl : xs.length = 3 := by rw [hT.l, d3]
      refine iteT ⟨_, rfl, _, rfl, np ⟨_, rfl, ?_⟩⟩
      refine sll_go (hi := some ((2 : Nat) : Int)) (.inl (.inl hL)) fun b H1 hb S1 hB => ?_
      rw [cut_take (by omega)] at hB
      exact ⟨m, b, r, xs.take 2, ds.take 2, rfl, hM.mono S1, g, hB, (hT.mono S1).take 2, by rw [List.length_take]; omega, (fun d hd => by
        obtain ⟨e0, e1, e2, rfl⟩ := three_of d3
        have hd' : d ∈ [e0, e1] := hd
        rcases List.mem_cons.mp hd' with e | hd'
        · rw [e]; exact hS.a (by omega)
        · rw [List.mem_singleton.mp hd']; exact hS.b (by omega)), fun p vs H2 hp S2 h2 h3 => q0 p vs H2 (S1.free hp) (S1.trans S2) h2 h3⟩
    rw [decide_eq_false c4]
    refine iteF ?_
    rw [if_neg c4] at q0
    refine ⟨_, rfl, rfl, _, rfl, ?_⟩
    show (if decide (V.int ((door : Nat) : Int) = V.int ((6 : Nat) : Int)) = true then _ else _)
    rw [dl]
    by_cases c6 : door = 6
    · rw [decide_eq_true c6]
      rw [if_pos c6] at q0
      have d2 : ds.length = 2 := by rw [hdl, c6]; rfl
      refine iteT ⟨_, rfl, _, rfl, m, l, r, xs, ds, rfl, hM, g, hL, hT, d2, ?_, q0⟩
      obtain ⟨e0, e1, rfl⟩ := two_ofL d2
      intro d hd
      have hd' : d ∈ [e0] := hd
      rw [List.mem_singleton.mp hd']
      exact hS.a (by omega)
    rw [decide_eq_false c6]
    refine iteF ?_
    rw [if_neg c6] at q0
    have d2 : ds.length = 2 := by
      have : door = 5 := by omega
      rw [hdl, this]
      rfl
    have hxl : xs.length = 2 := by rw [hT.l, d2]
    obtain ⟨x0, x1, rfl⟩ := two_ofL hxl
    obtain ⟨e0, e1, rfl⟩ := two_ofL d2
    refine ⟨_, rfl, _, rfl, np ⟨_, rfl, ?_⟩⟩
    refine sll_go (hi := some ((1 : Nat) : Int)) (.inl (.inl hL)) fun b H1 hb S1 hB => ?_
    have hB : H1 b = some (.lst [x0]) := hB
    refine ⟨m, b, r, [x0], [e0], rfl, hM.mono S1, .inl (.inl hB), (hT.mono S1).take 1, (fun d hd => by rw [List.mem_singleton.mp hd]; exact hS.a (by omega)), fun u us H2 hu S2 hU hUd => ?_⟩
    have S12 := S1.trans S2
    refine ⟨_, rfl, _, rfl, _, rfl, _, rfl, ?_⟩
    refine sll_go (lo := some ((1 : Nat) : Int)) (hi := some ((2 : Nat) : Int)) (.inl (.inl (S12 _ _ hL))) fun b2 H3 hb2 S3 hB2 => ?_
    have hB2 : H3 b2 = some (.lst [x1]) := hB2
    have S13 := S12.trans S3
    refine ⟨o, b2, r', [x1], [e1], rfl, hM'.mono S13, .inl (.inl hB2), ((hT.mono S13).drop 1).take 1, (fun d hd => by rw [List.mem_singleton.mp hd]; exact hS.b (by omega)), fun u2 us2 H4 hu2 S4 hU2 hUd2 => ?_⟩
    have S14 := S13.trans S4
    have hU4 := (S3.trans S4) _ _ hU
    refine ⟨u, u2, us, us2, rfl, rfl, hU4, hU2, ?_, fun v hv => ?_⟩
    · refine le_line ?_
      rw [hUd.len, hUd2.len]
      have h1 := first_le (r := r) (ds := [e0])
      have h2 := first_le (r := r') (ds := [e1])
      omega
    have S5 := same_new hv (o := HO.lst (us ++ us2))
    have hV5 : (upd H4 v (.lst (us ++ us2))) v = some (.lst (us ++ us2)) := upd_same
    generalize upd H4 v (.lst (us ++ us2)) = H5 at S5 hV5
    have S15 := S14.trans S5
    refine ⟨_, rfl, ?_⟩
    refine full_go (K := K) (n := 100) (c := decide (r.length + r'.length > 100)) (fun H6 S6 Qv kv => ?_) (fun p t H6 hp S6 hT6 hP6 => ?_)
    · obtain ⟨ma, tl, kd, nd, kk, rfl, hM0⟩ := hM
      obtain ⟨ma', tl', kd', nd', kk', rfl, hM0'⟩ := hM'
      have hkk : kk.length = r.length := by
        have := congrArg List.length hM0.keys
        unfold zs at this
        rw [List.length_map, List.length_map, List.length_map, List.length_range] at this
        exact this
      have hkk' : kk'.length = r'.length := by
        have := congrArg List.length hM0'.keys
        unfold zs at this
        rw [List.length_map, List.length_map, List.length_map, List.length_range] at this
        exact this
      have hM6 := hM0.mono (S15.trans S6)
      have hM6' := hM0'.mono (S15.trans S6)
      have hg1 : DGet H6 ma (.str "kids") (some (.ref kd)) := DGet.k (k := Sum.inr "kids") hM6.m
      have hg2 : DGet H6 ma' (.str "kids") (some (.ref kd')) := DGet.k (k := Sum.inr "kids") hM6'.m
      refine ⟨_, rfl, ma, .ref kd, rfl, hg1, kd, kk, rfl, hM6.kd, _, rfl, ma', .ref kd', rfl, hg2, kd', kk', rfl, hM6'.kd, _, _, rfl, rfl, _, _, rfl, rfl, ?_⟩
      have k2 := kv H6 (Same.refl _)
      have ed : decide ((100 : Int) < (kk.length : Nat) + (kk'.length : Nat)) = decide (r.length + r'.length > 100) := by
        rw [hkk, hkk']
        exact decide_eq_decide.mpr ⟨fun h => by omega, fun h => by omega⟩
      rw [← ed] at k2
      exact k2
    · refine ⟨v, p, us ++ us2, _, rfl, rfl, S6 _ _ hV5, hP6, ?_, fun w2 hw2 => ?_⟩
      · refine le_line ?_
        rw [List.length_append, hUd.len, hUd2.len]
        have h1 := first_le (r := r) (ds := [e0])
        have h2 := first_le (r := r') (ds := [e1])
        split <;> simp <;> omega
      · have S16 := S15.trans S6
        have SC := same_new hw2 (o := HO.lst ((us ++ us2) ++ (if decide (r.length + r'.length > 100) = true then [V.ref t] else [])))
        exact q0 w2 _ _ (S16.free hw2) (S16.trans SC) upd_same (dp_app (dp_app (hUd.mono ((((S3.trans S4).trans S5).trans S6).trans SC)) (hUd2.mono ((S5.trans S6).trans SC))) (full_dp (same_t SC hT6)))
end
end Bt

namespace Bt
open PySem PySem.Spec PyProof.Rows L2
theorem tds_mk2 {K : PySem.W.Frag} {H : Hp} {v0 v1 : V} {d0 d1 : PyData} (h0 : TD K H v0 d0) (h1 : TD K H v1 d1) : TDs K H [v0, v1] [d0, d1] := ⟨rfl, fun i v e => by
  rcases i with _ | _ | i
  · cases e; exact ⟨_, rfl, h0⟩
  · cases e; exact ⟨_, rfl, h1⟩
  · cases e⟩
theorem tds_mk3 {K : PySem.W.Frag} {H : Hp} {v0 v1 v2 : V} {d0 d1 d2 : PyData} (h0 : TD K H v0 d0) (h1 : TD K H v1 d1) (h2 : TD K H v2 d2) : TDs K H [v0, v1, v2] [d0, d1, d2] := ⟨rfl, fun i v e => by
  rcases i with _ | _ | _ | i
  · cases e; exact ⟨_, rfl, h0⟩
  · cases e; exact ⟨_, rfl, h1⟩
  · cases e; exact ⟨_, rfl, h2⟩
  · cases e⟩
def DrawnQ (K : PySem.W.Frag) (p : Addr) (H : Hp) (door : Nat) (Q : VK) : Prop := ∀ b xs ds H', b ≠ p → SP p H H' → H' b = some (.lst xs) → TDs K (hide p H') xs ds → ds.length = drawnLen door → DrawnOk door ds → Q (.ref b) H'
def spDrawn (K : PySem.W.Frag) : Sp := fun vs H Q E => ∃ p m o gl r r', ∃ gs : List Int, ∃ door : Nat, vs = [.ref p, m, o, .int (door : Nat), .ref gl] ∧ Pot H p ∧ Md K (hide p H) m r ∧ Good r ∧ Md K (hide p H) o r' ∧ Good r' ∧ door < 7 ∧ gl ≠ p ∧ H gl = some (.lst (gs.map V.int)) ∧ gs.length ≤ 100 ∧ (∀ g ∈ gs, g.natAbs < 2 ^ 200) ∧ DrawnQ K p H door Q
/-- the drawn things in a new list -/
theorem drawn_fin {K : PySem.W.Frag} {p b : Addr} {H H1 : Hp} {door : Nat} {Q : VK} {xs : List V} {ds : List PyData} (q : DrawnQ K p H door Q) (S : SP p H H1) (hb : H1 b = none) (hT : TDs K (hide p H1) xs ds) (hl : ds.length = drawnLen door) (hd : DrawnOk door ds) : Q (.ref b) (upd H1 b (.lst xs)) := by
  have nb := S.pot.ne hb
  have S2 : Same H1 (upd H1 b (.lst xs)) := same_new hb
  exact q b xs ds _ nb (S.new hb) upd_same (hT.mono (hide_same S2)) hl hd
section
variable {P : Program} {w : World} {K : PySem.W.Frag} {mg : Str → Option Value} {base : Heap}
theorem ok__law_drawn (T : Txt K mg) : FO P w K mg base (L2.CX P w) 4 (a__law_drawn K) ["_law_pot_here", "_law_model", "_law_other", "_law_door", "_law_gone"] (spDrawn K) := by
  refine T.d__law_drawn.ok sc__law_drawn (fun vs H Q E h => ?_) (fun cdv A outer s H vs Q E hr h => ?_)
  · obtain ⟨p, m, o, gl, r, r', gs, door, rfl, _⟩ := h
    rfl
  · obtain ⟨p, m, o, gl, r, r', gs, door, rfl, hp, hM, g, hM', g', hd7, ngl, hgl, hgs, hgb, q⟩ := h
    have G__law_count := ok__law_count (P := P) (w := w) (base := base) T
    have G__law_number := ok__law_number (P := P) (w := w) (base := base) T
    have G__law_word := ok__law_word (P := P) (w := w) (base := base) T
    refine ⟨_, (pss_cons (ps_if (pt_cmpR op_eq (pv 3) pe_int (nomark _)) (pss_one (ps_ret (pe_lst (pa_cons (pe_call G__law_word (hr.mono (by decide)) rfl T.g__law_word T.d__law_word.kp T.b__law_word .nil passE (pa_cons (pv 0) pa_nil)) (pa_cons (pe_call G__law_number (hr.mono (by decide)) rfl T.g__law_number T.d__law_number.kp T.b__law_number .nil passE (pa_cons (pv 0) (pa_cons (pv 1) (pa_cons (pv 4) pa_nil)))) (pa_cons (pe_call G__law_count (hr.mono (by decide)) rfl T.g__law_count T.d__law_count.kp T.b__law_count .nil passE (pa_cons (pv 0) (pa_cons pe_int pa_nil))) pa_nil)))))) pss_nil) (pss_cons (ps_if (pt_cmpR op_eq (pv 3) pe_int (nomark _)) (pss_one (ps_ret (pe_lst (pa_cons (pe_call G__law_number (hr.mono (by decide)) rfl T.g__law_number T.d__law_number.kp T.b__law_number .nil passE (pa_cons (pv 0) (pa_cons (pv 1) (pa_cons (pv 4) pa_nil)))) (pa_cons (pe_call G__law_number (hr.mono (by decide)) rfl T.g__law_number T.d__law_number.kp T.b__law_number .nil passE (pa_cons (pv 0) (pa_cons (pv 2) (pa_cons (pe_lst pa_nil) pa_nil)))) pa_nil))))) pss_nil) (pss_cons (ps_if (pt_cmpR op_eq (pv 3) pe_int (nomark _)) (pss_one (ps_ret (pe_lst (pa_cons (pe_call G__law_number (hr.mono (by decide)) rfl T.g__law_number T.d__law_number.kp T.b__law_number .nil passE (pa_cons (pv 0) (pa_cons (pv 1) (pa_cons (pv 4) pa_nil)))) (pa_cons (pe_call G__law_count (hr.mono (by decide)) rfl T.g__law_count T.d__law_count.kp T.b__law_count .nil passE (pa_cons (pv 0) (pa_cons (pe_callB (id := "len") call_lenD (by rfl) T.f_len (by decide +kernel) (pa_cons (pe_dget (hu_of hr) (pv 1) pe_str (fun _ _ => rfl)) pa_nil)) pa_nil))) pa_nil))))) pss_nil) (pss_one (ps_ret (pe_lst (pa_cons (pe_call G__law_number (hr.mono (by decide)) rfl T.g__law_number T.d__law_number.kp T.b__law_number .nil passE (pa_cons (pv 0) (pa_cons (pv 1) (pa_cons (pv 4) pa_nil)))) (pa_cons (pe_call G__law_number (hr.mono (by decide)) rfl T.g__law_number T.d__law_number.kp T.b__law_number .nil passE (pa_cons (pv 0) (pa_cons (pv 1) (pa_cons (pv 4) pa_nil)))) (pa_cons (pe_call G__law_count (hr.mono (by decide)) rfl T.g__law_count T.d__law_count.kp T.b__law_count .nil passE (pa_cons (pv 0) (pa_cons pe_int pa_nil))) pa_nil))))))))), ?_⟩
    have dl : ∀ k : Nat, decide (V.int ((door : Nat) : Int) = V.int ((k : Nat) : Int)) = decide (door = k) := fun k => dec_nat
    have num : ∀ {H1 : Hp} {Q1 : VK}, SP p H H1 → (∀ v d H', SP p H1 H' → TD K (hide p H') v d → NumT d → Q1 v H') → spNumber K [.ref p, m, .ref gl] H1 Q1 E := fun S1 k => ⟨p, m, gl, r, gs, rfl, S1.pot, hM.mono S1.S, g, ngl, S1.at hgl ngl, hgs, hgb, k⟩
    refine ⟨_, rfl, rfl, _, rfl, ?_⟩
    show (if decide (V.int ((door : Nat) : Int) = V.int ((2 : Nat) : Int)) = true then _ else _)
    rw [dl]
    by_cases c2 : door = 2
    · rw [decide_eq_true c2]
      refine iteT ?_
      refine ⟨_, rfl, p, rfl, hp, fun v0 d0 H1 S1 t0 z0 => ?_⟩
      refine ⟨_, rfl, _, rfl, _, rfl, num S1 fun v1 d1 H2 S2 t1 n1 => ?_⟩
      have S12 := S1.trans S2
      refine ⟨_, rfl, p, 3, rfl, S12.pot, (by decide), (by decide), fun v2 d2 H3 S3 t2 => ?_⟩
      have S13 := S12.trans S3
      refine ⟨(by show 3 ≤ sizeLine; decide), fun b hb => ?_⟩
      exact drawn_fin q S13 hb (tds_mk3 (t0.mono (S2.trans S3).S) (t1.mono S3.S) t2) (by rw [c2]; rfl) ⟨fun h => absurd c2 h, fun _ => z0, fun _ => n1.show⟩
    rw [decide_eq_false c2]
    refine iteF ?_
    refine ⟨_, rfl, rfl, _, rfl, ?_⟩
    show (if decide (V.int ((door : Nat) : Int) = V.int ((5 : Nat) : Int)) = true then _ else _)
    rw [dl]
    by_cases c5 : door = 5
    · rw [decide_eq_true c5]
      refine iteT ?_
      refine ⟨_, rfl, _, rfl, _, rfl, num (SP.of hp (Same.refl _)) fun v0 d0 H1 S1 t0 n0 => ?_⟩
      refine ⟨_, rfl, _, rfl, (by show 0 ≤ sizeLine; decide), fun e he => ?_⟩
      have S2 : SP p H (upd H1 e (.lst [])) := S1.new he
      have ne := S1.pot.ne he
      have Se : Same H1 (upd H1 e (.lst [])) := same_new he
      have hE : (upd H1 e (.lst [])) e = some (.lst []) := upd_same
      generalize upd H1 e (.lst []) = H2 at S2 Se hE
      refine ⟨p, o, e, r', [], rfl, S2.pot, hM'.mono S2.S, g', ne, hE, (by decide), (fun g hg => by cases hg), fun v1 d1 H3 S3 t1 n1 => ?_⟩
      have S13 := S2.trans S3
      refine ⟨(by show 2 ≤ sizeLine; decide), fun b hb => ?_⟩
      exact drawn_fin q S13 hb (tds_mk2 ((t0.mono (hide_same Se)).mono S3.S) t1) (by rw [c5]; rfl) ⟨fun _ => n0.show, fun h => absurd h c2, fun _ => n1.show⟩
    rw [decide_eq_false c5]
    refine iteF ?_
    refine ⟨_, rfl, rfl, _, rfl, ?_⟩
    show (if decide (V.int ((door : Nat) : Int) = V.int ((6 : Nat) : Int)) = true then _ else _)
    rw [dl]
    by_cases c6 : door = 6
    · rw [decide_eq_true c6]
      refine iteT ?_
      refine ⟨_, rfl, _, rfl, _, rfl, num (SP.of hp (Same.refl _)) fun v0 d0 H1 S1 t0 n0 => ?_⟩
      obtain ⟨ma, tl, kd, nd, kk, rfl, hM0⟩ := hM
      have hkk : kk.length = r.length := by
        have := congrArg List.length hM0.keys
        unfold zs at this
        rw [List.length_map, List.length_map, List.length_map, List.length_range] at this
        exact this
      have hM1 := hM0.mono S1.up
      have hg1 : DGet H1 ma (.str "kids") (some (.ref kd)) := DGet.k (k := Sum.inr "kids") hM1.m
      refine ⟨_, rfl, _, rfl, ma, .ref kd, rfl, hg1, kd, kk, rfl, hM1.kd, ?_⟩
      have := g.le
      refine ⟨p, _, rfl, S1.pot, Int.natCast_nonneg _, by omega, fun v1 d1 H2 S2 t1 => ?_⟩
      have S12 := S1.trans S2
      refine ⟨(by show 2 ≤ sizeLine; decide), fun b hb => ?_⟩
      exact drawn_fin q S12 hb (tds_mk2 (t0.mono S2.S) t1) (by rw [c6]; rfl) ⟨fun _ => n0.show, fun h => absurd h c2, fun h => absurd c6 h⟩
    rw [decide_eq_false c6]
    refine iteF ?_
    refine ⟨_, rfl, _, rfl, _, rfl, num (SP.of hp (Same.refl _)) fun v0 d0 H1 S1 t0 n0 => ?_⟩
    refine ⟨_, rfl, _, rfl, _, rfl, num S1 fun v1 d1 H2 S2 t1 n1 => ?_⟩
    have S12 := S1.trans S2
    refine ⟨_, rfl, p, 3, rfl, S12.pot, (by decide), (by decide), fun v2 d2 H3 S3 t2 => ?_⟩
    have S13 := S12.trans S3
    refine ⟨(by show 3 ≤ sizeLine; decide), fun b hb => ?_⟩
    exact drawn_fin q S13 hb (tds_mk3 (t0.mono (S2.trans S3).S) (t1.mono S3.S) t2) (by unfold drawnLen; rw [if_neg (fun h => h.elim c5 c6)]; rfl) ⟨fun _ => n0.show, fun h => absurd h c2, fun _ => n1.show⟩
end
end Bt

namespace Bt
open PySem PySem.Spec PyProof.Rows L2
/-! ### xs.count(y), flat items -/
def rCntF (K : PySem.W.Frag) : V → List V → Hp → VK → Prop := fun x xs H Q => ∃ p ys y, x = .ref p ∧ xs = [y] ∧ SqL K H p ys ∧ flatV y = true ∧ ys.all flatV = true ∧ Q (.int ((ys.countP fun z => eqV z y : Nat) : Int)) H
theorem count_eqU {y : V} : ∀ {ys : List V} {us : List Value}, Vals ys us → ys.all flatV = true → us.countP (eqU y) = ys.countP fun z => eqV z y
  | _, _, .nil, _ => rfl
  | _, _, .cons r t, f => by
    rw [List.all_cons, Bool.and_eq_true] at f
    rw [List.countP_cons, List.countP_cons, count_eqU t f.2, eqU_of r f.1]
theorem mt_cntF {X : Cx} : MtR X "list.count" (rCntF X.K) := by
  intro pins s σ H x xs v us Q I rx rxs h
  obtain ⟨p, ys, y, rfl, rfl, hq, fy, fa, q⟩ := h
  cases rx
  obtain ⟨u, rfl, ru⟩ := rxs.one
  obtain ⟨its, rv, ⟨⟨c0, d0, dat, sl⟩, n, ho, hc, hdn, hd⟩, hlen⟩ := I.list hq
  simp only at hc hd
  subst hc; subst hd
  have ec := count_eqU (y := y) rv fa
  refine call_meets PySem.F.slot_list_count ⟨_, ho, rfl⟩ PySem.F.entry_list_count (PySem.F.args_list_count_2 _ _) (SeqAt.list_countAt p its.toArray n d0 sl u (eqU y)) ⟨ho, fun z hz => mem_eqAt ru fy rv fa z (by simpa using hz), ?_⟩
  refine ⟨.int ((ys.countP fun z => eqV z y : Nat) : Int), H, I.tok _, ⟨s.toks, ?_⟩, q⟩
  rw [← ec]

/-! ### isinstance(e, c), e the pinned exception -/
def ExIn (X : Cx) (a D : Addr) (d : Option Addr) : Prop := ∃ oe : Obj, (a, oe) ∈ X.pn ∧ Zc (.ref D) d oe ∧ ∃ vs, oe.data = .fields vs
/-- its dict, where it has one -/
def DdOk (H : Hp) (d : Option Addr) : Prop := ∀ dd, d = some dd → ∃ fs, H dd = some (.xd fs)
def rIsX (K : PySem.W.Frag) (D a : Addr) (d : Option Addr) : List V → Hp → VK → Prop := fun xs H Q => DdOk H d ∧ ∃ b : Bool, ((∃ c cv, xs = [.ref a, c] ∧ ClsV c cv ∧ PySem.W.kitOne K (.ref D) cv = some b) ∨ ∃ tp cs us, xs = [.ref a, .ref tp] ∧ H tp = some (.tup cs) ∧ Paired ClsV cs us ∧ PySem.W.kitAny K (.ref D) us = some b) ∧ Q (.bl b) H
theorem cr_isX {X : Cx} {a D : Addr} {d : Option Addr} (C : ExcC X.K D) (hx : ExIn X a D d) : CallR X (.builtin "isinstance") (rIsX X.K D a d) := by
  intro pins s σ H xs us Q I r h
  obtain ⟨hdd, b, hw, q⟩ := h
  obtain ⟨oe, hp, hz, ⟨vs, hv⟩⟩ := hx
  obtain ⟨hget, _⟩ := I.pin (a, oe) (List.mem_append.mpr (.inl hp))
  have J : ∃ od, PySem.W.InstAt s.heap a oe D od := by
    obtain ⟨oc, od, oda, osl⟩ := oe
    obtain ⟨h1, h2⟩ := hz
    dsimp only at h1 h2 hv
    subst h1; subst h2; subst hv
    cases od with
    | none => exact ⟨none, hget, rfl, rfl, trivial⟩
    | some dd =>
      obtain ⟨fs, hfs⟩ := hdd dd rfl
      have hx : ObjOk X.prog X.w H s.heap dd (.xd fs) := I.hok dd _ hfs
      obtain ⟨mA, hns, hr⟩ := hx
      obtain ⟨od', ho, _⟩ := lookIn_ns hns
      exact ⟨some od', hget, rfl, rfl, ho⟩
  obtain ⟨od, J⟩ := J
  have hcl : (PySem.W.clsIn X.K D).isSome = true := by
    obtain ⟨cd, hc, _⟩ := PySem.W.any_some C.hd
    rw [hc]
    rfl
  have Z := PySem.W.kitx_exc (x := a) (ox := oe) (od := od) hcl C.hg C.hk C.hs C.ha C.hn C.ht C.hm
  rcases hw with ⟨c, cv, rfl, hc, e⟩ | ⟨tp, cs, ws, rfl, hT, hc, e⟩
  · obtain ⟨u1, u2, rfl, r1, r2⟩ := vals2 r
    cases r1
    have e2 := hc.eq r2
    subst e2
    exact PySem.W.kia_one Z I.kIn J e (fun z => nomatch z) fun tk => ⟨.bl b, H, I.tok tk, rfl, q⟩
  · obtain ⟨u1, u2, rfl, r1, r2⟩ := vals2 r
    cases r1
    cases (show u2 = Value.ref tp from r2)
    obtain ⟨_, its, rv, o, h1, h2, n, h3⟩ := (show ObjOk X.prog X.w H s.heap tp (.tup cs) from I.hok tp _ hT)
    have e3 := ClsV.all hc rv
    subst e3
    obtain ⟨oc, od2, dt, sl⟩ := o
    simp only at h2 h3
    subst h2; subst h3
    exact PySem.W.kia_tup Z I.kIn J h1 e (fun z => nomatch z) fun tk => ⟨.bl b, H, I.tok tk, rfl, q⟩
/-- e.f, e the pinned exception -/
theorem pe_xfP {X : Cx} {a C : Addr} {cls : Value} {d : Option Addr} {e : Expr} {te : TE} {pos : Pos} {n : Str} (T : XfC X.K C) (hno : PySem.W.findIn X.K (.ref C) n = some none)
    (hx : ∃ oe : Obj, (a, oe) ∈ X.pn ∧ Zc cls d oe ∧ ∃ vs, oe.data = .fields vs) (he : PE X e te) (hb : attributeBase e n X.env (eval e X.env) = eval e X.env := by rfl) : PE X (.Attribute e n pos) (tXf a cls d C n te) := by
  refine ⟨fun pins s σ H Q I h => attr_of hb (thn (he.run pins s σ H _ I h) fun u s1 hh => ?_)⟩
  obtain ⟨oe, hp, hz, ⟨vs, hd⟩⟩ := hx
  obtain ⟨x, H1, I1, rx, ex, ec, dd, fs, v, ed, ea, l, q⟩ := hh
  subst ex; subst ec; subst ed
  cases rx
  obtain ⟨ha, _⟩ := I1.pin (a, oe) (List.mem_append_left _ hp)
  obtain ⟨mA, hns, hr⟩ := (show ObjOk X.prog X.w H1 s1.heap dd (.xd fs) from I1.hok dd _ ea)
  obtain ⟨od, ho, hl⟩ := lookIn_ns hns
  obtain ⟨u2, hu, ru⟩ := RelO.some_of (v := v) (o := mA n) (by rw [← l]; exact hr n)
  have J : PySem.W.InstAt s1.heap a oe C (some od) := ⟨ha, hz.1, (by unfold PySem.W.notCls; rw [hd] <;> rfl), (by rw [hz.2]; exact ho)⟩
  exact HandSPX.exc_get I1.kIn J T.ga T.gg T.exC (PySem.W.findObj_own T.hdC hno rfl (by rw [hl, hu])) (handed_of ru) ⟨v, H1, I1.tok _, ru, q⟩

/-! ### a def that is called in an except suite, with the exception -/
structure RoomE (k : Nat) (A : Around) : Prop where
  r : L2H.RoomH k A
  g : A.guards = some []
theorem RoomE.hu {k : Nat} {A : Around} (h : RoomE k A) : A.units + 64 < cLine := by have := h.r.un; omega
structure FnE (P : Program) (w : World) (K : PySem.W.Frag) (mg : Str → Option Value) (base : Heap) (k : Nat) (f : Addr) (fd : FuncData) (ps : List Str) (sp : Addr → Value → Option Addr → Sp) : Prop where
  len : ∀ a c d vs H Q E, sp a c d vs H Q E → vs.length = ps.length
  run : ∀ (A : Around) (outer : List Env) (s : Shared) (H : Hp) (args : Args) (us : List Value) (vs : List V) (Q : VK) (E : XK) (p : Addr × Obj) (c : Value) (d : Option Addr), RoomE k A → L2H.PinOk outer H s p → Zc c d p.2 → (∃ v, p.2.data = .fields v) → Env0 P w K mg base A outer s H → BindsTo s fd args (ps.zip us) → Vals vs us → sp p.1 c d vs H Q E → codeAny (model P w) A (.call (.ref f) args) (CR (L2.CX P w) outer P w H s Q E) s
theorem okE {P : Program} {w : World} {K : PySem.W.Frag} {mg : Str → Option Value} {base : Heap} {x qual : Str} {params : Arguments} {body : List Stmt} {scope : Scope} {dvs : List V} {kws : List (Str × V)} {f : Addr} {fd : FuncData} {N ps : List Str} {k : Nat} {sp : Addr → Value → Option Addr → Sp}
    (F : FunD K x qual params body scope dvs kws f fd) (S : FnScope N ps scope) (len : ∀ a c d vs H Q E, sp a c d vs H Q E → vs.length = ps.length)
    (hbody : ∀ (cdv : Value) (A : Around) (outer : List Env) (s : Shared) (H : Hp) (vs : List V) (Q : VK) (E : XK) (p : Addr × Obj) (c : Value) (d : Option Addr), RoomE k (A.deeper (envOfC qual scope s.heap.objs.size f cdv)) → Zc c d p.2 → (∃ v, p.2.data = .fields v) → sp p.1 c d vs H Q E →
      ∃ t, PSs (L2H.cxH (L2.CX P w) P w K mg base N qual scope f cdv A outer s H E p) body t ∧ t { nx := fun _ H' => Q .non H', rt := Q } (start N vs) H) : FnE P w K mg base (k + 1) f fd ps sp := by
  obtain ⟨oc, od, dV, kV, doc, pm, an, cdv, ct, osl, rfl, lk, hcd, _, _⟩ := F.ex
  refine ⟨len, fun A outer s H args us vs Q E p c d hr hpin hz hf e0 hb r hsp => ?_⟩
  have hl := len _ _ _ _ _ _ _ hsp
  have KX : K.In s.heap := e0.mod.kin.keeps fun b o e => (e0.bs b o e).1
  have lim : s.heap.NoLimit := e0.mod.nolimit.keeps fun b o e => (e0.bs b o e).1
  have hkind : ∀ y ∈ ps.zip us, scope.names.lookup y.1 = some .local ∨ (scope.names.lookup y.1 = some .cell ∧ ((cellsFrom (s.heap.objs.size + 1) scope.names []).lookup y.1).isSome = true) := fun ⟨n, v⟩ hy => (S.par n (List.of_mem_zip hy).1).imp id fun q => ⟨q, PySem.W.cellsFrom_some _ _ _ (.inl q)⟩
  refine codeAny_call_function hr.r.depth (KX _ _ lk) rfl S.co S.gen rfl (PySem.W.codeRec_of KX hcd) (hb _ _ _ _ (wpAny_newFunctionEnv_cells S.kind hkind fun env he s1 y => ?_))
  subst he
  refine ⟨lim.keeps y.toInCall.keep, codeAny_func ?_⟩
  obtain ⟨t, ht, hq⟩ := hbody cdv A outer s H vs Q E p c d ⟨hr.r.deeper _, hr.g⟩ hz hf hsp
  have I : Inv (L2H.cxH (L2.CX P w) P w K mg base N qual scope f cdv A outer s H E p) [] (start N vs) H s1 := L2H.inv_startH S hpin e0 hl r y
  refine wpAny_mono (ht.run [] s1 (start N vs) H _ I hq) (fun fl s' hs => ?_) fun e s' hs => hs
  cases fl with
  | ret u =>
    obtain ⟨v, σ', H', J, rv, q⟩ := hs
    exact ⟨v, H', J.os, J.bare, J.base, J.hok, rv, q⟩
  | next =>
    obtain ⟨σ', H', J, q⟩ := hs
    exact ⟨.non, H', J.os, J.bare, J.base, J.hok, rfl, q⟩
  | brk =>
    obtain ⟨_, _, _, q⟩ := hs
    exact q.elim
  | cont =>
    obtain ⟨_, _, _, q⟩ := hs
    exact q.elim
def tCallE (sp : Sp) (t : TA) : TE := fun σ H Q => t σ H fun vs H1 => sp vs H1 Q (fun _ _ _ => False)
theorem pe_callE {X : Cx} {k : Nat} {f a : Addr} {oe : Obj} {cls : Value} {d : Option Addr} {pn : List (Addr × Obj)} {fd : FuncData} {ps : List Str} {sp : Addr → Value → Option Addr → Sp} {x : Str} {p pos : Pos} {e : Expr} {es : List Expr} {t : TA}
    (F : FnE X.prog X.w X.K X.mg X.base k f fd ps sp) (hr : RoomE k X.A) (hg : Gl X x) (hm : X.mg x = some (.ref f)) (hk : PySem.W.keepIn X.K (.ref f) = true) (hb : Binds X.K fd ps []) (hz : Zc cls d oe) (hf : ∃ v, oe.data = .fields v)
    (ha : PA (X.suite a ((a, oe) :: pn)) (e :: es) t) (hdb : (x == ("__debug__" : Str)) = false := by decide) (he : starEach (e :: es) X.env = (false, eval e X.env) :: starEach es X.env := by rfl) (hpl : (backTo pos (starEach es X.env)).any (·.1) = false := by rfl) :
    PE (X.suite a ((a, oe) :: pn)) (.Call (.Name x p) (e :: es) [] pos) (tCallE (sp a cls d) t) := by
  refine ⟨fun pins s σ H Q I h => ?_⟩
  refine wpAny_Call_Name_kw (ld_glob (X := X.suite a ((a, oe) :: pn)) I hg hm ?_ hdb)
  refine PySem.W.callWith_K (h₀ := X.base) I.ok.mod.kin hk (thn (ha.run pos pins s σ H _ I h) fun us s1 ⟨vs, H1, I1, r, q⟩ => ⟨I1.kIn, ?_⟩) he hpl
  have hl : us.length = ps.length := by rw [← r.length]; exact F.len _ _ _ _ _ _ _ q
  have b := hb s1 us I1.kIn (by rw [List.append_nil]; exact hl)
  rw [List.append_nil] at b
  have P1 := I1.pin (a, oe) (List.mem_append_left _ List.mem_cons_self)
  have hpin : L2H.PinOk X.stack H1 s1 (a, oe) := ⟨P1.1, P1.2.1, fun hm => (List.mem_cons.mp (I1.stkSub a hm)).elim P1.2.2.1 P1.2.2.2.1, P1.2.2.2.2⟩
  have hrS : RoomE k (X.suite a ((a, oe) :: pn)).A := ⟨⟨hr.r.dp, hr.r.un⟩, hr.g⟩
  refine wpAny_call (codeAny_mono (F.run (X.suite a ((a, oe) :: pn)).A X.stack s1 H1 ⟨us, []⟩ us vs Q (fun _ _ _ => False) (a, oe) cls d hrS hpin hz hf I1.env0 b r q) fun r' s' hq => ?_)
  cases r' with
  | error e =>
    obtain ⟨_, _, _, _, _, _, _, _, _, _, _, _, z⟩ := hq
    exact z.elim
  | ok fl =>
    cases fl with
    | ret u => exact I1.after hq
    | next => exact False.elim hq
    | brk => exact False.elim hq
    | cont => exact False.elim hq
end Bt

namespace Bt
open PySem PySem.Spec PyProof.Rows L2
/-! ### what an error says -/
def kindL : List Str := ["NoName", "Within", "NoNumber", "NoParent", "HasArms", "NoRun", "NoTree"]
def tagL : List Str := ["name", "within", "number", "root", "arms", "run", "tree"]
inductive Er where
  | bead (d : PyData)
  | full (n : Nat)
  | plain (i : Nat)
def Er.due : Er → PyData
  | .bead d => beadDue d
  | .full n => .tuple [.str "full", .int (n : Nat)]
  | .plain i => .tuple [.str (tagL.getD i "")]
def Er.name : Er → Str
  | .bead _ => "NoBead"
  | .full _ => "Full"
  | .plain i => kindL.getD i ""
def ErX (K : PySem.W.Frag) (H : Hp) (e : Er) (cls : Value) (d : Option Addr) : Prop := cls = .ref (He.ga K e.name) ∧ match e with
  | .bead pd => ∃ dd v, d = some dd ∧ H dd = some (.xd [("thing", v)]) ∧ TD K H v pd ∧ ShowOk pd
  | .full n => ∃ dd, d = some dd ∧ H dd = some (.xd [("most", .int (n : Nat))])
  | .plain i => i < 7 ∧ d = none
def spSaidOf (K : PySem.W.Frag) (a : Addr) (cls : Value) (d : Option Addr) : Sp := fun vs H Q E => vs = [.ref a] ∧ ∃ e, ErX K H e cls d ∧ ∀ u H', Same H H' → Dp K H' u e.due → Q u H'
theorem ErX.mem {K : PySem.W.Frag} {H : Hp} {e : Er} {cls : Value} {d : Option Addr} (h : ErX K H e cls d) : e.name ∈ exL := by
  obtain ⟨_, h⟩ := h
  cases e with
  | bead _ => exact List.mem_of_getElem? (i := 10) rfl
  | full _ => exact List.mem_of_getElem? (i := 11) rfl
  | plain i =>
    have hi : i < 7 := h.1
    show kindL.getD i "" ∈ exL
    rcases i with _ | _ | _ | _ | _ | _ | _ | i
    · exact List.mem_of_getElem? (i := 3) rfl
    · exact List.mem_of_getElem? (i := 7) rfl
    · exact List.mem_of_getElem? (i := 2) rfl
    · exact List.mem_of_getElem? (i := 8) rfl
    · exact List.mem_of_getElem? (i := 9) rfl
    · exact List.mem_of_getElem? (i := 4) rfl
    · exact List.mem_of_getElem? (i := 6) rfl
    · omega
theorem ErX.dd {K : PySem.W.Frag} {H : Hp} {e : Er} {cls : Value} {d : Option Addr} (h : ErX K H e cls d) : DdOk H d := fun x hx => by
  obtain ⟨_, h⟩ := h
  cases e with
  | bead pd =>
    obtain ⟨dd, v, rfl, h1, _⟩ := h
    cases hx
    exact ⟨_, h1⟩
  | full n =>
    obtain ⟨dd, rfl, h1⟩ := h
    cases hx
    exact ⟨_, h1⟩
  | plain i =>
    rw [h.2] at hx
    cases hx
theorem DdOk.mono {H H' : Hp} {d : Option Addr} (h : DdOk H d) (S : Same H H') : DdOk H' d := fun x hx => by
  obtain ⟨fs, e⟩ := h x hx
  exact ⟨fs, S _ _ e⟩
section
variable {P : Program} {w : World} {K : PySem.W.Frag} {mg : Str → Option Value} {base : Heap}
theorem ok__law_said_of (T : Txt K mg) : FnE P w K mg base 1 (a__law_said_of K) (fdAt K (a__law_said_of K)) ["_law_e"] (spSaidOf K) := by
  refine okE T.d__law_said_of sc__law_said_of (fun a c d vs H Q E h => ?_) (fun cdv A outer s H vs Q E p c d hr hz hf h => ?_)
  · obtain ⟨rfl, _⟩ := h
    rfl
  · obtain ⟨rfl, e, he, q⟩ := h
    have hm := he.mem
    have hdd := he.dd
    have hC := T.exf _ hm
    obtain ⟨rfl, he⟩ := he
    have hX : ∃ oe : Obj, (p.1, oe) ∈ [p] ∧ Zc (.ref (He.ga K e.name)) d oe ∧ ∃ vs, oe.data = .fields vs := ⟨p.2, List.mem_singleton.mpr rfl, hz, hf⟩
    refine ⟨_, (pss_cons (ps_if (pt_val (pe_callB (id := "isinstance") (cr_isX hC hX) (by rfl) T.f_isinstance (by decide +kernel) (pa_cons (pv 0) (pa_cons (pe_glob (v := .ref (He.ga K "NoBead")) rfl T.g_NoBead rfl) pa_nil)))) (pss_one (ps_ret (pe_tup (pa_cons pe_str (pa_cons (pe_callB (id := "repr") (cr_repr hr.g hr.hu) (by rfl) T.f_repr (by decide +kernel) (pa_cons (pe_xfP T.xf1 T.fth hX (pv 0)) pa_nil)) pa_nil))))) pss_nil) (pss_cons (ps_if (pt_val (pe_callB (id := "isinstance") (cr_isX hC hX) (by rfl) T.f_isinstance (by decide +kernel) (pa_cons (pv 0) (pa_cons (pe_glob (v := .ref (He.ga K "Full")) rfl T.g_Full rfl) pa_nil)))) (pss_one (ps_ret (pe_tup (pa_cons pe_str (pa_cons (pe_xfP T.xf2 T.fmo hX (pv 0)) pa_nil))))) pss_nil) (pss_cons (ps_set (i := 1) sc__law_said_of.nd rfl (Or.inl rfl) (pe_lst (pa_cons (pe_callB (id := "isinstance") (cr_isX hC hX) (by rfl) T.f_isinstance (by decide +kernel) (pa_cons (pv 0) (pa_cons (pe_glob (v := .ref (He.ga K "NoName")) rfl T.g_NoName rfl) pa_nil))) (pa_cons (pe_callB (id := "isinstance") (cr_isX hC hX) (by rfl) T.f_isinstance (by decide +kernel) (pa_cons (pv 0) (pa_cons (pe_glob (v := .ref (He.ga K "Within")) rfl T.g_Within rfl) pa_nil))) (pa_cons (pe_callB (id := "isinstance") (cr_isX hC hX) (by rfl) T.f_isinstance (by decide +kernel) (pa_cons (pv 0) (pa_cons (pe_glob (v := .ref (He.ga K "NoNumber")) rfl T.g_NoNumber rfl) pa_nil))) (pa_cons (pe_callB (id := "isinstance") (cr_isX hC hX) (by rfl) T.f_isinstance (by decide +kernel) (pa_cons (pv 0) (pa_cons (pe_glob (v := .ref (He.ga K "NoParent")) rfl T.g_NoParent rfl) pa_nil))) pa_nil)))))) (pss_cons (ps_set (i := 1) sc__law_said_of.nd rfl (Or.inl rfl) (pe_op op_cat (pv 1) (pe_lst (pa_cons (pe_callB (id := "isinstance") (cr_isX hC hX) (by rfl) T.f_isinstance (by decide +kernel) (pa_cons (pv 0) (pa_cons (pe_glob (v := .ref (He.ga K "HasArms")) rfl T.g_HasArms rfl) pa_nil))) (pa_cons (pe_callB (id := "isinstance") (cr_isX hC hX) (by rfl) T.f_isinstance (by decide +kernel) (pa_cons (pv 0) (pa_cons (pe_glob (v := .ref (He.ga K "NoRun")) rfl T.g_NoRun rfl) pa_nil))) (pa_cons (pe_callB (id := "isinstance") (cr_isX hC hX) (by rfl) T.f_isinstance (by decide +kernel) (pa_cons (pv 0) (pa_cons (pe_glob (v := .ref (He.ga K "NoTree")) rfl T.g_NoTree rfl) pa_nil))) pa_nil)))))) (pss_cons (ps_if (PW.pt (pw_or (pt_cmpR op_ne (pe_bm PySem.F.plainAttrs_list PySem.F.slot_list_count PySem.F.type_list_count mt_cntF (pv 1) (pa_cons pe_bl pa_nil)) pe_int (nomark _)) (pw_or (pt_val (pe_callB (id := "isinstance") (cr_isX hC hX) (by rfl) T.f_isinstance (by decide +kernel) (pa_cons (pv 0) (pa_cons (pe_tup (pa_cons (pe_glob (v := .ref (He.ga K "NoArm")) rfl T.g_NoArm rfl) (pa_cons (pe_glob (v := .ref (He.ga K "NoPlace")) rfl T.g_NoPlace rfl) (pa_cons (pe_glob (v := .ref (He.ga K "NoRow")) rfl T.g_NoRow rfl) pa_nil)))) pa_nil)))) (pw_or1 (pt_not (pt_val (pe_callB (id := "isinstance") (cr_isX hC hX) (by rfl) T.f_isinstance (by decide +kernel) (pa_cons (pv 0) (pa_cons (pe_ty (n := "ValueError") T.f_ValueError) pa_nil))))))))) (pss_one (ps_ret (pe_tup (pa_cons pe_str pa_nil)))) pss_nil) (pss_one (ps_ret (pe_tup (pa_cons (pe_ix ix_list (pe_lst (pa_cons pe_str (pa_cons pe_str (pa_cons pe_str (pa_cons pe_str (pa_cons pe_str (pa_cons pe_str (pa_cons pe_str pa_nil)))))))) (pe_bm PySem.F.plainAttrs_list PySem.F.slot_list_index PySem.F.type_list_index mt_index (pv 1) (pa_cons pe_bl pa_nil)) (fun _ _ => rfl)) pa_nil))))))))), ?_⟩
    have m : ∀ {i : Nat} {y : Str}, exL[i]? = some y → y ∈ exL := fun h => List.mem_of_getElem? h
    refine ⟨_, rfl, hdd, _, .inl ⟨_, _, rfl, .own _, T.exo _ hm _ (m (i := 10) rfl)⟩, _, rfl, ?_⟩
    cases e with
    | bead pd =>
      obtain ⟨dd, v, rfl, hd, ht, hs⟩ := he
      refine iteT ⟨_, rfl, rfl, rfl, dd, _, v, rfl, hd, rfl, ?_⟩
      refine ⟨v, pd, rfl, ht, hs.s, le_line (Nat.le_trans hs.l (by decide)), hs.p, (by show 2 ≤ sizeLine; decide), fun t ht2 => ?_⟩
      exact q _ _ (same_new ht2) (.tup (SqT.of upd_same) (.cons (.str _) (.cons (.str _) .nil)))
    | full n =>
      obtain ⟨dd, rfl, hd⟩ := he
      refine iteF ?_
      refine ⟨_, rfl, hdd, _, .inl ⟨_, _, rfl, .own _, T.exo _ hm _ (m (i := 11) rfl)⟩, _, rfl, ?_⟩
      refine iteT ⟨_, rfl, rfl, rfl, dd, _, _, rfl, hd, rfl, (by show 2 ≤ sizeLine; decide), fun t ht2 => ?_⟩
      exact q _ _ (same_new ht2) (.tup (SqT.of upd_same) (.cons (.str _) (.cons (.int _) .nil)))
    | plain i =>
      obtain ⟨hi, rfl⟩ := he
      have n1 : decide ((Er.plain i).name = "NoBead") = false := by
        rcases i with _ | _ | _ | _ | _ | _ | _ | i
        all_goals first | (decide +kernel) | omega
      have n2 : decide ((Er.plain i).name = "Full") = false := by
        rcases i with _ | _ | _ | _ | _ | _ | _ | i
        all_goals first | (decide +kernel) | omega
      rw [n1]
      refine iteF ?_
      refine ⟨_, rfl, hdd, _, .inl ⟨_, _, rfl, .own _, T.exo _ hm _ (m (i := 11) rfl)⟩, _, rfl, ?_⟩
      rw [n2]
      refine iteF ?_
      refine ⟨_, rfl, hdd, _, .inl ⟨_, _, rfl, .own _, T.exo _ hm _ (m (i := 3) rfl)⟩, ?_⟩
      refine ⟨_, rfl, hdd, _, .inl ⟨_, _, rfl, .own _, T.exo _ hm _ (m (i := 7) rfl)⟩, ?_⟩
      refine ⟨_, rfl, hdd, _, .inl ⟨_, _, rfl, .own _, T.exo _ hm _ (m (i := 2) rfl)⟩, ?_⟩
      refine ⟨_, rfl, hdd, _, .inl ⟨_, _, rfl, .own _, T.exo _ hm _ (m (i := 8) rfl)⟩, ?_⟩
      refine ⟨(by show 4 ≤ sizeLine; decide), fun l1 hl1 => ?_⟩
      have S1 := same_new hl1 (o := HO.lst [V.bl (decide ((Er.plain i).name = "NoName")), .bl (decide ((Er.plain i).name = "Within")), .bl (decide ((Er.plain i).name = "NoNumber")), .bl (decide ((Er.plain i).name = "NoParent"))])
      have h1 : (upd H l1 (.lst [V.bl (decide ((Er.plain i).name = "NoName")), .bl (decide ((Er.plain i).name = "Within")), .bl (decide ((Er.plain i).name = "NoNumber")), .bl (decide ((Er.plain i).name = "NoParent"))])) l1 = _ := upd_same
      generalize upd H l1 (.lst [V.bl (decide ((Er.plain i).name = "NoName")), .bl (decide ((Er.plain i).name = "Within")), .bl (decide ((Er.plain i).name = "NoNumber")), .bl (decide ((Er.plain i).name = "NoParent"))]) = H1 at S1 h1
      have hdd1 := hdd.mono S1
      refine ⟨_, rfl, ?_⟩
      refine ⟨_, rfl, hdd1, _, .inl ⟨_, _, rfl, .own _, T.exo _ hm _ (m (i := 9) rfl)⟩, ?_⟩
      refine ⟨_, rfl, hdd1, _, .inl ⟨_, _, rfl, .own _, T.exo _ hm _ (m (i := 4) rfl)⟩, ?_⟩
      refine ⟨_, rfl, hdd1, _, .inl ⟨_, _, rfl, .own _, T.exo _ hm _ (m (i := 6) rfl)⟩, ?_⟩
      refine ⟨(by show 3 ≤ sizeLine; decide), fun l2 hl2 => ?_⟩
      have S2 := same_new hl2 (o := HO.lst [V.bl (decide ((Er.plain i).name = "HasArms")), .bl (decide ((Er.plain i).name = "NoRun")), .bl (decide ((Er.plain i).name = "NoTree"))])
      have h2 : (upd H1 l2 (.lst [V.bl (decide ((Er.plain i).name = "HasArms")), .bl (decide ((Er.plain i).name = "NoRun")), .bl (decide ((Er.plain i).name = "NoTree"))])) l2 = _ := upd_same
      generalize upd H1 l2 (.lst [V.bl (decide ((Er.plain i).name = "HasArms")), .bl (decide ((Er.plain i).name = "NoRun")), .bl (decide ((Er.plain i).name = "NoTree"))]) = H2 at S2 h2
      refine ⟨l1, l2, _, _, rfl, rfl, S2 _ _ h1, h2, (by show 4 + 3 ≤ sizeLine; decide), fun l3 hl3 => ?_⟩
      have S3 := same_new hl3 (o := HO.lst ([V.bl (decide ((Er.plain i).name = "NoName")), .bl (decide ((Er.plain i).name = "Within")), .bl (decide ((Er.plain i).name = "NoNumber")), .bl (decide ((Er.plain i).name = "NoParent"))] ++ [V.bl (decide ((Er.plain i).name = "HasArms")), .bl (decide ((Er.plain i).name = "NoRun")), .bl (decide ((Er.plain i).name = "NoTree"))]))
      have h3 : (upd H2 l3 (.lst ([V.bl (decide ((Er.plain i).name = "NoName")), .bl (decide ((Er.plain i).name = "Within")), .bl (decide ((Er.plain i).name = "NoNumber")), .bl (decide ((Er.plain i).name = "NoParent"))] ++ [V.bl (decide ((Er.plain i).name = "HasArms")), .bl (decide ((Er.plain i).name = "NoRun")), .bl (decide ((Er.plain i).name = "NoTree"))]))) l3 = some (.lst (kindL.map fun y => V.bl (decide ((Er.plain i).name = y)))) := upd_same
      generalize upd H2 l3 (.lst ([V.bl (decide ((Er.plain i).name = "NoName")), .bl (decide ((Er.plain i).name = "Within")), .bl (decide ((Er.plain i).name = "NoNumber")), .bl (decide ((Er.plain i).name = "NoParent"))] ++ [V.bl (decide ((Er.plain i).name = "HasArms")), .bl (decide ((Er.plain i).name = "NoRun")), .bl (decide ((Er.plain i).name = "NoTree"))])) = H3 at S3 h3
      have hc : (kindL.map fun y => V.bl (decide ((Er.plain i).name = y))).countP (fun z => eqV z (.bl true)) = 1 := by
        rcases i with _ | _ | _ | _ | _ | _ | _ | i
        all_goals first | (decide +kernel) | omega
      have hat : (kindL.map fun y => V.bl (decide ((Er.plain i).name = y)))[i]? = some (.bl true) := by
        rcases i with _ | _ | _ | _ | _ | _ | _ | i
        all_goals first | rfl | omega
      have hno : ∀ (k : Nat) (z : V), k < i → (kindL.map fun y => V.bl (decide ((Er.plain i).name = y)))[k]? = some z → eqV z (.bl true) = false := fun k z hk hz => by
        rcases i with _ | _ | _ | _ | _ | _ | _ | i
        all_goals (rcases k with _ | _ | _ | _ | _ | _ | _ | k)
        all_goals first | omega | (cases hz; decide +kernel)
      have fa : (kindL.map fun y => V.bl (decide ((Er.plain i).name = y))).all flatV = true := rfl
      refine ⟨_, rfl, .inl ⟨rfl, _, SqL.of h3⟩, l3, _, .bl true, rfl, rfl, SqL.of h3, rfl, fa, ?_⟩
      rw [hc]
      refine ⟨rfl, _, rfl, ?_⟩
      refine iteF ?_
      have S13 := S1.trans (S2.trans S3)
      refine ⟨_, rfl, (by show 3 ≤ sizeLine; decide), fun l4 hl4 => ?_⟩
      have S4 := same_new hl4 (o := HO.tup [.ref (He.ga K "NoArm"), .ref (He.ga K "NoPlace"), .ref (He.ga K "NoRow")])
      have h4 : (upd H3 l4 (.tup [.ref (He.ga K "NoArm"), .ref (He.ga K "NoPlace"), .ref (He.ga K "NoRow")])) l4 = _ := upd_same
      generalize upd H3 l4 (.tup [.ref (He.ga K "NoArm"), .ref (He.ga K "NoPlace"), .ref (He.ga K "NoRow")]) = H4 at S4 h4
      have no : ∀ {y : Str}, y ∈ exL → decide ((Er.plain i).name = y) = false → PySem.W.kitOne K (.ref (He.ga K (Er.plain i).name)) (.ref (He.ga K y)) = some false := fun hy hf => by rw [T.exo _ hm _ hy, hf]
      have f1 : decide ((Er.plain i).name = "NoArm") = false ∧ decide ((Er.plain i).name = "NoPlace") = false ∧ decide ((Er.plain i).name = "NoRow") = false := by
        rcases i with _ | _ | _ | _ | _ | _ | _ | i
        all_goals first | (decide +kernel) | omega
      refine ⟨hdd.mono (S13.trans S4), false, .inr ⟨l4, _, _, rfl, h4, .cons (.own _) (.cons (.own _) (.cons (.own _) .nil)), ?_⟩, _, rfl, ?_⟩
      · exact kitAny_cons (no (m (i := 5) rfl) f1.1) (fun _ => kitAny_cons (no (m (i := 1) rfl) f1.2.1) (fun _ => kitAny_cons (no (m (i := 0) rfl) f1.2.2) (fun _ => kitAny_nil) (fun z => by cases z)) (fun z => by cases z)) (fun z => by cases z)
      refine iteF ?_
      have S14 := S13.trans S4
      refine ⟨_, rfl, hdd.mono S14, true, .inl ⟨_, _, rfl, .ty _, T.exv _ hm⟩, _, rfl, ?_⟩
      refine iteF ?_
      refine ⟨(by show 7 ≤ sizeLine; decide), fun l5 hl5 => ?_⟩
      have S5 := same_new hl5 (o := HO.lst [V.str "name", .str "within", .str "number", .str "root", .str "arms", .str "run", .str "tree"])
      have h5 : (upd H4 l5 (.lst [V.str "name", .str "within", .str "number", .str "root", .str "arms", .str "run", .str "tree"])) l5 = some (.lst (tagL.map V.str)) := upd_same
      generalize upd H4 l5 (.lst [V.str "name", .str "within", .str "number", .str "root", .str "arms", .str "run", .str "tree"]) = H5 at S5 h5
      have h35 := (S4.trans S5) _ _ h3
      have htag : (tagL.map V.str)[i]? = some (.str (tagL.getD i "")) := by
        rcases i with _ | _ | _ | _ | _ | _ | _ | i
        all_goals first | rfl | omega
      refine ⟨_, rfl, .inl ⟨rfl, _, SqL.of h35⟩, l3, _, .bl true, i, _, rfl, rfl, SqL.of h35, rfl, fa, hat, rfl, hno, ?_⟩
      refine ⟨l5, _, _, _, rfl, rfl, .inl (.inl h5), atI_nat htag, ?_⟩
      refine ⟨(by show 1 ≤ sizeLine; decide), fun t ht2 => ?_⟩
      exact q _ _ ((S14.trans S5).trans (same_new ht2)) (.tup (SqT.of upd_same) (.cons (.str _) .nil))
end
end Bt

namespace Bt
open PySem PySem.Spec PyProof.Rows L2
/-! ### what is due is what is refused: numbers are places -/
theorem isB_some {R : RS} (W : RgW R) (i : Idn R) {d : PyData} (h : isBd R.r d = true) : isB R d = some (nOf d) ∧ nOf d < R.r.length := by
  cases d with
  | int k =>
    have h' : (decide (0 ≤ k) && decide (k < (R.r.length : Nat))) = true := h
    rw [Bool.and_eq_true, decide_eq_true_iff, decide_eq_true_iff] at h'
    have hl : k.toNat < R.r.length := by omega
    have hm : R.o[k.toNat]? = some k.toNat := by rw [i, List.getElem?_range hl]
    obtain ⟨b, _, hb⟩ := W.at hm
    refine ⟨?_, hl⟩
    show (if 0 ≤ k ∧ (R.he k.toNat).isSome = true then some k.toNat else none) = some k.toNat
    rw [if_pos ⟨h'.1, by rw [hb]; rfl⟩]
  | _ => cases h
theorem isB_none {R : RS} (W : RgW R) (i : Idn R) {d : PyData} (h : isBd R.r d = false) : isB R d = none := by
  cases d with
  | int k =>
    have h' : (decide (0 ≤ k) && decide (k < (R.r.length : Nat))) = false := h
    show (if 0 ≤ k ∧ (R.he k.toNat).isSome = true then some k.toNat else none) = none
    rw [if_neg]
    rintro ⟨h0, h1⟩
    obtain ⟨b, hb⟩ := Option.isSome_iff_exists.mp h1
    have hm := W.mem _ b hb
    rw [i] at hm
    have hl := List.mem_range.mp hm
    rw [decide_eq_true h0, Bool.true_and] at h'
    have := of_decide_eq_false h'
    omega
  | _ => rfl
theorem map_o {R : RS} (i : Idn R) {l : List Nat} (h : ∀ c ∈ l, c < R.r.length) : (l.map fun k => R.o.getD k 0) = l := by
  conv => rhs; rw [← List.map_id l]
  refine List.map_congr_left fun c hc => ?_
  rw [i, List.getD_eq_getElem?_getD, List.getElem?_range (h c hc)]
  rfl
theorem arc_id {R : RS} (W : RgW R) (i : Idn R) {n : Nat} (h : n < R.r.length) : arcOf R n = arcL R.r n := by
  unfold arcOf
  rw [i.idx h]
  exact map_o i fun c hc => arcL_lt W.good.ne hc
theorem kids_id {R : RS} (W : RgW R) (i : Idn R) {n : Nat} (h : n < R.r.length) : kidsOf R n = kidsL R.r n := by
  unfold kidsOf
  rw [i.idx h]
  exact map_o i fun c hc => kidsL_lt W.good.ne hc
theorem par_id {R : RS} (W : RgW R) (i : Idn R) {n : Nat} (h : n ∈ topsL R.r) : parOf R n = .non := by
  obtain ⟨hl, ht⟩ := mem_tops.mp h
  unfold parOf
  rw [i.idx hl, (par_none W.good hl).mpr ht]
  rfl
/-- the due error is raised -/
def CallW (K : PySem.W.Frag) (H : Hp) (E : XK) (due : PyData) : Prop := ∀ e cls d H', Same H H' → ErX K H' e cls d → e.due = due → E cls d H'
theorem CallW.mono {K : PySem.W.Frag} {H H' : Hp} {E : XK} {due : PyData} (h : CallW K H E due) (S : Same H H') : CallW K H' E due := fun e cls d H2 S2 => h e cls d H2 (S.trans S2)
theorem CallW.bead {K : PySem.W.Frag} {H : Hp} {E : XK} {v : V} {d : PyData} (h : CallW K H E (beadDue d)) (t : TD K H v d) (s : ShowOk d) : NBx K v H E := fun x H' hx S e => h (.bead d) _ _ H' S ⟨rfl, x, v, rfl, e, t.mono S, s⟩ rfl
theorem CallW.full {K : PySem.W.Frag} {H : Hp} {E : XK} {n : Nat} (h : CallW K H E (fullD n)) : FUx K (.int (n : Nat)) H E := fun x H' hx S e => h (.full n) _ _ H' S ⟨rfl, x, rfl, e⟩ rfl
theorem CallW.tag {K : PySem.W.Frag} {H : Hp} {E : XK} (i : Nat) (hi : i < 7) (h : CallW K H E (tagD (tagL.getD i ""))) : XE K (kindL.getD i "") H E := fun H' S => h (.plain i) _ _ H' S ⟨rfl, hi, rfl⟩ rfl
theorem tag_hd {z : Str} {c : Bool} {due : PyData} {r : List PyData} (h : tagIf z c = due :: r) : c = true ∧ due = tagD z := by
  cases c with
  | true => exact ⟨rfl, (List.cons.inj h).1.symm⟩
  | false => cases h
theorem tag_hd2 {z : Str} {c : Bool} {l r : List PyData} {due : PyData} (h : tagIf z c ++ l = due :: r) : (c = true ∧ due = tagD z) ∨ (c = false ∧ l = due :: r) := by
  cases c with
  | true => exact .inl ⟨rfl, (List.cons.inj h).1.symm⟩
  | false => exact .inr ⟨rfl, h⟩
theorem full_hd {n : Nat} {c : Bool} {due : PyData} {r : List PyData} (h : fullIf n c = due :: r) : c = true ∧ due = fullD n := by
  cases c with
  | true => exact ⟨rfl, (List.cons.inj h).1.symm⟩
  | false => cases h
theorem firstN1 {r : Row} {d : PyData} : firstN r [d] = if isBd r d = true then [] else [beadDue d] := rfl
theorem firstN2 {r : Row} {d e : PyData} : firstN r [d, e] = if isBd r d = true then (if isBd r e = true then [] else [beadDue e]) else [beadDue d] := rfl
section
variable {K : PySem.W.Frag} {H : Hp} {E : XK} {Q : VK} {g : Addr} {R : RS} {v0 v1 v2 : V} {d0 d1 d2 due : PyData} {rest : List PyData}
theorem graft_due (hR : Rg K H g (GvC K) R) (W : RgW R) (i : Idn R) (t0 : TD K H v0 d0) (t1 : TD K H v1 d1) (t2 : TD K H v2 d2) (s0 : ShowOk d0) (s1 : ShowOk d1) (h : dueGraft R.r [d0, d1, d2] = due :: rest) (c : CallW K H E due) : spGraftX K [.ref g, v0, v1, v2] H Q E := by
  refine ⟨g, R, v0, d0, v1, d1, v2, d2, rfl, hR, W, t0, t1, t2, ?_⟩
  have h' : (if firstN R.r [d0, d1] = [] then tagIf "within" (decide (nOf d1 ∈ arcL R.r (nOf d0))) ++ tagIf "number" (!dCount d2 0 ((othersL R.r (nOf d0) (nOf d1)).length : Nat)) else firstN R.r [d0, d1]) = due :: rest := h
  rw [firstN2] at h'
  by_cases b0 : isBd R.r d0 = true
  · rw [if_pos b0] at h'
    obtain ⟨e0, l0⟩ := isB_some W i b0
    refine .inr ⟨_, e0, ?_⟩
    by_cases b1 : isBd R.r d1 = true
    · rw [if_pos b1, if_pos rfl] at h'
      obtain ⟨e1, l1⟩ := isB_some W i b1
      refine .inr ⟨_, e1, ?_⟩
      rw [arc_id W i l0]
      rcases tag_hd2 h' with ⟨hc, rfl⟩ | ⟨hc, h2⟩
      · exact .inl ⟨of_decide_eq_true hc, CallW.tag 1 (by decide) c⟩
      · obtain ⟨hc2, rfl⟩ := tag_hd h2
        refine .inr ⟨of_decide_eq_false hc, ?_, CallW.tag 2 (by decide) c⟩
        rw [kids_id W i l1]
        exact (Bool.not_eq_true' _).mp hc2
    · rw [if_neg b1, if_neg (fun z => by cases z)] at h'
      obtain ⟨rfl, _⟩ := List.cons.inj h'
      exact .inl ⟨isB_none W i (Bool.eq_false_iff.mpr b1), c.bead t1 s1⟩
  · rw [if_neg b0, if_neg (fun z => by cases z)] at h'
    obtain ⟨rfl, _⟩ := List.cons.inj h'
    exact .inl ⟨isB_none W i (Bool.eq_false_iff.mpr b0), c.bead t0 s0⟩
theorem uproot_due (hR : Rg K H g (GvC K) R) (W : RgW R) (i : Idn R) (t0 : TD K H v0 d0) (s0 : ShowOk d0) (h : dueOne 1 R.r [d0, d1, d2] = due :: rest) (c : CallW K H E due) : spUprootX K [.ref g, v0] H Q E := by
  refine ⟨g, R, v0, d0, rfl, hR, W, t0, ?_⟩
  have h' : (if firstN R.r [d0] = [] then tagIf "root" (decide (nOf d0 ∈ topsL R.r)) else firstN R.r [d0]) = due :: rest := h
  rw [firstN1] at h'
  by_cases b0 : isBd R.r d0 = true
  · rw [if_pos b0, if_pos rfl] at h'
    obtain ⟨e0, l0⟩ := isB_some W i b0
    obtain ⟨hc, rfl⟩ := tag_hd h'
    exact .inr ⟨_, e0, par_id W i (of_decide_eq_true hc), CallW.tag 3 (by decide) c⟩
  · rw [if_neg b0, if_neg (fun z => by cases z)] at h'
    obtain ⟨rfl, _⟩ := List.cons.inj h'
    exact .inl ⟨isB_none W i (Bool.eq_false_iff.mpr b0), c.bead t0 s0⟩
theorem nip_due (hR : Rg K H g (GvC K) R) (W : RgW R) (i : Idn R) (t0 : TD K H v0 d0) (s0 : ShowOk d0) (h : dueOne 3 R.r [d0, d1, d2] = due :: rest) (c : CallW K H E due) : spNipX K [.ref g, v0] H Q E := by
  refine ⟨g, R, v0, d0, rfl, hR, W, t0, ?_⟩
  have h' : (if firstN R.r [d0] = [] then tagIf "arms" (decide (kidsL R.r (nOf d0) ≠ [])) ++ tagIf "tree" (decide (topsL R.r = [nOf d0])) else firstN R.r [d0]) = due :: rest := h
  rw [firstN1] at h'
  by_cases b0 : isBd R.r d0 = true
  · rw [if_pos b0, if_pos rfl] at h'
    obtain ⟨e0, l0⟩ := isB_some W i b0
    refine .inr ⟨_, e0, ?_⟩
    rw [i.idx l0]
    have kl : (kidsL R.r (nOf d0)).length = dn R.r (nOf d0) := by unfold kidsL; rw [List.length_map, List.length_range]
    rcases tag_hd2 h' with ⟨hc, rfl⟩ | ⟨hc, h2⟩
    · have := of_decide_eq_true hc
      exact .inl ⟨by rw [← kl]; exact List.length_pos_iff.mpr this, CallW.tag 4 (by decide) c⟩
    · obtain ⟨hc2, rfl⟩ := tag_hd h2
      have ht := of_decide_eq_true hc2
      have h0 : dn R.r (nOf d0) = 0 := by
        have := Decidable.of_not_not (of_decide_eq_false hc)
        rw [← kl, this]
        rfl
      have hm : nOf d0 ∈ topsL R.r := by rw [ht]; exact List.mem_singleton.mpr rfl
      exact .inr ⟨h0, par_id W i hm, (nip_one W.good l0 h0 (mem_tops.mp hm).2).mp ht, CallW.tag 6 (by decide) c⟩
  · rw [if_neg b0, if_neg (fun z => by cases z)] at h'
    obtain ⟨rfl, _⟩ := List.cons.inj h'
    exact .inl ⟨isB_none W i (Bool.eq_false_iff.mpr b0), c.bead t0 s0⟩
theorem bud_due (hR : Rg K H g (GvC K) R) (W : RgW R) (i : Idn R) (t0 : TD K H v0 d0) (t1 : TD K H v1 d1) (t2 : TD K H v2 d2) (s0 : small d0 = true) (s1 : ShowOk d1) (h : dueBud R.room R.r [d0, d1, d2] = due :: rest) (c : CallW K H E due) : spBudX K [.ref g, v0, v1, v2] H Q E := by
  refine ⟨g, R, v0, d0, v1, d1, v2, d2, rfl, hR, W, t0, s0, t1, t2, ?_⟩
  have h' : (if dName d0 = true then (if firstN R.r [d1] = [] then tagIf "number" (!dCount d2 0 ((kidsL R.r (nOf d1)).length : Nat)) ++ fullIf R.room (decide (R.r.length = R.room)) else firstN R.r [d1]) else [tagD "name"]) = due :: rest := h
  rw [firstN1] at h'
  by_cases b : dName d0 = true
  · rw [if_pos b] at h'
    refine .inr ⟨b, ?_⟩
    by_cases b1 : isBd R.r d1 = true
    · rw [if_pos b1, if_pos rfl] at h'
      obtain ⟨e1, l1⟩ := isB_some W i b1
      refine .inr ⟨_, e1, ?_⟩
      rw [kids_id W i l1]
      rcases tag_hd2 h' with ⟨hc, rfl⟩ | ⟨hc, h2⟩
      · exact .inl ⟨(Bool.not_eq_true' _).mp hc, CallW.tag 2 (by decide) c⟩
      · obtain ⟨hc2, rfl⟩ := full_hd h2
        refine .inr ⟨?_, of_decide_eq_true hc2, c.full⟩
        cases hd : dCount d2 0 ((kidsL R.r (nOf d1)).length : Nat) with
        | true => rfl
        | false => rw [hd] at hc; cases hc
    · rw [if_neg b1, if_neg (fun z => by cases z)] at h'
      obtain ⟨rfl, _⟩ := List.cons.inj h'
      exact .inl ⟨isB_none W i (Bool.eq_false_iff.mpr b1), c.bead t1 s1⟩
  · rw [if_neg b] at h'
    obtain ⟨rfl, _⟩ := List.cons.inj h'
    exact .inl ⟨Bool.eq_false_iff.mpr b, CallW.tag 0 (by decide) c⟩
theorem swap_due (hR : Rg K H g (GvC K) R) (W : RgW R) (i : Idn R) (t0 : TD K H v0 d0) (t1 : TD K H v1 d1) (s0 : ShowOk d0) (s1 : ShowOk d1) (h : dueSwap R.r [d0, d1] = due :: rest) (c : CallW K H E due) : spSwapX K [.ref g, v0, v1] H Q E := by
  refine ⟨g, R, v0, d0, v1, d1, rfl, hR, W, t0, t1, ?_⟩
  have h' : (if firstN R.r [d0, d1] = [] then tagIf "within" (decide (nOf d0 ∈ arcL R.r (nOf d1)) || decide (nOf d1 ∈ arcL R.r (nOf d0))) else firstN R.r [d0, d1]) = due :: rest := h
  rw [firstN2] at h'
  by_cases b0 : isBd R.r d0 = true
  · rw [if_pos b0] at h'
    obtain ⟨e0, l0⟩ := isB_some W i b0
    refine .inr ⟨_, e0, ?_⟩
    by_cases b1 : isBd R.r d1 = true
    · rw [if_pos b1, if_pos rfl] at h'
      obtain ⟨e1, l1⟩ := isB_some W i b1
      obtain ⟨hc, rfl⟩ := tag_hd h'
      refine .inr ⟨_, e1, ?_, CallW.tag 1 (by decide) c⟩
      rw [arc_id W i l0, arc_id W i l1]
      rw [Bool.or_eq_true, decide_eq_true_iff, decide_eq_true_iff] at hc
      exact hc
    · rw [if_neg b1, if_neg (fun z => by cases z)] at h'
      obtain ⟨rfl, _⟩ := List.cons.inj h'
      exact .inl ⟨isB_none W i (Bool.eq_false_iff.mpr b1), c.bead t1 s1⟩
  · rw [if_neg b0, if_neg (fun z => by cases z)] at h'
    obtain ⟨rfl, _⟩ := List.cons.inj h'
    exact .inl ⟨isB_none W i (Bool.eq_false_iff.mpr b0), c.bead t0 s0⟩
theorem join_due {g' : Addr} {R' : RS} (hR : Rg K H g (GvC K) R) (W : RgW R) (i : Idn R) (hR' : Rg K H g' (He.ga K "Ring") R') (W' : RgW R') (i' : Idn R') (t0 : TD K H v0 d0) (t1 : TD K H v1 d1) (s0 : ShowOk d0) (s1 : ShowOk d1) (h : dueJoin R.r R'.r [d0, d1] = due :: rest) (c : CallW K H E due) : spJoinX K [.ref g, v0, .ref g', v1] H Q E := by
  refine ⟨g, _, R, v0, d0, g', _, R', v1, d1, rfl, .inr rfl, hR, W, t0, .inl rfl, hR', W', t1, ?_⟩
  have h' : firstN R.r [d0] ++ firstN R'.r [d1] ++ fullIf 100 (decide (R.r.length + R'.r.length > 100)) = due :: rest := h
  rw [firstN1, firstN1] at h'
  by_cases b0 : isBd R.r d0 = true
  · rw [if_pos b0] at h'
    obtain ⟨e0, l0⟩ := isB_some W i b0
    refine .inr ⟨_, e0, ?_⟩
    by_cases b1 : isBd R'.r d1 = true
    · rw [if_pos b1] at h'
      obtain ⟨e1, l1⟩ := isB_some W' i' b1
      obtain ⟨hc, rfl⟩ := full_hd h'
      exact .inr ⟨_, e1, of_decide_eq_true hc, c.full⟩
    · rw [if_neg b1] at h'
      obtain ⟨rfl, _⟩ := List.cons.inj h'
      exact .inl ⟨isB_none W' i' (Bool.eq_false_iff.mpr b1), c.bead t1 s1⟩
  · rw [if_neg b0] at h'
    obtain ⟨rfl, _⟩ := List.cons.inj h'
    exact .inl ⟨isB_none W i (Bool.eq_false_iff.mpr b0), c.bead t0 s0⟩
theorem armsFrom_rot {r : Row} (h1 : 1 ≤ r.length) {n : Nat} (hn : n < r.length) : armsFrom r n = (rot r n).map (·.2) := by
  refine List.ext_getElem? fun k => ?_
  unfold armsFrom
  rw [List.getElem?_map, List.getElem?_map]
  have hl := rot_len r n
  by_cases hk : k < r.length
  · rw [List.getElem?_range hk]
    have kl : (kidsL r ((n + k) % r.length)).length = dn r ((n + k) % r.length) := by unfold kidsL; rw [List.length_map, List.length_range]
    have hm : (n + k) % r.length < r.length := Nat.mod_lt _ (by omega)
    have e : (rot r n)[k]? = r[(n + k) % r.length]? := by
      unfold rot
      by_cases c : n + k < r.length
      · rw [List.getElem?_append_left (by rw [List.length_drop]; omega), List.getElem?_drop, Nat.mod_eq_of_lt c]
      · rw [List.getElem?_append_right (by rw [List.length_drop]; omega), List.length_drop, List.getElem?_take_of_lt (by omega)]
        congr 1
        rw [Nat.mod_eq_sub_mod (by omega), Nat.mod_eq_of_lt (by omega)]
        omega
    rw [e, List.getElem?_eq_getElem hm]
    show some (kidsL r ((n + k) % r.length)).length = some _
    rw [kl]
    unfold dn
    rw [Nat.mod_eq_of_lt hm, List.getElem?_eq_getElem hm]
    rfl
  · rw [List.getElem?_eq_none (by rw [List.length_range]; omega), List.getElem?_eq_none (by rw [hl]; omega)]
    rfl
theorem split_due (hR : Rg K H g (GvC K) R) (W : RgW R) (i : Idn R) (t0 : TD K H v0 d0) (t1 : TD K H v1 d1) (s0 : ShowOk d0) (h : dueSplit R.r [d0, d1] = due :: rest) (c : CallW K H E due) : spSplitX K [.ref g, v0, v1] H Q E := by
  refine ⟨g, _, R, v0, d0, v1, d1, rfl, .inr rfl, hR, W, t0, t1, ?_⟩
  have h' : (if firstN R.r [d0] = [] then (if dCount d1 1 ((R.r.length : Nat) - 1 : Int) = true then
      tagIf "tree" (decide (((armsFrom R.r (nOf d0)).take (nOf d1)).sum ≥ ((armsFrom R.r (nOf d0)).take (nOf d1)).length) || decide (((armsFrom R.r (nOf d0)).drop (nOf d1)).sum ≥ ((armsFrom R.r (nOf d0)).drop (nOf d1)).length)) else [tagD "run"]) else firstN R.r [d0]) = due :: rest := h
  rw [firstN1] at h'
  by_cases b0 : isBd R.r d0 = true
  · rw [if_pos b0, if_pos rfl] at h'
    obtain ⟨e0, l0⟩ := isB_some W i b0
    refine .inr ⟨_, e0, ?_⟩
    by_cases b1 : dCount d1 1 ((R.r.length : Nat) - 1 : Int) = true
    · rw [if_pos b1] at h'
      obtain ⟨hc, rfl⟩ := tag_hd h'
      cases d1 with
      | int k =>
        have b1' : (decide ((1 : Int) ≤ k) && decide (k ≤ (R.r.length : Nat) - 1)) = true := b1
        rw [Bool.and_eq_true, decide_eq_true_iff, decide_eq_true_iff] at b1'
        have ek : ((k.toNat : Nat) : Int) = k := by omega
        refine .inr ⟨k.toNat, by rw [ek], by omega, by omega, ?_, CallW.tag 6 (by decide) c⟩
        unfold rowAt badSplit arms
        rw [i.idx l0, rot_len]
        rw [Bool.or_eq_true, decide_eq_true_iff, decide_eq_true_iff, armsFrom_rot W.good.ne l0] at hc
        have hk : nOf (.int k) = k.toNat := rfl
        rw [hk] at hc
        rw [List.length_take, List.length_drop, List.length_map, rot_len] at hc
        rw [List.map_take, List.map_drop]
        rcases hc with hc | hc
        · exact .inl (by omega)
        · exact .inr (by omega)
      | _ => cases b1
    · rw [if_neg b1] at h'
      obtain ⟨rfl, _⟩ := List.cons.inj h'
      exact .inl ⟨Bool.eq_false_iff.mpr b1, CallW.tag 5 (by decide) c⟩
  · rw [if_neg b0, if_neg (fun z => by cases z)] at h'
    obtain ⟨rfl, _⟩ := List.cons.inj h'
    exact .inl ⟨isB_none W i (Bool.eq_false_iff.mpr b0), c.bead t0 s0⟩
end
end Bt

namespace Bt
open PySem PySem.Spec PyProof.Rows L2
/-- a grove and a ring, as the law holds them -/
structure Two (K : PySem.W.Frag) (H : Hp) (g h : Addr) (R R' : RS) : Prop where
  g : Rg K H g (GvC K) R
  h : Rg K H h (He.ga K "Ring") R'
theorem Two.mono {K : PySem.W.Frag} {H H' : Hp} {g h : Addr} {R R' : RS} (t : Two K H g h R R') (S : Same H H') : Two K H' g h R R' := ⟨t.g.mono S, t.h.mono S⟩
structure TwoW (R R' : RS) : Prop where
  W : RgW R
  i : Idn R
  W' : RgW R'
  i' : Idn R'
def spCall (K : PySem.W.Frag) : Sp := fun vs H Q E => ∃ g h R R' l xs ds due rest, ∃ door : Nat, vs = [.ref g, .ref h, .int (door : Nat), .ref l] ∧ Two K H g h R R' ∧ TwoW R R' ∧ H l = some (.lst xs) ∧ TDs K H xs ds ∧ door < 7 ∧ ds.length = drawnLen door ∧ DrawnOk door ds ∧ dueAll door R.room R.r R'.r ds = due :: rest ∧ CallW K H E due
section
variable {P : Program} {w : World} {K : PySem.W.Frag} {mg : Str → Option Value} {base : Heap}
theorem ok__law_call (T : Txt K mg) : FO P w K mg base (L2.CX P w) 9 (a__law_call K) ["_law_grove", "_law_ring", "_law_door", "_law_some"] (spCall K) := by
  refine T.d__law_call.ok sc__law_call (fun vs H Q E h => ?_) (fun cdv A outer s H vs Q E hr h => ?_)
  · obtain ⟨g, h, R, R', l, xs, ds, due, rest, door, rfl, _⟩ := h
    rfl
  · obtain ⟨g, h, R, R', l, xs, ds, due, rest, door, rfl, tw, ⟨W, i, W', i'⟩, hL, hT, hd7, hdl, hS, hdue, c⟩ := h
    have G_Grove_graft := ok_Grove_graft (P := P) (w := w) (base := base) T
    have G_Grove_uproot := ok_Grove_uproot (P := P) (w := w) (base := base) T
    have G_Grove_bud := ok_Grove_budX (P := P) (w := w) (base := base) T
    have G_Grove_nip := ok_Grove_nip (P := P) (w := w) (base := base) T
    have G_Grove_swap := ok_Grove_swap (P := P) (w := w) (base := base) T
    have G_joined := ok_joined (P := P) (w := w) (base := base) T
    have G_split := ok_split (P := P) (w := w) (base := base) T
    have hC : IsRing K (GvC K) := .inr rfl
    have hG : GvC K = He.ga K "Grove" := rfl
    refine ⟨_, (pss_one (ps_if (pt_cmpR op_eq (pv 2) pe_int (nomark _)) (pss_one (ps_expr (pe_meth (pv 0) (T.cls hC) (T.mg_graft hG) G_Grove_graft (hr.mono (by decide)) T.b_Grove_graft .nil passE (pa_cons (pe_ix ix_list (pv 3) pe_int (fun _ _ => rfl)) (pa_cons (pe_ix ix_list (pv 3) pe_int (fun _ _ => rfl)) (pa_cons (pe_ix ix_list (pv 3) pe_int (fun _ _ => rfl)) pa_nil)))))) (pss_one (ps_if (pt_cmpR op_eq (pv 2) pe_int (nomark _)) (pss_one (ps_expr (pe_meth (pv 0) (T.cls hC) (T.mg_uproot hG) G_Grove_uproot (hr.mono (by decide)) T.b_Grove_uproot .nil passE (pa_cons (pe_ix ix_list (pv 3) pe_int (fun _ _ => rfl)) pa_nil)))) (pss_one (ps_if (pt_cmpR op_eq (pv 2) pe_int (nomark _)) (pss_one (ps_expr (pe_meth (pv 0) (T.cls hC) (T.mg_bud hG) G_Grove_bud (hr.mono (by decide)) T.b_Grove_bud .nil passE (pa_cons (pe_ix ix_list (pv 3) pe_int (fun _ _ => rfl)) (pa_cons (pe_ix ix_list (pv 3) pe_int (fun _ _ => rfl)) (pa_cons (pe_ix ix_list (pv 3) pe_int (fun _ _ => rfl)) pa_nil)))))) (pss_one (ps_if (pt_cmpR op_eq (pv 2) pe_int (nomark _)) (pss_one (ps_expr (pe_meth (pv 0) (T.cls hC) (T.mg_nip hG) G_Grove_nip (hr.mono (by decide)) T.b_Grove_nip .nil passE (pa_cons (pe_ix ix_list (pv 3) pe_int (fun _ _ => rfl)) pa_nil)))) (pss_one (ps_if (pt_cmpR op_eq (pv 2) pe_int (nomark _)) (pss_one (ps_expr (pe_meth (pv 0) (T.cls hC) (T.mg_swap hG) G_Grove_swap (hr.mono (by decide)) T.b_Grove_swap .nil passE (pa_cons (pe_ix ix_list (pv 3) pe_int (fun _ _ => rfl)) (pa_cons (pe_ix ix_list (pv 3) pe_int (fun _ _ => rfl)) pa_nil))))) (pss_one (ps_if (pt_cmpR op_eq (pv 2) pe_int (nomark _)) (pss_one (ps_expr (pe_call G_joined (hr.mono (by decide)) rfl T.g_joined T.d_joined.kp T.b_joined .nil passE (pa_cons (pv 0) (pa_cons (pe_ix ix_list (pv 3) pe_int (fun _ _ => rfl)) (pa_cons (pv 1) (pa_cons (pe_ix ix_list (pv 3) pe_int (fun _ _ => rfl)) pa_nil))))))) (pss_one (ps_expr (pe_call G_split (hr.mono (by decide)) rfl T.g_split T.d_split.kp T.b_split .nil passE (pa_cons (pv 0) (pa_cons (pe_ix ix_list (pv 3) pe_int (fun _ _ => rfl)) (pa_cons (pe_ix ix_list (pv 3) pe_int (fun _ _ => rfl)) pa_nil)))))))))))))))))), ?_⟩
    have dl : ∀ k : Nat, decide (V.int ((door : Nat) : Int) = V.int ((k : Nat) : Int)) = decide (door = k) := fun k => dec_nat
    refine ⟨_, rfl, rfl, _, rfl, ?_⟩
    show (if decide (V.int ((door : Nat) : Int) = V.int ((0 : Nat) : Int)) = true then _ else _)
    rw [dl]
    by_cases c0 : door = 0
    · rw [decide_eq_true c0]
      refine iteT ?_
      have d3 : ds.length = 3 := by rw [hdl, c0]; rfl
      have x3 : xs.length = 3 := by rw [hT.l, d3]
      obtain ⟨x0, x1, x2, rfl⟩ := three_of x3
      obtain ⟨e0, e1, e2, rfl⟩ := three_of d3
      obtain ⟨t0, t1, t2⟩ := tds3 hT
      have h' : dueGraft R.r [e0, e1, e2] = due :: rest := by rw [c0] at hdue; exact hdue
      have hg := tw.g
      obtain ⟨dx, lo, hd, hh, kvs, hs, hR⟩ := tw.g
      exact ⟨_, rfl, g, dx, _, rfl, hR.ins, rfl, _, rfl, l, _, _, _, rfl, rfl, .inl (.inl hL), (show atI [x0, x1, x2] ((0 : Nat) : Int) = some x0 from atI_nat rfl), _, rfl, l, _, _, _, rfl, rfl, .inl (.inl hL), (show atI [x0, x1, x2] ((1 : Nat) : Int) = some x1 from atI_nat rfl), _, rfl, l, _, _, _, rfl, rfl, .inl (.inl hL), (show atI [x0, x1, x2] ((2 : Nat) : Int) = some x2 from atI_nat rfl), graft_due (Q := fun _ _ => True) hg W i t0 t1 t2 (hS.a (by omega)) (hS.b (by omega)) h' c⟩
    rw [decide_eq_false c0]
    refine iteF ?_
    refine ⟨_, rfl, rfl, _, rfl, ?_⟩
    show (if decide (V.int ((door : Nat) : Int) = V.int ((1 : Nat) : Int)) = true then _ else _)
    rw [dl]
    by_cases c1 : door = 1
    · rw [decide_eq_true c1]
      refine iteT ?_
      have d3 : ds.length = 3 := by rw [hdl, c1]; rfl
      have x3 : xs.length = 3 := by rw [hT.l, d3]
      obtain ⟨x0, x1, x2, rfl⟩ := three_of x3
      obtain ⟨e0, e1, e2, rfl⟩ := three_of d3
      obtain ⟨t0, t1, t2⟩ := tds3 hT
      have h' : dueOne 1 R.r [e0, e1, e2] = due :: rest := by rw [c1] at hdue; exact hdue
      have hg := tw.g
      obtain ⟨dx, lo, hd, hh, kvs, hs, hR⟩ := tw.g
      exact ⟨_, rfl, g, dx, _, rfl, hR.ins, rfl, _, rfl, l, _, _, _, rfl, rfl, .inl (.inl hL), (show atI [x0, x1, x2] ((0 : Nat) : Int) = some x0 from atI_nat rfl), uproot_due (Q := fun _ _ => True) hg W i t0 (hS.a (by omega)) h' c⟩
    rw [decide_eq_false c1]
    refine iteF ?_
    refine ⟨_, rfl, rfl, _, rfl, ?_⟩
    show (if decide (V.int ((door : Nat) : Int) = V.int ((2 : Nat) : Int)) = true then _ else _)
    rw [dl]
    by_cases c2 : door = 2
    · rw [decide_eq_true c2]
      refine iteT ?_
      have d3 : ds.length = 3 := by rw [hdl, c2]; rfl
      have x3 : xs.length = 3 := by rw [hT.l, d3]
      obtain ⟨x0, x1, x2, rfl⟩ := three_of x3
      obtain ⟨e0, e1, e2, rfl⟩ := three_of d3
      obtain ⟨t0, t1, t2⟩ := tds3 hT
      have h' : dueBud R.room R.r [e0, e1, e2] = due :: rest := by rw [c2] at hdue; exact hdue
      have hg := tw.g
      obtain ⟨dx, lo, hd, hh, kvs, hs, hR⟩ := tw.g
      exact ⟨_, rfl, g, dx, _, rfl, hR.ins, rfl, _, rfl, l, _, _, _, rfl, rfl, .inl (.inl hL), (show atI [x0, x1, x2] ((0 : Nat) : Int) = some x0 from atI_nat rfl), _, rfl, l, _, _, _, rfl, rfl, .inl (.inl hL), (show atI [x0, x1, x2] ((1 : Nat) : Int) = some x1 from atI_nat rfl), _, rfl, l, _, _, _, rfl, rfl, .inl (.inl hL), (show atI [x0, x1, x2] ((2 : Nat) : Int) = some x2 from atI_nat rfl), bud_due (Q := fun _ _ => True) hg W i t0 t1 t2 (hS.z c2) (hS.b (by omega)) h' c⟩
    rw [decide_eq_false c2]
    refine iteF ?_
    refine ⟨_, rfl, rfl, _, rfl, ?_⟩
    show (if decide (V.int ((door : Nat) : Int) = V.int ((3 : Nat) : Int)) = true then _ else _)
    rw [dl]
    by_cases c3 : door = 3
    · rw [decide_eq_true c3]
      refine iteT ?_
      have d3 : ds.length = 3 := by rw [hdl, c3]; rfl
      have x3 : xs.length = 3 := by rw [hT.l, d3]
      obtain ⟨x0, x1, x2, rfl⟩ := three_of x3
      obtain ⟨e0, e1, e2, rfl⟩ := three_of d3
      obtain ⟨t0, t1, t2⟩ := tds3 hT
      have h' : dueOne 3 R.r [e0, e1, e2] = due :: rest := by rw [c3] at hdue; exact hdue
      have hg := tw.g
      obtain ⟨dx, lo, hd, hh, kvs, hs, hR⟩ := tw.g
      exact ⟨_, rfl, g, dx, _, rfl, hR.ins, rfl, _, rfl, l, _, _, _, rfl, rfl, .inl (.inl hL), (show atI [x0, x1, x2] ((0 : Nat) : Int) = some x0 from atI_nat rfl), nip_due (Q := fun _ _ => True) hg W i t0 (hS.a (by omega)) h' c⟩
    rw [decide_eq_false c3]
    refine iteF ?_
    refine ⟨_, rfl, rfl, _, rfl, ?_⟩
    show (if decide (V.int ((door : Nat) : Int) = V.int ((4 : Nat) : Int)) = true then _ else _)
    rw [dl]
    by_cases c4 : door = 4
    · rw [decide_eq_true c4]
      refine iteT ?_
      have d3 : ds.length = 3 := by rw [hdl, c4]; rfl
      have x3 : xs.length = 3 := by rw [hT.l, d3]
      obtain ⟨x0, x1, x2, rfl⟩ := three_of x3
      obtain ⟨e0, e1, e2, rfl⟩ := three_of d3
      obtain ⟨t0, t1, t2⟩ := tds3 hT
      have h' : dueSwap R.r [e0, e1] = due :: rest := by rw [c4] at hdue; exact hdue
      have hg := tw.g
      obtain ⟨dx, lo, hd, hh, kvs, hs, hR⟩ := tw.g
      exact ⟨_, rfl, g, dx, _, rfl, hR.ins, rfl, _, rfl, l, _, _, _, rfl, rfl, .inl (.inl hL), (show atI [x0, x1, x2] ((0 : Nat) : Int) = some x0 from atI_nat rfl), _, rfl, l, _, _, _, rfl, rfl, .inl (.inl hL), (show atI [x0, x1, x2] ((1 : Nat) : Int) = some x1 from atI_nat rfl), swap_due (Q := fun _ _ => True) hg W i t0 t1 (hS.a (by omega)) (hS.b (by omega)) h' c⟩
    rw [decide_eq_false c4]
    refine iteF ?_
    refine ⟨_, rfl, rfl, _, rfl, ?_⟩
    show (if decide (V.int ((door : Nat) : Int) = V.int ((5 : Nat) : Int)) = true then _ else _)
    rw [dl]
    by_cases c5 : door = 5
    · rw [decide_eq_true c5]
      refine iteT ?_
      have d2 : ds.length = 2 := by rw [hdl, c5]; rfl
      have x2 : xs.length = 2 := by rw [hT.l, d2]
      obtain ⟨x0, x1, rfl⟩ := two_ofL x2
      obtain ⟨e0, e1, rfl⟩ := two_ofL d2
      obtain ⟨t0, t1⟩ := tds2 hT
      have h' : dueJoin R.r R'.r [e0, e1] = due :: rest := by rw [c5] at hdue; exact hdue
      exact ⟨_, rfl, _, rfl, l, _, _, _, rfl, rfl, .inl (.inl hL), (show atI [x0, x1] ((0 : Nat) : Int) = some x0 from atI_nat rfl), _, rfl, _, rfl, l, _, _, _, rfl, rfl, .inl (.inl hL), (show atI [x0, x1] ((1 : Nat) : Int) = some x1 from atI_nat rfl), join_due (Q := fun _ _ => True) tw.g W i tw.h W' i' t0 t1 (hS.a (by omega)) (hS.b (by omega)) h' c⟩
    rw [decide_eq_false c5]
    refine iteF ?_
    have c6 : door = 6 := by omega
    have d2 : ds.length = 2 := by rw [hdl, c6]; rfl
    have x2 : xs.length = 2 := by rw [hT.l, d2]
    obtain ⟨x0, x1, rfl⟩ := two_ofL x2
    obtain ⟨e0, e1, rfl⟩ := two_ofL d2
    obtain ⟨t0, t1⟩ := tds2 hT
    have h' : dueSplit R.r [e0, e1] = due :: rest := by rw [c6] at hdue; exact hdue
    exact ⟨_, rfl, _, rfl, l, _, _, _, rfl, rfl, .inl (.inl hL), (show atI [x0, x1] ((0 : Nat) : Int) = some x0 from atI_nat rfl), _, rfl, l, _, _, _, rfl, rfl, .inl (.inl hL), (show atI [x0, x1] ((1 : Nat) : Int) = some x1 from atI_nat rfl), split_due (Q := fun _ _ => True) tw.g W i t0 t1 (hS.a (by omega)) h' c⟩
end
end Bt

namespace Bt
open PySem PySem.Spec PyProof.Rows L2
/-! ### the state's text: what it is made of -/
noncomputable def stateD (R R' : RS) : PyData := .list [numD R.r.length, .tuple (rowD R.r), .int (R.hist : Nat), .int (R.room : Nat), .str (rowT (leastR R.r)), .tuple (rowD R'.r), .int (R'.hist : Nat)]
theorem okS_app {a b : Str} (ha : PyData.strOk a = true) (hb : PyData.strOk b = true) : PyData.strOk (a ++ b) = true := by
  show (a.cps ++ b.cps).all (· < 0x110000) = true
  rw [Array.all_append]
  exact Bool.and_eq_true_iff.mpr ⟨ha, hb⟩
theorem okS_join {y : Str} (hy : PyData.strOk y = true) : ∀ {ps : List Str}, (∀ p ∈ ps, PyData.strOk p = true) → PyData.strOk (Str.join y ps) = true
  | [], _ => (show PyData.strOk Str.empty = true by decide +kernel)
  | [x], h => h x (List.mem_singleton.mpr rfl)
  | x :: z :: r, h => okS_app (okS_app (h x List.mem_cons_self) hy) (okS_join hy fun p hp => h p (List.mem_cons_of_mem _ hp))
theorem okS_name {z : Str} (h : nameB z = true) : PyData.strOk z = true := by
  unfold nameB at h
  rw [Bool.and_eq_true, Bool.and_eq_true] at h
  have h1 := List.all_eq_true.mp h.2.2
  show z.cps.all (· < 0x110000) = true
  rw [Array.all_eq_true_iff_forall_mem]
  intro c hc
  have h2 := h1 c (Array.mem_toList_iff.mpr hc)
  unfold lowB at h2
  exact List.all_eq_true.mp (show letters.cps.toList.all (fun c => decide (c < 0x110000)) = true by decide +kernel) c (of_decide_eq_true h2)
theorem small_int {n : Nat} (h : n ≤ 1000) : (Str.ofString (toString ((n : Nat) : Int))).length ≤ 13 := PyData.shown_int_le (i := ((n : Nat) : Int)) (by show n < 10 ^ 12; omega)
theorem log_small {n : Nat} (h : n ≤ 1000) : (n : Nat).log2 < 1920 := by
  by_cases h0 : n = 0
  · rw [h0]; decide
  · have := (Nat.log2_lt h0 (k := 10)).mpr (Nat.lt_of_le_of_lt h (by decide))
    omega
theorem bead_le {r : Row} (g : Good r) {b : Str × Nat} (hb : b ∈ r) : b.2 ≤ 100 := by
  obtain ⟨i, hi⟩ := List.getElem?_of_mem hb
  have h1 : (r.map (·.2))[i]? = some b.2 := by rw [List.getElem?_map, hi]; rfl
  have h2 := sum_ge h1
  have h3 := g.lt
  have h4 := g.le
  unfold arms at h3
  omega
theorem okS_rowT {r : Row} (g : Good r) : PyData.strOk (rowT r) = true := by
  unfold rowT
  rw [show Txt.join " " (r.map beadT) = Str.join " " (r.map beadT) from TL.join_eq _ _]
  refine okS_join (by decide +kernel) fun p hp => ?_
  obtain ⟨b, hb, rfl⟩ := List.mem_map.mp hp
  exact okS_app (okS_name (g.nm b hb)) (int_strOk _)
theorem len_app (a b : Str) : (a ++ b).length = a.length + b.length := by
  show (a.cps ++ b.cps).size = _
  rw [Array.size_append]
  rfl
theorem len_rowT {r : Row} (g : Good r) : (rowT r).length ≤ 3000 := by
  unfold rowT
  rw [show Txt.join " " (r.map beadT) = Str.join " " (r.map beadT) from TL.join_eq _ _]
  have key : ∀ {l : Row}, (∀ b ∈ l, nameB b.1 = true ∧ b.2 ≤ 100) → (Str.join " " (l.map beadT)).length ≤ 22 * l.length := by
    intro l
    induction l with
    | nil => intro _; exact Nat.le_refl 0
    | cons b l ih =>
      intro h
      have hb := h b List.mem_cons_self
      have h1 : (beadT b).length ≤ 21 := by
        unfold beadT
        rw [len_app]
        have := (nameB_len hb.1).2
        have := small_int (n := b.2) (by omega)
        omega
      cases l with
      | nil =>
        show (beadT b).length ≤ _
        rw [List.length_singleton]
        omega
      | cons c l =>
        have h2 := ih fun z hz => h z (List.mem_cons_of_mem _ hz)
        show (beadT b ++ " " ++ Str.join " " ((c :: l).map beadT)).length ≤ _
        rw [len_app, len_app]
        have : (Str.ofString " ").length = 1 := rfl
        have e : (b :: c :: l).length = (c :: l).length + 1 := rfl
        rw [e]
        omega
  have := key fun b hb => ⟨g.nm b hb, bead_le g hb⟩
  have := g.le
  omega
theorem all_show {r : Row} (g : ∀ b ∈ r, nameB b.1 = true ∧ b.2 ≤ 100) : PyData.showableAll (rowD r) = true ∧ PyData.leavesShortAll 13 (rowD r) = true ∧ PyData.bulkAll (rowD r) ≤ 11 * r.length ∧ PyData.depthAll (rowD r) ≤ 1 := by
  induction r with
  | nil => exact ⟨rfl, rfl, Nat.le_refl _, Nat.zero_le _⟩
  | cons b r ih =>
    obtain ⟨h1, h2, h3, h4⟩ := ih fun z hz => g z (List.mem_cons_of_mem _ hz)
    obtain ⟨hb1, hb2⟩ := g b List.mem_cons_self
    have hn := (nameB_len hb1).2
    have hok := okS_name hb1
    have hi := small_int (n := b.2) (by omega)
    have hl := log_small (n := b.2) (by omega)
    have hch : (b.1.cps.toList.all fun c => decide (c < 16 ^ 8)) = true := List.all_eq_true.mpr fun c hc => by
      have := (Array.all_eq_true_iff_forall_mem.mp hok) c (Array.mem_toList_iff.mp hc)
      have := of_decide_eq_true this
      exact decide_eq_true (by omega)
    have e : rowD (b :: r) = beadD b :: rowD r := rfl
    rw [e]
    refine ⟨?_, ?_, ?_, ?_⟩
    · simp only [PyData.showableAll, beadD, PyData.showable, h1, Bool.and_true, Bool.true_and, Int.natAbs_natCast, decide_eq_true_eq]
      exact hl
    · have hi' : (PyData.shown (.int ((b.2 : Nat) : Int))).length ≤ 13 := hi
      simp only [PyData.leavesShortAll, beadD, PyData.leavesShort, h2, Bool.and_true, Bool.and_eq_true, decide_eq_true_eq]
      exact ⟨hch, hi'⟩
    · have hn' : b.1.cps.size ≤ 8 := hn
      simp only [PyData.bulkAll, beadD, PyData.bulk, List.length_cons]
      omega
    · simp only [PyData.depthAll, beadD, PyData.depth]
      omega
theorem all_ints {l : List Nat} (h : ∀ n ∈ l, n ≤ 1000) : PyData.showableAll ((zs l).map PyData.int) = true ∧ PyData.leavesShortAll 13 ((zs l).map PyData.int) = true ∧ PyData.bulkAll ((zs l).map PyData.int) ≤ l.length ∧ PyData.depthAll ((zs l).map PyData.int) = 0 := by
  induction l with
  | nil => exact ⟨rfl, rfl, Nat.le_refl _, rfl⟩
  | cons n l ih =>
    obtain ⟨h1, h2, h3, h4⟩ := ih fun z hz => h z (List.mem_cons_of_mem _ hz)
    have hn := h n List.mem_cons_self
    have hi' : (PyData.shown (.int ((n : Nat) : Int))).length ≤ 13 := small_int hn
    have e : (zs (n :: l)).map PyData.int = .int ((n : Nat) : Int) :: (zs l).map PyData.int := rfl
    have hl := log_small hn
    rw [e]
    refine ⟨?_, ?_, ?_, ?_⟩
    · simp only [PyData.showableAll, PyData.showable, h1, Bool.and_true, Int.natAbs_natCast, decide_eq_true_eq]
      exact hl
    · simp only [PyData.leavesShortAll, PyData.leavesShort, h2, Bool.and_true, decide_eq_true_eq]
      exact hi'
    · simp only [PyData.bulkAll, PyData.bulk, List.length_cons]
      omega
    · simp only [PyData.depthAll, PyData.depth, h4]
      decide
theorem state_ok {R R' : RS} (W : RgW R) (W' : RgW R') : (stateD R R').showable = true ∧ (stateD R R').shown.length ≤ sizeLine ∧ (stateD R R').depth ≤ 30 := by
  have gl := leastR_is W.good
  obtain ⟨a1, a2, a3, a4⟩ := all_show fun b hb => ⟨W.good.nm b hb, bead_le W.good hb⟩
  obtain ⟨b1, b2, b3, b4⟩ := all_show fun b hb => ⟨W'.good.nm b hb, bead_le W'.good hb⟩
  obtain ⟨c1, c2, c3, c4⟩ := all_ints (l := List.range R.r.length) fun n hn => by
    have := List.mem_range.mp hn
    have := W.good.le
    omega
  have hT := okS_rowT gl.2
  have hTl : (rowT (leastR R.r)).cps.size ≤ 3000 := len_rowT gl.2
  have l1 := W.good.le
  have l2 := W'.good.le
  have hch : ((rowT (leastR R.r)).cps.toList.all fun c => decide (c < 16 ^ 8)) = true := List.all_eq_true.mpr fun c hc => by
    have := (Array.all_eq_true_iff_forall_mem.mp hT) c (Array.mem_toList_iff.mp hc)
    have := of_decide_eq_true this
    exact decide_eq_true (by omega)
  refine ⟨?_, ?_, ?_⟩
  · simp only [stateD, numD, PyData.showable, PyData.showableAll, a1, b1, c1, Bool.and_true, Bool.true_and, Bool.and_eq_true, Int.natAbs_natCast, decide_eq_true_eq]
    exact ⟨log_small W.hz, log_small W.rz, log_small W'.hz⟩
  · refine PyData.shown_fits_bulk (B := 13) (by decide) (by decide) ?_ ?_
    · have i1 : (PyData.shown (.int ((R.hist : Nat) : Int))).length ≤ 13 := small_int W.hz
      have i2 : (PyData.shown (.int ((R.room : Nat) : Int))).length ≤ 13 := small_int W.rz
      have i3 : (PyData.shown (.int ((R'.hist : Nat) : Int))).length ≤ 13 := small_int W'.hz
      simp only [stateD, numD, PyData.leavesShort, PyData.leavesShortAll, a2, b2, c2, Bool.and_true, Bool.true_and, Bool.and_eq_true, decide_eq_true_eq]
      exact ⟨i1, i2, hch, i3⟩
    · rw [List.length_range] at c3
      simp only [stateD, numD, PyData.bulk, PyData.bulkAll]
      omega
  · simp only [stateD, numD, PyData.depth, PyData.depthAll, c4]
    omega
end Bt

namespace Bt
open PySem PySem.Spec PyProof.Rows L2
/-! ### str(x), x an instance with an own __str__ -/
def rStrO (C : Addr) (sp : Sp) : List V → Hp → VK → Prop := fun xs H Q => ∃ a dx fs, xs = [.ref a] ∧ H a = some (.ins C dx fs) ∧ sp [.ref a] H (fun v H' => ∃ y, v = .str y ∧ Q v H') (fun _ _ _ => False)
theorem cr_strO {X : Cx} {k : Nat} {C f : Addr} {fd : FuncData} {sp : Sp} (F : FnOk X.prog X.w X.K X.mg X.base (L2.CX X.prog X.w) k f fd ["self"] sp) (hr : Room (k + 2) X.A) (hm : Meth X.K C "__str__" f) (hb : Binds X.K fd ["self"] []) : CallR X (.type "str") (rStrO C sp) := by
  intro pins s σ H xs us Q I r h
  obtain ⟨a, dx, fs, rfl, ha, q⟩ := h
  rw [Vals.ref1 r]
  obtain ⟨mA, O, _⟩ := ins_get I.hok ha
  obtain ⟨od, J, _⟩ := O.look
  refine PySem.W.kso_call (by have := hr.un; show X.A.units + 1 + 1 < cLine; omega) I.kIn J hm.at_ hm.fn ?_
  have b := hb s [.ref a] I.kIn rfl
  rw [List.append_nil] at b
  have e0 := I.env0
  refine wpAny_call (codeAny_mono (F.run X.A.in1.in1 X.stack s H ⟨[.ref a], []⟩ [.ref a] [.ref a] _ _ hr.in1.in1 { e0 with frames := e0.frames } b (.cons rfl .nil) q) fun r' s' hq => ?_)
  cases r' with
  | error e =>
    obtain ⟨_, _, _, _, _, _, _, _, _, _, _, _, z⟩ := hq
    exact z.elim
  | ok fl =>
    cases fl with
    | ret u =>
      obtain ⟨v, H', I', rv, y, rfl, q'⟩ := I.after hq
      obtain ⟨t, rfl⟩ := rv
      exact ⟨.str y, H', I', ⟨t, rfl⟩, q'⟩
    | next => exact False.elim hq
    | brk => exact False.elim hq
    | cont => exact False.elim hq
def spState (K : PySem.W.Frag) : Sp := fun vs H Q E => ∃ g h R R', vs = [.ref g, .ref h] ∧ Two K H g h R R' ∧ TwoW R R' ∧ ∀ H', Same H H' → Q (.str (stateD R R').shown) H'
section
variable {P : Program} {w : World} {K : PySem.W.Frag} {mg : Str → Option Value} {base : Heap}
theorem ok__law_state (T : Txt K mg) : FGo P w K mg base (L2.CX P w) 9 (a__law_state K) ["_law_grove", "_law_ring"] (spState K) := by
  refine okG T.d__law_state sc__law_state (fun vs H Q E h => ?_) (fun cdv A outer s H vs Q E hr h => ?_)
  · obtain ⟨g, h, R, R', rfl, _⟩ := h
    rfl
  · obtain ⟨g, h, R, R', rfl, tw, ⟨W, i, W', i'⟩, q⟩ := h
    have G_Ring_deeds := ok_Ring_deeds (P := P) (w := w) (base := base) T
    have G_Ring_limit := ok_Ring_limit (P := P) (w := w) (base := base) T
    have G_Ring_numbers := ok_Ring_numbers (P := P) (w := w) (base := base) T
    have G_Ring_row := ok_Ring_row (P := P) (w := w) (base := base) T
    have G_RingU_strU := ok_RingU_strU (P := P) (w := w) (base := base) T
    have hC : IsRing K (GvC K) := .inr rfl
    have hC2 : IsRing K (He.ga K "Ring") := .inl rfl
    obtain ⟨dsr, hvr, hbr⟩ := b_row0 T
    refine ⟨_, (pss_one (ps_ret (pe_callB (id := "repr") (cr_repr hr.g hr.r.units) (by rfl) T.f_repr (by decide +kernel) (pa_cons (pe_lst (pa_cons (pe_meth0 (pv 0) (T.cls hC) (T.mt_numbers hC) G_Ring_numbers (hr.r.mono (by decide)) T.b_Ring_numbers .nil passE) (pa_cons (pe_meth0 (pv 0) (T.cls hC) (T.mt_row hC) G_Ring_row (hr.r.mono (by decide)) hbr hvr passE) (pa_cons (pe_meth0 (pv 0) (T.cls hC) (T.mt_deeds hC) G_Ring_deeds (hr.r.mono (by decide)) T.b_Ring_deeds .nil passE) (pa_cons (pe_meth0 (pv 0) (T.cls hC) (T.mt_limit hC) G_Ring_limit (hr.r.mono (by decide)) T.b_Ring_limit .nil passE) (pa_cons (pe_callTy (T := "str") (cr_strO G_RingU_strU (hr.r.mono (by decide)) (T.mt___str__ hC) T.b_RingU_strU) (by rfl) T.f_str (by decide +kernel) (pa_cons (pv 0) pa_nil)) (pa_cons (pe_meth0 (pv 1) (T.cls hC2) (T.mt_row hC2) G_Ring_row (hr.r.mono (by decide)) hbr hvr passE) (pa_cons (pe_meth0 (pv 1) (T.cls hC2) (T.mt_deeds hC2) G_Ring_deeds (hr.r.mono (by decide)) T.b_Ring_deeds .nil passE) pa_nil)))))))) pa_nil)))), ?_⟩
    obtain ⟨dx, lo, hd, hh, kvs, hs, hR⟩ := tw.g
    obtain ⟨dx', lo', hd', hh', kvs', hs', hR'⟩ := tw.h
    refine ⟨_, rfl, g, dx, _, rfl, hR.ins, rfl, g, _, R, rfl, hC, ⟨dx, lo, hd, hh, kvs, hs, hR⟩, W, i, fun v0 H1 S1 t0 => ?_⟩
    have hR1 := hR.mono S1
    refine ⟨_, rfl, g, dx, _, rfl, hR1.ins, rfl, g, _, R, _, rfl, hC, ⟨dx, lo, hd, hh, kvs, hs, hR1⟩, W, .inl ⟨rfl, i, fun v1 H2 S2 t1 => ?_⟩⟩
    have S12 := S1.trans S2
    have hR2 := hR.mono S12
    refine ⟨_, rfl, g, dx, _, rfl, hR2.ins, rfl, g, _, R, rfl, hC, ⟨dx, lo, hd, hh, kvs, hs, hR2⟩, W, ?_⟩
    refine ⟨_, rfl, g, dx, _, rfl, hR2.ins, rfl, g, _, R, rfl, hC, ⟨dx, lo, hd, hh, kvs, hs, hR2⟩, W, ?_⟩
    refine ⟨_, rfl, g, dx, _, rfl, hR2.ins, g, _, R, rfl, hC, ⟨dx, lo, hd, hh, kvs, hs, hR2⟩, W, fun H3 S3 => ⟨_, rfl, ?_⟩⟩
    have S13 := S12.trans S3
    have hR3 := hR'.mono S13
    refine ⟨_, rfl, h, dx', _, rfl, hR3.ins, rfl, h, _, R', _, rfl, hC2, ⟨dx', lo', hd', hh', kvs', hs', hR3⟩, W', .inl ⟨rfl, i', fun v4 H4 S4 t4 => ?_⟩⟩
    have S14 := S13.trans S4
    have hR4 := hR'.mono S14
    refine ⟨_, rfl, h, dx', _, rfl, hR4.ins, rfl, h, _, R', rfl, hC2, ⟨dx', lo', hd', hh', kvs', hs', hR4⟩, W', ?_⟩
    refine ⟨(by show 7 ≤ sizeLine; decide), fun l hl => ?_⟩
    have S5 := same_new hl (o := HO.lst [v0, v1, .int (R.hist : Nat), .int (R.room : Nat), .str (rowT (leastR R.r)), v4, .int (R'.hist : Nat)])
    have h5 : (upd H4 l (.lst [v0, v1, .int (R.hist : Nat), .int (R.room : Nat), .str (rowT (leastR R.r)), v4, .int (R'.hist : Nat)])) l = _ := upd_same
    obtain ⟨a, b, c⟩ := state_ok W W'
    refine ⟨.ref l, stateD R R', rfl, .inl (.lst (SqL.of h5) (.cons (t0.mono (S2.trans (S3.trans (S4.trans S5)))) (.cons (t1.mono (S3.trans (S4.trans S5))) (.cons (.int _) (.cons (.int _) (.cons (.str _) (.cons (t4.mono S5) (.cons (.int _) .nil)))))))), a, b, c, q _ (S14.trans S5)⟩
end
end Bt

namespace Bt
open PySem PySem.Spec PyProof.Rows L2
def spSaid (K : PySem.W.Frag) : Sp := fun vs H Q E => ∃ g h R R' l xs ds due rest, ∃ door : Nat, vs = [.ref g, .ref h, .int (door : Nat), .ref l] ∧ Two K H g h R R' ∧ TwoW R R' ∧ H l = some (.lst xs) ∧ TDs K H xs ds ∧ door < 7 ∧ ds.length = drawnLen door ∧ DrawnOk door ds ∧ dueAll door R.room R.r R'.r ds = due :: rest ∧ ∀ u H', Same H H' → Dp K H' u due → Q u H'
section
variable {P : Program} {w : World} {K : PySem.W.Frag} {mg : Str → Option Value} {base : Heap}
theorem ok__law_said (T : Txt K mg) : FGo P w K mg base (L2.CX P w) 10 (a__law_said K) ["_law_grove", "_law_ring", "_law_door", "_law_some"] (spSaid K) := by
  refine okG T.d__law_said sc__law_said (fun vs H Q E h => ?_) (fun cdv A outer s H vs Q E hr h => ?_)
  · obtain ⟨g, h, R, R', l, xs, ds, due, rest, door, rfl, _⟩ := h
    rfl
  · obtain ⟨g, h, R, R', l, xs, ds, due, rest, door, rfl, tw, tW, hL, hT, hd7, hdl, hS, hdue, q⟩ := h
    have G__law_call := ok__law_call (P := P) (w := w) (base := base) T
    have G__law_said_of := ok__law_said_of (P := P) (w := w) (base := base) T
    have hrE : RoomE 1 (A.deeper (envOfC "_law_said" (defScope s__law_said) s.heap.objs.size (a__law_said K) cdv)) := ⟨L2H.roomH_of (hr.r.mono (by decide)), hr.g⟩
    refine ⟨_, (pss_cons (ps_set (i := 4) sc__law_said.nd rfl (Or.inl rfl) (pe_tup (pa_cons pe_str pa_nil))) (pss_cons (ps_try_as (i := 5) (Wout := fun _ _ _ _ => False) rfl rfl sc__law_said.nd rfl rfl ⟨rfl, by decide, Or.inl T.g_BeadError⟩ takes0 (fun W pn xe tk _ => (pss_one (ps_expr (pe_callS G__law_call (hr.r.mono (by decide)) rfl T.g__law_call T.d__law_call.kp T.b__law_call (fun σ => passAt tk σ) (pa_cons (pv 0) (pa_cons (pv 1) (pa_cons (pv 2) (pa_cons (pv 3) pa_nil)))))))) (fun a oe cls d pn hz hf => (pss_one (ps_set (i := 4) sc__law_said.nd rfl (Or.inl rfl) (pe_callE G__law_said_of hrE rfl T.g__law_said_of T.d__law_said_of.kp T.b__law_said_of hz hf (pa_cons (pv 5) pa_nil)))))) (pss_one (ps_ret (pv 4))))), ?_⟩
    refine ⟨(by show 1 ≤ sizeLine; decide), fun t ht => ?_⟩
    have S0 := same_new ht (o := HO.tup [.str "told"])
    generalize upd H t (.tup [.str "told"]) = H0 at S0
    refine ⟨_, rfl, _, rfl, _, rfl, _, rfl, g, h, R, R', l, xs, ds, due, rest, door, rfl, tw.mono S0, tW, S0 _ _ hL, hT.mono S0, hd7, hdl, hS, hdue, fun e cls d H1 S1 hx he => ?_⟩
    have hm := hx.mem
    have hc := hx.1
    subst hc
    refine ⟨true, T.exm _ hm, fun _ a ha => ?_, fun z => by cases z⟩
    refine ⟨_, rfl, rfl, e, hx, fun u H2 S2 tu => ?_⟩
    exact ⟨_, rfl, q u H2 (S0.trans (S1.trans S2)) (he ▸ tu)⟩
end
end Bt

namespace Bt
open PySem PySem.Spec PyProof.Rows L2
/-! ### try: .. except A as n: .. except B as n: .. -/
def wTwo (K : PySem.W.Frag) (c1 c2 : Value) (i : Nat) (t1 t2 : Addr → Value → Option Addr → TS) (D : Ends) : WX := wAs K c1 i t1 (wAs K c2 i t2 (fun _ _ _ _ => False) D) D
section
variable {X : Cx} {x1 x2 n : Str} {c1 c2 : Value} {i : Nat} {body su1 su2 : List Stmt} {b1 b2 : Stmt} {np1 np2 pos1 pos2 pos : Pos} {tb : WX → TS} {t1 t2 : Addr → Value → Option Addr → TS}
theorem ps_try_two (hs : X.stack = X.env :: X.outer) (hf : X.env.frame = some X.env.locals) (hN : X.N.Nodup) (hi : X.N[i]? = some n) (hln : X.env.kindOf n = some .local) (hc1 : Names X x1 c1) (hc2 : Names X x2 c2)
    (hb : ∀ (W : WX) (pn : List (Addr × Obj)) (xe : Value → Shared → Prop), Takes (X.tr pn xe) W → PassesOwn (model X.prog X.w) X.A X.env xe → PSs (X.tr pn xe) body (tb W))
    (h1 : ∀ (a : Addr) (oe : Obj) (cls : Value) (d : Option Addr) (pn : List (Addr × Obj)), Zc cls d oe → (∃ vs, oe.data = .fields vs) → PSs (X.suite a ((a, oe) :: pn)) (b1 :: su1) (t1 a cls d))
    (h2 : ∀ (a : Addr) (oe : Obj) (cls : Value) (d : Option Addr) (pn : List (Addr × Obj)), Zc cls d oe → (∃ vs, oe.data = .fields vs) → PSs (X.suite a ((a, oe) :: pn)) (b2 :: su2) (t2 a cls d)) :
    PS X (.Try body [.ExceptHandler (some (.Name x1 np1)) (some n) (b1 :: su1) pos1, .ExceptHandler (some (.Name x2 np2)) (some n) (b2 :: su2) pos2] [] [] pos) (fun D σ H => tb (wTwo X.K c1 c2 i t1 t2 D) D σ H) := by
  refine ⟨fun pins s σ H D I h => ?_⟩
  have ok := I.ok; have hfr : X.A.frames = some (X.env :: X.outer) := by rw [ok.frames, hs]
  have hloc : Loc X.env.scope n := .inl hln
  refine wpAny_Try_except ?_
  let hds : List ExceptHandler := [.ExceptHandler (some (.Name x1 np1)) (some n) (b1 :: su1) pos1, .ExceptHandler (some (.Name x2 np2)) (some n) (b2 :: su2) pos2]
  refine wpAny_mono ((hb (wTwo X.K c1 c2 i t1 t2 D) (X.pn ++ pins) (fun e s₁ => wpAny (model X.prog X.w) X.A (noteFrame e X.env) (fun _ s₂ => wpAny (model X.prog X.w) X.A (setFlight e none) (fun _ s₃ => wpAny (model X.prog X.w) X.A (handleBy e X.env hds) (L2.SP X pins D) X.xe s₃) X.xe s₂) X.xe s₁)
    (fun u s' xx => ?_) PassesOwn.looking).run [] s σ H D (I.toTry _) h) (fun f s1 hsp => ?_) (fun e s1 he => he)
  · obtain ⟨a, B, sI, pins', σ', H', cls, d, rfl, J', nb, up, sky, na, os, ag, w⟩ := xx
    have J : Inv X pins σ' H' sI := J'.ofTry ok; have sky' : Sky B (X.env :: X.outer) a (Zc cls d) X.env.locals s'.heap := by rw [← hs]; exact sky
    show wpAny (model X.prog X.w) X.A (noteFrame (.ref a) X.env) _ _ _
    refine Sky.land Zc.steady hfr hf sky' fun h3 fl3 up3 => ?_
    have J3 : Inv X pins σ' H' { s' with heap := h3 } := J.landed nb fl3.1 (up.trans up3) os ag
    obtain ⟨oe3, vs3, he3, hz3, hd3⟩ := fl3.there
    have nfr : a ∉ frs (X.env :: X.outer) := fun hm => by
      obtain ⟨_, o', e', hnf⟩ := fl3.2.2.1.mem hm
      rw [he3] at e'; cases e'; exact hnf _ hd3
    have nL : a ≠ X.env.locals := fun z => nfr (List.mem_filterMap.mpr ⟨X.env, List.mem_cons_self, by rw [hf, z]⟩)
    have nF : a ∉ X.fs := fun hm => by
      obtain ⟨e, he, q⟩ := List.mem_filterMap.mp hm
      exact nfr (List.mem_filterMap.mpr ⟨e, List.mem_cons_of_mem _ he, q⟩)
    have S3 := J3.suite he3 hd3 na nL nF
    have LT : PySem.W.Looks (model X.prog X.w) h3 (typeOf (.ref a)) cls := fun A Q E s k q => wpAny_typeOf_ref (k _ _ he3) (by rw [hz3.1]; exact q)
    -- one clause
    have one : ∀ {x : Str} {c : Value} {np posx : Pos} {b₀ : Stmt} {su : List Stmt} {ts : Addr → Value → Option Addr → TS} {rest : List ExceptHandler} {Wo : WX}, Names X x c →
        (∀ (a : Addr) (oe : Obj) (cls : Value) (d : Option Addr) (pn : List (Addr × Obj)), Zc cls d oe → (∃ vs, oe.data = .fields vs) → PSs (X.suite a ((a, oe) :: pn)) (b₀ :: su) (ts a cls d)) → wAs X.K c i ts Wo D cls d σ' H' →
        (Wo cls d σ' H' → wpAny (model X.prog X.w) X.A (handleBy (.ref a) X.env rest) (L2.SP X pins D) X.xe { s' with heap := h3 }) →
        wpAny (model X.prog X.w) X.A (handleBy (.ref a) X.env (.ExceptHandler (some (.Name x np)) (some n) (b₀ :: su) posx :: rest)) (L2.SP X pins D) X.xe { s' with heap := h3 } := by
      intro x c np posx b₀ su ts rest Wo hc hsu hw next
      obtain ⟨b, hb1, hyes, hno⟩ := hw
      refine wpAny_handleBy_cons (codeAny_handlers_test ?_) (by intro q; cases q)
      have LM := PySem.W.exm_one (M := model X.prog X.w) (J3.kIn) LT hb1
      have test : ∀ {Q : Value → Shared → Prop} {E : Value → Shared → Prop}, Q c { s' with heap := h3 } → wpAny (model X.prog X.w) (X.A.mark (some (.ref a))) (eval (.Name x np) X.env) Q E { s' with heap := h3 } := fun {Q E} q => by
        obtain ⟨hg, hdbg, hm | ⟨hm, hv, hnn⟩⟩ := hc
        · exact ld_glob (X := X.suite a ((a, oe3) :: (X.pn ++ pins))) S3 hg hm q hdbg
        · exact ld_blt (X := X.suite a ((a, oe3) :: (X.pn ++ pins))) S3 hg hm hv q hnn hdbg
      refine test (LM.here ?_)
      cases b with
      | true =>
        refine codeAny_handlers_suite_as (HandSPX.lands_againZ fl3 fun h4 fl4 up4 => ?_)
        have J4 : Inv X pins σ' H' { s' with heap := h4 } := J.landed nb fl4.1 ((up.trans up3).trans up4) os ag
        obtain ⟨oe4, vs4, he4, hz4, hd4⟩ := fl4.there
        have S4 := J4.suite he4 hd4 na nL nF
        refine store_ok (X := X.suite a ((a, oe4) :: (X.pn ++ pins))) (v := .ref a) S4 hN hi hloc rfl (fun s5 S5 => ?_) (.inr hln)
        refine wpAny_mono ((hsu a oe4 cls d (X.pn ++ pins) hz4 ⟨_, hd4⟩).run [] s5 _ H' _ S5 (hyes rfl a na)) (fun f s6 hsp => ?_) (fun _ _ z => False.elim z)
        have fin : ∀ {σ6 : L2.St} {H6 : Hp} {Q : Shared → Prop}, Inv (X.suite a ((a, oe4) :: (X.pn ++ pins))) [] σ6 H6 s6 → (∀ s7, Inv X pins (σ6.set i none) H6 s7 → Q s7) → wpAny (model X.prog X.w) X.A (do bindName X.env n .none; unbindBehindTheSuite X.env n posx) (fun _ s7 => Q s7) X.xe s6 := fun {σ6 H6 Q} S6 hq => gone_ok (S6.unsuite ok) hN hi hln hq
        cases f with
        | next => obtain ⟨σ6, H6, S6, q6⟩ := hsp; exact fin S6 fun s7 J7 => ⟨_, _, J7, q6⟩
        | brk => obtain ⟨σ6, H6, S6, q6⟩ := hsp; exact fin S6 fun s7 J7 => ⟨_, _, J7, q6⟩
        | cont => obtain ⟨σ6, H6, S6, q6⟩ := hsp; exact fin S6 fun s7 J7 => ⟨_, _, J7, q6⟩
        | ret u => obtain ⟨v6, σ6, H6, S6, r6, q6⟩ := hsp; exact fin S6 fun s7 J7 => ⟨_, _, _, J7, r6, q6⟩
      | false =>
        show wpAny _ X.A (handleBy (.ref a) X.env rest) _ _ _
        exact next (hno rfl)
    exact one hc1 h1 w fun w2 => one hc2 h2 w2 fun w3 => w3.elim
  · cases f with
    | next => obtain ⟨σ', H', J', q⟩ := hsp; exact wpAny_execs_nil ⟨σ', H', J'.ofTry ok, q⟩
    | brk => obtain ⟨σ', H', J', q⟩ := hsp; exact ⟨σ', H', J'.ofTry ok, q⟩
    | cont => obtain ⟨σ', H', J', q⟩ := hsp; exact ⟨σ', H', J'.ofTry ok, q⟩
    | ret u => obtain ⟨v, σ', H', J', r, q⟩ := hsp; exact ⟨v, σ', H', J'.ofTry ok, r, q⟩
end
/-! ### C(e, k = v) in a try -/
def tMakeKS (C : Addr) (n m : Nat) (sp : Sp) (gV : List V → List V → List V) (E : L2.St → XK) (t tk : TA) : TE := fun σ H Q => t σ H fun vs H1 => tk σ H1 fun zs H2 => vs.length = n ∧ zs.length = m ∧ ∀ x dx, H2 x = none → H2 dx = none → dx ≠ x → sp (gV (.ref x :: vs) zs) (upd (upd H2 dx (.own x)) x (.ins C dx [])) (fun v H3 => v = .non ∧ Q (.ref x) H3) (E σ)
section
variable {X : Cx} {CX : CXT} {k n : Nat} {f C : Addr} {fd : FuncData} {ps ks : List Str} {sp : Sp} {E : L2.St → XK} {x : Str} {p pos : Pos} {e : Expr} {es : List Expr} {kws : List Keyword} {t tk : TA} {g : List Value → List Value → List Value} {gV : List V → List V → List V}
theorem run_makeKS {pins : List (Addr × Obj)} {σ : L2.St} {H : Hp} {s : Shared} {Q : VK} {us ws : List Value} {vs zs : List V} (M : Mk X.K C f) (F : FnOk X.prog X.w X.K X.mg X.base CX k f fd ps sp) (hr : Room (k + 1) X.A) (hb : KBn X.K fd ps (n + 1) ks g gV) (hx : PassesAt CX X σ (E σ))
    (I : Inv X pins σ H s) (r : Vals vs us) (rz : Vals zs ws) (l1 : vs.length = n) (l2 : zs.length = ks.length)
    (h : ∀ x dx, H x = none → H dx = none → dx ≠ x → sp (gV (.ref x :: vs) zs) (upd (upd H dx (.own x)) x (.ins C dx [])) (fun v H2 => v = .non ∧ Q (.ref x) H2) (E σ)) : wpAny (model X.prog X.w) X.A (call (.ref C) us (ks.zip ws)) (EP X pins σ Q) X.xe s := by
  have hq := h (s.heap.objs.size + 1) s.heap.objs.size (I.hok.fresh (Nat.le_succ _)) (I.hok.fresh (Nat.le_refl _)) (Nat.ne_of_lt (Nat.lt_succ_self _))
  have I2 := Inv.made (C := C) I
  have r1 : Vals (V.ref (s.heap.objs.size + 1) :: vs) (Value.ref (s.heap.objs.size + 1) :: us) := .cons rfl r
  have n1 : (Value.ref (s.heap.objs.size + 1) :: us).length = n + 1 := by rw [List.length_cons, ← r.length, l1]
  have E2 := I2.env0.make C us (ks.zip ws); have B2 := hb.to _ (Value.ref (s.heap.objs.size + 1) :: us) ws I2.kIn n1 (rz.length.symm.trans l2)
  refine wpAny_call (make_map (f := f) I.kIn M.makes M.init (beq_iff_eq.mp M.fn) (codeAny_mono (F.run _ X.stack _ _ ⟨Value.ref (s.heap.objs.size + 1) :: us, ks.zip ws⟩ (g (Value.ref (s.heap.objs.size + 1) :: us) ws) _ _ (E σ) (hr.make C us (ks.zip ws)) E2 B2 (hb.rel r1 rz) hq) fun r s' hq' => ?_))
  cases r with
  | error e => exact hx pins _ _ e s' I2 hq'
  | ok fl =>
    cases fl with
    | ret u => obtain ⟨v, H', I3, rv, ev, q3⟩ := I2.after hq'; subst ev; exact ⟨rv, ⟨V.ref (s.heap.objs.size + 1), H', I3, rfl, q3⟩⟩
    | next => exact False.elim hq'
    | brk => exact False.elim hq'
    | cont => exact False.elim hq'
theorem pe_makeKS (M : Mk X.K C f) (F : FnOk X.prog X.w X.K X.mg X.base CX k f fd ps sp) (hr : Room (k + 1) X.A) (hg : Gl X x) (hm : X.mg x = some (.ref C)) (hb : KBn X.K fd ps (n + 1) ks g gV) (hx : ∀ σ, PassesAt CX X σ (E σ)) (ha : PA X (e :: es) t) (hkw : PK X kws tk)
    (hall : (backToKw pos (keywordEach kws X.env)).all (·.1.isSome) = true := by rfl) (hks : (backToKw pos (keywordEach kws X.env)).filterMap (·.1) = ks := by rfl) (hdb : (x == ("__debug__" : Str)) = false := by decide) (he : starEach (e :: es) X.env = (false, eval e X.env) :: starEach es X.env := by rfl)
    (hpl : ((backTo pos (starEach (e :: es) X.env)).any (·.1) || (backToKw pos (keywordEach kws X.env)).any (·.1.isNone)) = false := by rfl) : PE X (.Call (.Name x p) (e :: es) kws pos) (tMakeKS C n ks.length sp gV E t tk) := by
  refine ⟨fun pins s σ H Q I h => wpAny_Call_Name_kw (ld_glob I hg hm ?_ hdb)⟩
  refine PySem.W.callWith_KW (h₀ := X.base) I.ok.mod.kin M.kp hall (thn (ha.run pos pins s σ H _ I h) fun us s1 ⟨vs, H1, I1, r, q⟩ => ?_) hpl he
  refine thn (hkw.run pos pins s1 σ H1 _ I1 q) fun ws s2 ⟨zs, H2, I2, rz, l1, l2, q2⟩ => ⟨I2.kIn, ?_⟩
  rw [hks]
  exact run_makeKS M F hr hb (hx σ) I2 r rz l1 l2 q2
end
end Bt

namespace Bt
open PySem PySem.Spec PyProof.Rows L2
def rIsC (K : PySem.W.Frag) (a : Addr) (cls : Value) (d : Option Addr) : List V → Hp → VK → Prop := fun xs H Q => ∃ D, cls = .ref D ∧ ExcC K D ∧ rIsX K D a d xs H Q
theorem cr_isC {X : Cx} {K : PySem.W.Frag} {a : Addr} {cls : Value} {d : Option Addr} (hx : ∃ oe : Obj, (a, oe) ∈ X.pn ∧ Zc cls d oe ∧ ∃ vs, oe.data = .fields vs) (hK : X.K = K := by rfl) : CallR X (.builtin "isinstance") (rIsC K a cls d) := by
  subst hK
  intro pins s σ H xs us Q I r h
  obtain ⟨D, rfl, C, h⟩ := h
  exact cr_isX C hx pins s σ H xs us Q I r h
def spUnmade (K : PySem.W.Frag) : Sp := fun vs H Q E => ∃ bv mv, vs = [bv, mv] ∧
  ((∃ d, TD K H bv d ∧ small d = true ∧ dRow d = false ∧ ∀ H', Same H H' → Q (.str "row") H') ∨
   (∃ r dm, Dp K H bv (.list (rowD r)) ∧ Good r ∧ TD K H mv dm ∧ dCount dm (r.length : Nat) 100 = false ∧ ∀ H', Same H H' → Q (.str "number") H'))
section
variable {P : Program} {w : World} {K : PySem.W.Frag} {mg : Str → Option Value} {base : Heap}
theorem ok__law_unmade (T : Txt K mg) : FO P w K mg base (L2.CX P w) 6 (a__law_unmade K) ["_law_beads", "_law_bound"] (spUnmade K) := by
  refine T.d__law_unmade.ok sc__law_unmade (fun vs H Q E h => ?_) (fun cdv A outer s H vs Q E hr h => ?_)
  · obtain ⟨bv, mv, rfl, _⟩ := h
    rfl
  · obtain ⟨bv, mv, rfl, q⟩ := h
    have G_RingU_initU := ok_RingU_initU (P := P) (w := w) (base := base) T
    obtain ⟨mvs, hkb⟩ := b_initK T
    refine ⟨_, (pss_cons (ps_set (i := 2) sc__law_unmade.nd rfl (Or.inl rfl) pe_str) (pss_cons (ps_try_two (i := 3) rfl rfl sc__law_unmade.nd rfl rfl ⟨rfl, by decide, Or.inl T.g_NoRow⟩ ⟨rfl, by decide, Or.inl T.g_NoNumber⟩ (fun W pn xe tk _ => (pss_one (ps_expr (pe_makeKS T.mkG G_RingU_initU (hr.mono (by decide)) rfl T.g_Grove hkb (fun σ => passAt tk σ) (pa_cons (pv 0) pa_nil) (pk_cons (pv 1) pk_nil))))) (fun a oe cls d pn hz hf => (pss_one (ps_set (i := 2) sc__law_unmade.nd rfl (Or.inl rfl) (pe_ix (ix_listK (K := K)) (pe_lst (pa_cons pe_str (pa_cons pe_str pa_nil))) (pe_callTy (T := "int") call_int1 (by rfl) T.f_int (by decide +kernel) (pa_cons (pe_and (pe_callB (id := "isinstance") (cr_isC (K := K) ⟨oe, List.mem_cons_self, hz, hf⟩) (by rfl) T.f_isinstance (by decide +kernel) (pa_cons (pv 3) (pa_cons (pe_ty (n := "ValueError") T.f_ValueError) pa_nil))) (pe_one (pe_not (pe_callB (id := "isinstance") (cr_isC (K := K) ⟨oe, List.mem_cons_self, hz, hf⟩) (by rfl) T.f_isinstance (by decide +kernel) (pa_cons (pv 3) (pa_cons (pe_glob (v := .ref (He.ga K "NoNumber")) rfl T.g_NoNumber rfl) pa_nil)))))) pa_nil)) (fun _ _ => rfl))))) (fun a oe cls d pn hz hf => (pss_one (ps_set (i := 2) sc__law_unmade.nd rfl (Or.inl rfl) (pe_ix (ix_listK (K := K)) (pe_lst (pa_cons pe_str (pa_cons pe_str pa_nil))) (pe_callTy (T := "int") call_int1 (by rfl) T.f_int (by decide +kernel) (pa_cons (pe_callB (id := "isinstance") (cr_isC (K := K) ⟨oe, List.mem_cons_self, hz, hf⟩) (by rfl) T.f_isinstance (by decide +kernel) (pa_cons (pv 3) (pa_cons (pe_ty (n := "ValueError") T.f_ValueError) pa_nil))) pa_nil)) (fun _ _ => rfl)))))) (pss_one (ps_ret (pv 2))))), ?_⟩
    have hC : IsRing K (GvC K) := .inr rfl
    rcases q with ⟨d, hd, hs, hdr, q⟩ | ⟨r, dm, hd, gd, hm, hc, q⟩
    · refine ⟨_, rfl, _, rfl, rfl, rfl, fun x dx hx hdx ne => ?_⟩
      have S0 : Same H (upd (upd H dx (.own x)) x (.ins (GvC K) dx [])) := (same_new hdx).trans (same_new (by rw [upd_ne ne.symm]; exact hx))
      refine ⟨x, GvC K, dx, bv, mv, rfl, hC, upd_same, .inl ⟨d, hd.mono S0, hs, hdr, fun H1 S1 => ?_⟩⟩
      have S01 := S0.trans S1
      refine ⟨true, T.er1, fun _ a ha => ?_, fun z => by cases z⟩
      refine ⟨(by show 2 ≤ sizeLine; decide), fun l hl => ?_⟩
      have S2 := same_new hl (o := HO.lst [.str "other", .str "row"])
      have h2 : (upd H1 l (.lst [V.str "other", .str "row"])) l = some _ := upd_same
      generalize upd H1 l (.lst [V.str "other", .str "row"]) = H2 at S2 h2
      have hm0 : ("NoRow" : Str) ∈ exL := List.mem_of_getElem? (i := 0) rfl
      have hm1 : ("NoNumber" : Str) ∈ exL := List.mem_of_getElem? (i := 2) rfl
      refine ⟨_, rfl, _, rfl, T.exf _ hm0, (fun dd e => by cases e), true, .inl ⟨_, _, rfl, .ty _, T.exv _ hm0⟩, ?_⟩
      refine ⟨_, rfl, iteT ?_⟩
      have e01 : PySem.W.kitOne K (.ref (He.ga K "NoRow")) (.ref (He.ga K "NoNumber")) = some false := by
        rw [T.exo _ hm0 _ hm1]
        rfl
      refine ⟨_, rfl, _, rfl, T.exf _ hm0, (fun dd e => by cases e), false, .inl ⟨_, _, rfl, .own _, e01⟩, _, rfl, .inr ⟨_, rfl, ?_⟩⟩
      refine ⟨l, _, _, _, rfl, rfl, .inl (.inl h2), (show atI [V.str "other", .str "row"] ((1 : Nat) : Int) = some (.str "row") from atI_nat rfl), ?_⟩
      exact ⟨_, rfl, q _ (S01.trans S2)⟩
    · refine ⟨_, rfl, _, rfl, rfl, rfl, fun x dx hx hdx ne => ?_⟩
      have S0 : Same H (upd (upd H dx (.own x)) x (.ins (GvC K) dx [])) := (same_new hdx).trans (same_new (by rw [upd_ne ne.symm]; exact hx))
      refine ⟨x, GvC K, dx, bv, mv, rfl, hC, upd_same, .inr (.inl ⟨r, dm, hd.mono S0, gd, hm.mono S0, hc, fun H1 S1 => ?_⟩)⟩
      have S01 := S0.trans S1
      refine ⟨false, T.er2, (fun z => by cases z), fun _ => ⟨true, T.er3, fun _ a ha => ?_, fun z => by cases z⟩⟩
      refine ⟨(by show 2 ≤ sizeLine; decide), fun l hl => ?_⟩
      have S2 := same_new hl (o := HO.lst [.str "other", .str "number"])
      have h2 : (upd H1 l (.lst [V.str "other", .str "number"])) l = some _ := upd_same
      generalize upd H1 l (.lst [V.str "other", .str "number"]) = H2 at S2 h2
      have hm1 : ("NoNumber" : Str) ∈ exL := List.mem_of_getElem? (i := 2) rfl
      refine ⟨_, rfl, _, rfl, T.exf _ hm1, (fun dd e => by cases e), true, .inl ⟨_, _, rfl, .ty _, T.exv _ hm1⟩, ?_⟩
      refine .inr ⟨_, rfl, ?_⟩
      refine ⟨l, _, _, _, rfl, rfl, .inl (.inl h2), (show atI [V.str "other", .str "number"] ((1 : Nat) : Int) = some (.str "number") from atI_nat rfl), ?_⟩
      exact ⟨_, rfl, q _ (S01.trans S2)⟩
end
end Bt

namespace Bt
open PySem PySem.Spec PyProof.Rows L2
def spNone (K : PySem.W.Frag) : Sp := fun vs H Q E => ∃ p rl r xs, vs = [.ref p, .ref rl] ∧ Pot H p ∧ H rl = some (.lst xs) ∧ rl ≠ p ∧ DpAll K (hide p H) xs (rowD r) ∧ Good r ∧ r.length ≤ 16 ∧ ∀ H', SP p H H' → Q (.bl true) H'
def noRow (d : PyData) : Prop := small d = true ∧ dRow d = false
def moreR (r : Row) : Row := (show List (Str × Nat) from r) ++ (show List (Str × Nat) from [("a", r.length + 1)])
theorem more_len (r : Row) : (moreR r).length = r.length + 1 := by unfold moreR; exact List.length_append
theorem more_rowD (r : Row) : rowD (moreR r) = rowD r ++ [.tuple [.str "a", .int ((r.length : Nat) + 1)]] := by
  unfold rowD moreR
  exact List.map_append
theorem more_arms {r : Row} (g : Good r) (h : r.length ≤ 16) : noRow (.list (rowD (moreR r))) := by
  have nm : ∀ b ∈ moreR r, nameB b.1 = true := fun b hb => by
    rcases List.mem_append.mp hb with h | h
    · exact g.nm b h
    · have h := List.mem_singleton.mp h
      rw [h]
      exact (by decide +kernel : nameB "a" = true)
  refine ⟨show smallAll _ = true from small_row nm, ?_⟩
  show rowB _ = false
  have ml := more_len r
  rw [rowB_iff (by omega) (by omega) nm]
  refine decide_eq_false ?_
  have e : arms (moreR r) = arms r + (r.length + 1) := by
    unfold arms moreR
    rw [List.map_append, List.sum_append]
    rfl
  omega
section
variable {P : Program} {w : World} {K : PySem.W.Frag} {mg : Str → Option Value} {base : Heap}
theorem ok__law_none_made (T : Txt K mg) : FO P w K mg base (L2.CX P w) 7 (a__law_none_made K) ["_law_pot_here", "_law_row_here"] (spNone K) := by
  refine T.d__law_none_made.ok sc__law_none_made (fun vs H Q E h => ?_) (fun cdv A outer s H vs Q E hr h => ?_)
  · obtain ⟨p, rl, r, xs, rfl, _⟩ := h
    rfl
  · obtain ⟨p, rl, r, xs, rfl, hp, hrl, nrl, hD, g, h16, q⟩ := h
    have G__law_draw := ok__law_draw (P := P) (w := w) (base := base) T
    have G__law_unmade := ok__law_unmade (P := P) (w := w) (base := base) T
    refine ⟨_, (pss_cons (ps_set (i := 2) sc__law_none_made.nd rfl (Or.inl rfl) (pe_callB (id := "len") call_len (by rfl) T.f_len (by decide +kernel) (pa_cons (pv 1) pa_nil))) (pss_cons (ps_set (i := 3) sc__law_none_made.nd rfl (Or.inl rfl) (pe_lst (pa_cons pe_non (pa_cons (pe_lst pa_nil) (pa_cons (pe_tup pa_nil) (pa_cons pe_int (pa_cons pe_str (pa_cons pe_dnewK (pa_cons (pe_lst (pa_cons (pe_tup (pa_cons pe_str (pa_cons pe_int pa_nil))) pa_nil)) (pa_cons (pe_lst (pa_cons (pe_tup (pa_cons pe_str (pa_cons (pe_un un_neg pe_int) pa_nil))) pa_nil)) (pa_cons (pe_lst (pa_cons (pe_lst (pa_cons pe_str (pa_cons pe_int pa_nil))) pa_nil)) (pa_cons (pe_op op_cat (pv 1) (pe_lst (pa_cons (pe_tup (pa_cons pe_str (pa_cons (pe_op op_add (pv 2) pe_int) pa_nil))) pa_nil))) (pa_cons (pe_lst (pa_cons (pe_tup (pa_cons pe_str (pa_cons pe_int pa_nil))) pa_nil)) pa_nil))))))))))))) (pss_cons (ps_set (i := 4) sc__law_none_made.nd rfl (Or.inl rfl) (pe_ix ix_list (pv 3) (pe_call G__law_draw (hr.mono (by decide)) rfl T.g__law_draw T.d__law_draw.kp T.b__law_draw .nil passE (pa_cons (pv 0) (pa_cons pe_int pa_nil))) (fun _ _ => rfl))) (pss_cons (ps_set (i := 5) sc__law_none_made.nd rfl (Or.inl rfl) (pe_call G__law_draw (hr.mono (by decide)) rfl T.g__law_draw T.d__law_draw.kp T.b__law_draw .nil passE (pa_cons (pv 0) (pa_cons (pe_op op_pow pe_int pe_int) pa_nil)))) (pss_cons (ps_set (i := 6) sc__law_none_made.nd rfl (Or.inl rfl) (pe_ix ix_list (pe_lst (pa_cons (pe_op op_sub (pv 2) pe_int) (pa_cons pe_int (pa_cons (pe_op op_add pe_int (pv 5)) (pa_cons (pe_un un_neg pe_int) (pa_cons pe_bl (pa_cons pe_bl (pa_cons pe_non (pa_cons pe_str (pa_cons (pe_tup (pa_cons pe_int pa_nil)) (pa_cons (pe_lst (pa_cons pe_int pa_nil)) pa_nil))))))))))) (pe_call G__law_draw (hr.mono (by decide)) rfl T.g__law_draw T.d__law_draw.kp T.b__law_draw .nil passE (pa_cons (pv 0) (pa_cons pe_int pa_nil))) (fun _ _ => rfl))) (pss_one (ps_ret (pe_cmpR (op_eqD hr.units) (pe_lst (pa_cons (pe_call G__law_unmade (hr.mono (by decide)) rfl T.g__law_unmade T.d__law_unmade.kp T.b__law_unmade .nil passE (pa_cons (pv 4) (pa_cons pe_int pa_nil))) (pa_cons (pe_call G__law_unmade (hr.mono (by decide)) rfl T.g__law_unmade T.d__law_unmade.kp T.b__law_unmade .nil passE (pa_cons (pv 4) (pa_cons (pv 6) pa_nil))) (pa_cons (pe_call G__law_unmade (hr.mono (by decide)) rfl T.g__law_unmade T.d__law_unmade.kp T.b__law_unmade .nil passE (pa_cons (pv 1) (pa_cons (pv 6) pa_nil))) pa_nil)))) (pe_lst (pa_cons pe_str (pa_cons pe_str (pa_cons pe_str pa_nil)))) (nomark _))))))))), ?_⟩
    have S0 : SP p H H := SP.of hp (Same.refl _)
    have hxl : xs.length = r.length := by rw [hD.len, rowD_len]
    refine ⟨_, rfl, _, r.length, rfl, .inl ⟨_, .inl (.inl hrl), hxl.symm⟩, ?_⟩

    refine ⟨(by show 0 ≤ sizeLine; decide), fun a0 m0 => ?_⟩
    have n0 := S0.pot.ne m0
    have T0 : Same H (upd H a0 (HO.lst [])) := same_new m0
    have U0 : SP p H (upd H a0 (HO.lst [])) := S0.new m0
    have g0 : (upd H a0 (HO.lst [])) a0 = some (HO.lst []) := upd_same
    generalize upd H a0 (HO.lst []) = H0 at T0 U0 g0
    refine ⟨(by show 0 ≤ sizeLine; decide), fun a1 m1 => ?_⟩
    have n1 := U0.pot.ne m1
    have T1 : Same H0 (upd H0 a1 (HO.tup [])) := same_new m1
    have U1 : SP p H (upd H0 a1 (HO.tup [])) := U0.new m1
    have g1 : (upd H0 a1 (HO.tup [])) a1 = some (HO.tup []) := upd_same
    generalize upd H0 a1 (HO.tup []) = H1 at T1 U1 g1
    refine fun a2 m2 => ?_
    have n2 := U1.pot.ne m2
    have T2 : Same H1 (upd H1 a2 (HO.dK [])) := same_new m2
    have U2 : SP p H (upd H1 a2 (HO.dK [])) := U1.new m2
    have g2 : (upd H1 a2 (HO.dK [])) a2 = some (HO.dK []) := upd_same
    generalize upd H1 a2 (HO.dK []) = H2 at T2 U2 g2
    refine ⟨(by show 2 ≤ sizeLine; decide), fun a3 m3 => ?_⟩
    have n3 := U2.pot.ne m3
    have T3 : Same H2 (upd H2 a3 (HO.tup [V.str "a", .int 1])) := same_new m3
    have U3 : SP p H (upd H2 a3 (HO.tup [V.str "a", .int 1])) := U2.new m3
    have g3 : (upd H2 a3 (HO.tup [V.str "a", .int 1])) a3 = some (HO.tup [V.str "a", .int 1]) := upd_same
    generalize upd H2 a3 (HO.tup [V.str "a", .int 1]) = H3 at T3 U3 g3
    refine ⟨(by show 1 ≤ sizeLine; decide), fun a4 m4 => ?_⟩
    have n4 := U3.pot.ne m4
    have T4 : Same H3 (upd H3 a4 (HO.lst [V.ref a3])) := same_new m4
    have U4 : SP p H (upd H3 a4 (HO.lst [V.ref a3])) := U3.new m4
    have g4 : (upd H3 a4 (HO.lst [V.ref a3])) a4 = some (HO.lst [V.ref a3]) := upd_same
    generalize upd H3 a4 (HO.lst [V.ref a3]) = H4 at T4 U4 g4
    refine ⟨_, rfl, ?_⟩
    refine ⟨(by show 2 ≤ sizeLine; decide), fun a5 m5 => ?_⟩
    have n5 := U4.pot.ne m5
    have T5 : Same H4 (upd H4 a5 (HO.tup [V.str "a", .int (-1)])) := same_new m5
    have U5 : SP p H (upd H4 a5 (HO.tup [V.str "a", .int (-1)])) := U4.new m5
    have g5 : (upd H4 a5 (HO.tup [V.str "a", .int (-1)])) a5 = some (HO.tup [V.str "a", .int (-1)]) := upd_same
    generalize upd H4 a5 (HO.tup [V.str "a", .int (-1)]) = H5 at T5 U5 g5
    refine ⟨(by show 1 ≤ sizeLine; decide), fun a6 m6 => ?_⟩
    have n6 := U5.pot.ne m6
    have T6 : Same H5 (upd H5 a6 (HO.lst [V.ref a5])) := same_new m6
    have U6 : SP p H (upd H5 a6 (HO.lst [V.ref a5])) := U5.new m6
    have g6 : (upd H5 a6 (HO.lst [V.ref a5])) a6 = some (HO.lst [V.ref a5]) := upd_same
    generalize upd H5 a6 (HO.lst [V.ref a5]) = H6 at T6 U6 g6
    refine ⟨(by show 2 ≤ sizeLine; decide), fun a7 m7 => ?_⟩
    have n7 := U6.pot.ne m7
    have T7 : Same H6 (upd H6 a7 (HO.lst [V.str "a", .int 0])) := same_new m7
    have U7 : SP p H (upd H6 a7 (HO.lst [V.str "a", .int 0])) := U6.new m7
    have g7 : (upd H6 a7 (HO.lst [V.str "a", .int 0])) a7 = some (HO.lst [V.str "a", .int 0]) := upd_same
    generalize upd H6 a7 (HO.lst [V.str "a", .int 0]) = H7 at T7 U7 g7
    refine ⟨(by show 1 ≤ sizeLine; decide), fun a8 m8 => ?_⟩
    have n8 := U7.pot.ne m8
    have T8 : Same H7 (upd H7 a8 (HO.lst [V.ref a7])) := same_new m8
    have U8 : SP p H (upd H7 a8 (HO.lst [V.ref a7])) := U7.new m8
    have g8 : (upd H7 a8 (HO.lst [V.ref a7])) a8 = some (HO.lst [V.ref a7]) := upd_same
    generalize upd H7 a8 (HO.lst [V.ref a7]) = H8 at T8 U8 g8
    refine ⟨_, rfl, _, rfl, _, _, rfl, rfl, ?_⟩
    refine ⟨(by show 2 ≤ sizeLine; decide), fun a9 m9 => ?_⟩
    have n9 := U8.pot.ne m9
    have T9 : Same H8 (upd H8 a9 (HO.tup [V.str "a", .int ((r.length : Nat) + 1)])) := same_new m9
    have U9 : SP p H (upd H8 a9 (HO.tup [V.str "a", .int ((r.length : Nat) + 1)])) := U8.new m9
    have g9 : (upd H8 a9 (HO.tup [V.str "a", .int ((r.length : Nat) + 1)])) a9 = some (HO.tup [V.str "a", .int ((r.length : Nat) + 1)]) := upd_same
    generalize upd H8 a9 (HO.tup [V.str "a", .int ((r.length : Nat) + 1)]) = H9 at T9 U9 g9
    refine ⟨(by show 1 ≤ sizeLine; decide), fun a10 m10 => ?_⟩
    have n10 := U9.pot.ne m10
    have T10 : Same H9 (upd H9 a10 (HO.lst [V.ref a9])) := same_new m10
    have U10 : SP p H (upd H9 a10 (HO.lst [V.ref a9])) := U9.new m10
    have g10 : (upd H9 a10 (HO.lst [V.ref a9])) a10 = some (HO.lst [V.ref a9]) := upd_same
    generalize upd H9 a10 (HO.lst [V.ref a9]) = H10 at T10 U10 g10
    have hrl1 := U10.at hrl nrl
    refine ⟨rl, a10, xs, _, rfl, rfl, hrl1, g10, (by rw [hxl]; exact le_line (by show r.length + 1 ≤ 100000; omega)), ?_⟩
    refine fun a11 m11 => ?_
    have n11 := U10.pot.ne m11
    have T11 : Same H10 (upd H10 a11 (HO.lst (xs ++ [V.ref a9]))) := same_new m11
    have U11 : SP p H (upd H10 a11 (HO.lst (xs ++ [V.ref a9]))) := U10.new m11
    have g11 : (upd H10 a11 (HO.lst (xs ++ [V.ref a9]))) a11 = some (HO.lst (xs ++ [V.ref a9])) := upd_same
    generalize upd H10 a11 (HO.lst (xs ++ [V.ref a9])) = H11 at T11 U11 g11
    refine ⟨(by show 2 ≤ sizeLine; decide), fun a12 m12 => ?_⟩
    have n12 := U11.pot.ne m12
    have T12 : Same H11 (upd H11 a12 (HO.tup [V.str "A", .int 0])) := same_new m12
    have U12 : SP p H (upd H11 a12 (HO.tup [V.str "A", .int 0])) := U11.new m12
    have g12 : (upd H11 a12 (HO.tup [V.str "A", .int 0])) a12 = some (HO.tup [V.str "A", .int 0]) := upd_same
    generalize upd H11 a12 (HO.tup [V.str "A", .int 0]) = H12 at T12 U12 g12
    refine ⟨(by show 1 ≤ sizeLine; decide), fun a13 m13 => ?_⟩
    have n13 := U12.pot.ne m13
    have T13 : Same H12 (upd H12 a13 (HO.lst [V.ref a12])) := same_new m13
    have U13 : SP p H (upd H12 a13 (HO.lst [V.ref a12])) := U12.new m13
    have g13 : (upd H12 a13 (HO.lst [V.ref a12])) a13 = some (HO.lst [V.ref a12]) := upd_same
    generalize upd H12 a13 (HO.lst [V.ref a12]) = H13 at T13 U13 g13
    refine ⟨(by show 11 ≤ sizeLine; decide), fun a14 m14 => ?_⟩
    have n14 := U13.pot.ne m14
    have T14 : Same H13 (upd H13 a14 (HO.lst [V.non, .ref a0, .ref a1, .int 7, .str "a0", .ref a2, .ref a4, .ref a6, .ref a8, .ref a11, .ref a13])) := same_new m14
    have U14 : SP p H (upd H13 a14 (HO.lst [V.non, .ref a0, .ref a1, .int 7, .str "a0", .ref a2, .ref a4, .ref a6, .ref a8, .ref a11, .ref a13])) := U13.new m14
    have g14 : (upd H13 a14 (HO.lst [V.non, .ref a0, .ref a1, .int 7, .str "a0", .ref a2, .ref a4, .ref a6, .ref a8, .ref a11, .ref a13])) a14 = some (HO.lst [V.non, .ref a0, .ref a1, .int 7, .str "a0", .ref a2, .ref a4, .ref a6, .ref a8, .ref a11, .ref a13]) := upd_same
    generalize upd H13 a14 (HO.lst [V.non, .ref a0, .ref a1, .int 7, .str "a0", .ref a2, .ref a4, .ref a6, .ref a8, .ref a11, .ref a13]) = H14 at T14 U14 g14
    have F14 : Same H14 H14 := Same.refl _
    have F13 := T14.trans F14
    have F12 := T13.trans F13
    have F11 := T12.trans F12
    have F10 := T11.trans F11
    have F9 := T10.trans F10
    have F8 := T9.trans F9
    have F7 := T8.trans F8
    have F6 := T7.trans F7
    have F5 := T6.trans F6
    have F4 := T5.trans F5
    have F3 := T4.trans F4
    have F2 := T3.trans F3
    have F1 := T2.trans F2
    have F0 := T1.trans F1
    have D0 : TD K (hide p H14) (.ref a0) (.list []) := .inl (.lst (.inl (.inl (hide_get (F0 _ _ g0) n0))) .nil)
    have D1 : TD K (hide p H14) (.ref a1) (.tuple []) := .inl (.tup (SqT.of (hide_get (F1 _ _ g1) n1)) .nil)
    have D2 : TD K (hide p H14) (.ref a2) (.dict []) := .inr ⟨_, rfl, (hide_get (F2 _ _ g2) n2), rfl⟩
    have D4 : TD K (hide p H14) (.ref a4) (.list [.tuple [.str "a", .int 1]]) := .inl (.lst (.inl (.inl (hide_get (F4 _ _ g4) n4))) (.cons (.tup (SqT.of (hide_get (F3 _ _ g3) n3)) (.cons (.str _) (.cons (.int _) .nil))) .nil))
    have D6 : TD K (hide p H14) (.ref a6) (.list [.tuple [.str "a", .int (-1)]]) := .inl (.lst (.inl (.inl (hide_get (F6 _ _ g6) n6))) (.cons (.tup (SqT.of (hide_get (F5 _ _ g5) n5)) (.cons (.str _) (.cons (.int _) .nil))) .nil))
    have D8 : TD K (hide p H14) (.ref a8) (.list [.list [.str "a", .int 0]]) := .inl (.lst (.inl (.inl (hide_get (F8 _ _ g8) n8))) (.cons (.lst (.inl (.inl (hide_get (F7 _ _ g7) n7))) (.cons (.str _) (.cons (.int _) .nil))) .nil))
    have D13 : TD K (hide p H14) (.ref a13) (.list [.tuple [.str "A", .int 0]]) := .inl (.lst (.inl (.inl (hide_get (F13 _ _ g13) n13))) (.cons (.tup (SqT.of (hide_get (F12 _ _ g12) n12)) (.cons (.str _) (.cons (.int _) .nil))) .nil))
    have D11 : TD K (hide p H14) (.ref a11) (.list (rowD (moreR r))) := by
      refine .inl (.lst (.inl (.inl (hide_get (F11 _ _ g11) n11))) ?_)
      rw [more_rowD]
      exact dp_app (hD.mono U14.S) (.cons (.tup (SqT.of (hide_get (F9 _ _ g9) n9)) (.cons (.str _) (.cons (.int _) .nil))) .nil)
    have all : AllTh K (hide p H14) noRow [V.non, .ref a0, .ref a1, .int 7, .str "a0", .ref a2, .ref a4, .ref a6, .ref a8, .ref a11, .ref a13] :=
      .cons (.inl .non) ⟨rfl, rfl⟩ (.cons D0 ⟨rfl, rfl⟩ (.cons D1 ⟨rfl, rfl⟩ (.cons (.inl (.int 7)) ⟨rfl, rfl⟩ (.cons (.inl (.str "a0")) ⟨by decide +kernel, rfl⟩ (.cons D2 ⟨rfl, rfl⟩ (.cons D4 ⟨by decide +kernel, by decide +kernel⟩ (.cons D6 ⟨by decide +kernel, by decide +kernel⟩ (.cons D8 ⟨by decide +kernel, by decide +kernel⟩ (.cons D11 (more_arms g h16) (.cons D13 ⟨by decide +kernel, by decide +kernel⟩ .nil))))))))))
    refine ⟨_, rfl, _, rfl, p, 11, rfl, U14.pot, (by decide), (by decide +kernel), fun d1 J1 d10 d11 Q1 => ?_⟩
    have R1 := U14.trans Q1
    obtain ⟨x, hx, hm⟩ := at_in (xs := [V.non, .ref a0, .ref a1, .int 7, .str "a0", .ref a2, .ref a4, .ref a6, .ref a8, .ref a11, .ref a13]) d10 d11
    obtain ⟨dx, hdx, hno⟩ := (all.mono Q1.S) x hm
    refine ⟨a14, _, d1, x, rfl, rfl, .inl (.inl (Q1.at g14 n14)), hx, ?_⟩
    have pw : CPow 10 50 := ⟨by decide, by decide, by decide⟩
    refine ⟨_, rfl, _, _, rfl, rfl, pw, p, _, rfl, R1.pot, by decide, log2_small (by decide) (by decide), fun f Hf f0 f1 Sf => ?_⟩
    have R2 := R1.trans Sf
    refine ⟨_, rfl, _, _, rfl, rfl, _, rfl, _, _, rfl, rfl, _, rfl, ?_⟩
    refine ⟨(by show 1 ≤ sizeLine; decide), fun a15 m15 => ?_⟩
    have n15 := R2.pot.ne m15
    have T15 : Same Hf (upd Hf a15 (HO.tup [V.int 100])) := same_new m15
    have U15 : SP p H (upd Hf a15 (HO.tup [V.int 100])) := R2.new m15
    have g15 : (upd Hf a15 (HO.tup [V.int 100])) a15 = some (HO.tup [V.int 100]) := upd_same
    generalize upd Hf a15 (HO.tup [V.int 100]) = H15 at T15 U15 g15
    refine ⟨(by show 1 ≤ sizeLine; decide), fun a16 m16 => ?_⟩
    have n16 := U15.pot.ne m16
    have T16 : Same H15 (upd H15 a16 (HO.lst [V.int 100])) := same_new m16
    have U16 : SP p H (upd H15 a16 (HO.lst [V.int 100])) := U15.new m16
    have g16 : (upd H15 a16 (HO.lst [V.int 100])) a16 = some (HO.lst [V.int 100]) := upd_same
    generalize upd H15 a16 (HO.lst [V.int 100]) = H16 at T16 U16 g16
    refine ⟨(by show 10 ≤ sizeLine; decide), fun a17 m17 => ?_⟩
    have n17 := U16.pot.ne m17
    have T17 : Same H16 (upd H16 a17 (HO.lst [V.int ((r.length : Nat) - 1), .int 101, .int (101 + f), .int (-1), .bl true, .bl false, .non, .str "100", .ref a15, .ref a16])) := same_new m17
    have U17 : SP p H (upd H16 a17 (HO.lst [V.int ((r.length : Nat) - 1), .int 101, .int (101 + f), .int (-1), .bl true, .bl false, .non, .str "100", .ref a15, .ref a16])) := U16.new m17
    have g17 : (upd H16 a17 (HO.lst [V.int ((r.length : Nat) - 1), .int 101, .int (101 + f), .int (-1), .bl true, .bl false, .non, .str "100", .ref a15, .ref a16])) a17 = some (HO.lst [V.int ((r.length : Nat) - 1), .int 101, .int (101 + f), .int (-1), .bl true, .bl false, .non, .str "100", .ref a15, .ref a16]) := upd_same
    generalize upd H16 a17 (HO.lst [V.int ((r.length : Nat) - 1), .int 101, .int (101 + f), .int (-1), .bl true, .bl false, .non, .str "100", .ref a15, .ref a16]) = H17 at T17 U17 g17
    have F17 : Same H17 H17 := Same.refl _
    have F16 := T17.trans F17
    have F15 := T16.trans F16
    have g1 := g.ne
    have D15 : TD K (hide p H17) (.ref a15) (.tuple [.int 100]) := .inl (.tup (SqT.of (hide_get (F15 _ _ g15) n15)) (.cons (.int _) .nil))
    have D16 : TD K (hide p H17) (.ref a16) (.list [.int 100]) := .inl (.lst (.inl (.inl (hide_get (F16 _ _ g16) n16))) (.cons (.int _) .nil))
    have c1 : dCount (.int ((r.length : Nat) - 1)) (r.length : Nat) 100 = false := by
      show (decide _ && _) = false
      rw [decide_eq_false (by omega)]
      rfl
    have c2 : dCount (.int 101) (r.length : Nat) 100 = false := by
      show (_ && decide _) = false
      rw [decide_eq_false (show ¬ (101 : Int) ≤ 100 by omega), Bool.and_false]
    have c3 : dCount (.int (101 + f)) (r.length : Nat) 100 = false := by
      show (_ && decide _) = false
      rw [decide_eq_false (show ¬ (101 + f : Int) ≤ 100 by omega), Bool.and_false]
    have c4 : dCount (.int (-1)) (r.length : Nat) 100 = false := by
      show (decide _ && _) = false
      rw [decide_eq_false (by omega)]
      rfl
    have allb : AllTh K (hide p H17) (fun d => dCount d (r.length : Nat) 100 = false) [V.int ((r.length : Nat) - 1), .int 101, .int (101 + f), .int (-1), .bl true, .bl false, .non, .str "100", .ref a15, .ref a16] :=
      .cons (.inl (.int _)) c1 (.cons (.inl (.int _)) c2 (.cons (.inl (.int _)) c3 (.cons (.inl (.int _)) c4 (.cons (.inl (.bl _)) rfl (.cons (.inl (.bl _)) rfl (.cons (.inl .non) rfl (.cons (.inl (.str _)) rfl (.cons D15 rfl (.cons D16 rfl .nil)))))))))
    refine ⟨_, rfl, p, 10, rfl, U17.pot, (by decide), (by decide +kernel), fun d2 J2 d20 d21 Q2 => ?_⟩
    have R3 := U17.trans Q2
    obtain ⟨y, hy, hm2⟩ := at_in (xs := [V.int ((r.length : Nat) - 1), .int 101, .int (101 + f), .int (-1), .bl true, .bl false, .non, .str "100", .ref a15, .ref a16]) d20 d21
    obtain ⟨dy, hdy, hcy⟩ := (allb.mono Q2.S) y hm2
    refine ⟨a17, _, d2, y, rfl, rfl, .inl (.inl (Q2.at g17 n17)), hy, ?_⟩
    -- three times none is made
    have tdx : TD K J2 x dx := (hdx.mono (Sf.trans ((SP.of Sf.pot (T15.trans F15)).trans Q2)).S).mono (hide_le p J2)
    refine ⟨_, rfl, x, .int 100, rfl, .inl ⟨dx, tdx, hno.1, hno.2, fun Ja Sa => ?_⟩⟩
    refine ⟨_, rfl, _, rfl, x, y, rfl, .inl ⟨dx, tdx.mono Sa, hno.1, hno.2, fun Jb Sb => ?_⟩⟩
    have tdr : Dp K J2 (.ref rl) (.list (rowD r)) := .lst (.inl (.inl (R3.at hrl nrl))) ((hD.mono R3.S).mono (hide_le p J2))
    have tdy : TD K J2 y dy := hdy.mono (hide_le p J2)
    have Sab := Sa.trans Sb
    refine ⟨_, rfl, _, rfl, .ref rl, y, rfl, .inr ⟨r, dy, tdr.mono Sab, g, tdy.mono Sab, hcy, fun Jc Sc => ?_⟩⟩
    refine ⟨(by show 3 ≤ sizeLine; decide), fun l1 hl1 => ?_⟩
    have V1 := same_new hl1 (o := HO.lst [.str "row", .str "row", .str "number"])
    have w1 : (upd Jc l1 (.lst [V.str "row", .str "row", .str "number"])) l1 = some (.lst [V.str "row", .str "row", .str "number"]) := upd_same
    generalize upd Jc l1 (.lst [V.str "row", .str "row", .str "number"]) = Jd at V1 w1
    refine ⟨(by show 3 ≤ sizeLine; decide), fun l2 hl2 => ?_⟩
    have V2 := same_new hl2 (o := HO.lst [.str "row", .str "row", .str "number"])
    have w2 : (upd Jd l2 (.lst [V.str "row", .str "row", .str "number"])) l2 = some (.lst [V.str "row", .str "row", .str "number"]) := upd_same
    generalize upd Jd l2 (.lst [V.str "row", .str "row", .str "number"]) = Je at V2 w2
    refine ⟨.list [.str "row", .str "row", .str "number"], .list [.str "row", .str "row", .str "number"], .lst (.inl (.inl (V2 _ _ w1))) (.cons (.str _) (.cons (.str _) (.cons (.str _) .nil))), .lst (.inl (.inl w2)) (.cons (.str _) (.cons (.str _) (.cons (.str _) .nil))), (by decide +kernel), (by decide +kernel), ?_⟩
    have ee : PyData.eqv (.list [.str "row", .str "row", .str "number"]) (.list [.str "row", .str "row", .str "number"]) = true := by decide +kernel
    rw [ee]
    exact q _ (R3.same (Sab.trans (Sc.trans (V1.trans V2))))
end
end Bt
namespace Bt
open PySem PySem.Spec PyProof.Rows L2
/-! ### a grove's own calls, with what is no bead's number -/
def hungDue (way : Nat) (d : PyData) : PyData := if way = 0 then tagD "name" else if way = 1 then tagD "number" else if way = 3 then tagD "run" else beadDue d
def spHung (K : PySem.W.Frag) : Sp := fun vs H Q E => ∃ g R v d, ∃ way : Nat, vs = [.ref g, .int (way : Nat), v, .int ((R.r.length : Nat) - 1)] ∧ Rg K H g (GvC K) R ∧ RgW R ∧ Idn R ∧ way < 13 ∧ TD K H v d ∧ v ≠ .non ∧ isB R d = none ∧ ShowOk d ∧ CallW K H E (hungDue way d)
def spAsked (K : PySem.W.Frag) : Sp := fun vs H Q E => ∃ g R v d, ∃ way : Nat, vs = [.ref g, .int (way : Nat), v] ∧ Rg K H g (GvC K) R ∧ RgW R ∧ 7 ≤ way ∧ way < 13 ∧ TD K H v d ∧ isB R d = none ∧ NBx K v H E
theorem last_isB {R : RS} (W : RgW R) (i : Idn R) : isB R (.int ((R.r.length : Nat) - 1)) = some (R.r.length - 1) := by
  have h1 := W.good.ne
  have h := (isB_some W i (d := .int ((R.r.length : Nat) - 1)) (show (decide (0 ≤ (((R.r.length : Nat) : Int) - 1)) && decide ((((R.r.length : Nat) : Int) - 1) < (R.r.length : Nat))) = true by rw [decide_eq_true (by omega), decide_eq_true (by omega)]; rfl)).1
  have e : nOf (.int ((R.r.length : Nat) - 1)) = R.r.length - 1 := by
    show (((R.r.length : Nat) : Int) - 1).toNat = _
    omega
  rw [e] at h
  exact h
section
variable {P : Program} {w : World} {K : PySem.W.Frag} {mg : Str → Option Value} {base : Heap}
theorem ok__law_asked (T : Txt K mg) : FO P w K mg base (L2.CX P w) 8 (a__law_asked K) ["_law_grove", "_law_way", "_law_odd"] (spAsked K) := by
  refine T.d__law_asked.ok sc__law_asked (fun vs H Q E h => ?_) (fun cdv A outer s H vs Q E hr h => ?_)
  · obtain ⟨g, R, v, d, way, rfl, _⟩ := h
    rfl
  · obtain ⟨g, R, v, d, way, rfl, ⟨dx, lo, hd, hh, kvs, hs, hR⟩, W, w7, w13, t, hn, q⟩ := h
    have G_Ring_arc := ok_Ring_arc (P := P) (w := w) (base := base) T
    have G_Ring_bind := ok_Ring_bind (P := P) (w := w) (base := base) T
    have G_Ring_children := ok_Ring_children (P := P) (w := w) (base := base) T
    have G_Ring_loosen := ok_Ring_loosen (P := P) (w := w) (base := base) T
    have G_Ring_parent := ok_Ring_parent (P := P) (w := w) (base := base) T
    have G_Ring_take := ok_Ring_take (P := P) (w := w) (base := base) T
    have hC : IsRing K (GvC K) := .inr rfl
    have hg : Rg K H g (GvC K) R := ⟨dx, lo, hd, hh, kvs, hs, hR⟩
    have dl : ∀ k : Nat, decide (V.int ((way : Nat) : Int) = V.int ((k : Nat) : Int)) = decide (way = k) := fun k => dec_nat
    have no : ∀ {n : Nat} {p : Prop}, isB R d = some n → p := fun h => absurd (h.symm.trans hn) (fun z => by cases z)
    refine ⟨_, (pss_one (ps_if (pt_cmpR op_eq (pv 1) pe_int (nomark _)) (pss_one (ps_expr (pe_meth (pv 0) (T.cls hC) (T.mt_loosen hC) G_Ring_loosen (hr.mono (by decide)) T.b_Ring_loosen .nil passE (pa_cons (pv 2) pa_nil)))) (pss_one (ps_if (pt_cmpR op_eq (pv 1) pe_int (nomark _)) (pss_one (ps_expr (pe_meth (pv 0) (T.cls hC) (T.mt_bind hC) G_Ring_bind (hr.mono (by decide)) T.b_Ring_bind .nil passE (pa_cons (pv 2) pa_nil)))) (pss_one (ps_if (pt_cmpR op_eq (pv 1) pe_int (nomark _)) (pss_one (ps_expr (pe_meth (pv 0) (T.cls hC) (T.mt_take hC) G_Ring_take (hr.mono (by decide)) T.b_Ring_take .nil passE (pa_cons (pv 2) pa_nil)))) (pss_one (ps_if (pt_cmpR op_eq (pv 1) pe_int (nomark _)) (pss_one (ps_expr (pe_meth (pv 0) (T.cls hC) (T.mt_parent hC) G_Ring_parent (hr.mono (by decide)) T.b_Ring_parent .nil passE (pa_cons (pv 2) pa_nil)))) (pss_one (ps_if (pt_cmpR op_eq (pv 1) pe_int (nomark _)) (pss_one (ps_expr (pe_meth (pv 0) (T.cls hC) (T.mt_children hC) G_Ring_children (hr.mono (by decide)) T.b_Ring_children .nil passE (pa_cons (pv 2) pa_nil)))) (pss_one (ps_expr (pe_meth (pv 0) (T.cls hC) (T.mt_arc hC) G_Ring_arc (hr.mono (by decide)) T.b_Ring_arc .nil passE (pa_cons (pv 2) pa_nil)))))))))))))), ?_⟩
    refine ⟨_, rfl, rfl, _, rfl, ?_⟩
    show (if decide (V.int ((way : Nat) : Int) = V.int ((7 : Nat) : Int)) = true then _ else _)
    rw [dl]
    by_cases c7 : way = 7
    · rw [decide_eq_true c7]
      refine iteT ?_
      exact ⟨_, rfl, g, dx, _, rfl, hR.ins, rfl, _, rfl, g, _, R, v, d, rfl, hC, hg, W, t, hn, q⟩
    rw [decide_eq_false c7]
    refine iteF ?_
    refine ⟨_, rfl, rfl, _, rfl, ?_⟩
    show (if decide (V.int ((way : Nat) : Int) = V.int ((8 : Nat) : Int)) = true then _ else _)
    rw [dl]
    by_cases c8 : way = 8
    · rw [decide_eq_true c8]
      refine iteT ?_
      exact ⟨_, rfl, g, dx, _, rfl, hR.ins, rfl, _, rfl, g, _, R, v, d, rfl, hC, hg, W, t, hn, q⟩
    rw [decide_eq_false c8]
    refine iteF ?_
    refine ⟨_, rfl, rfl, _, rfl, ?_⟩
    show (if decide (V.int ((way : Nat) : Int) = V.int ((9 : Nat) : Int)) = true then _ else _)
    rw [dl]
    by_cases c9 : way = 9
    · rw [decide_eq_true c9]
      refine iteT ?_
      exact ⟨_, rfl, g, dx, _, rfl, hR.ins, rfl, _, rfl, g, _, R, v, d, rfl, hC, hg, W, t, hn, q⟩
    rw [decide_eq_false c9]
    refine iteF ?_
    refine ⟨_, rfl, rfl, _, rfl, ?_⟩
    show (if decide (V.int ((way : Nat) : Int) = V.int ((10 : Nat) : Int)) = true then _ else _)
    rw [dl]
    by_cases c10 : way = 10
    · rw [decide_eq_true c10]
      refine iteT ?_
      exact ⟨_, rfl, g, dx, _, rfl, hR.ins, rfl, _, rfl, g, _, R, v, d, rfl, hC, hg, W, t, fun n h => no h, fun _ => q⟩
    rw [decide_eq_false c10]
    refine iteF ?_
    refine ⟨_, rfl, rfl, _, rfl, ?_⟩
    show (if decide (V.int ((way : Nat) : Int) = V.int ((11 : Nat) : Int)) = true then _ else _)
    rw [dl]
    by_cases c11 : way = 11
    · rw [decide_eq_true c11]
      refine iteT ?_
      exact ⟨_, rfl, g, dx, _, rfl, hR.ins, rfl, _, rfl, g, _, R, v, d, rfl, hC, hg, W, t, fun n h => no h, fun _ => q⟩
    rw [decide_eq_false c11]
    refine iteF ?_
    exact ⟨_, rfl, g, dx, _, rfl, hR.ins, rfl, _, rfl, g, _, R, v, d, rfl, hC, hg, W, t, fun n h => no h, fun _ => q⟩
theorem ok__law_hung (T : Txt K mg) : FO P w K mg base (L2.CX P w) 9 (a__law_hung K) ["_law_grove", "_law_way", "_law_odd", "_law_here"] (spHung K) := by
  refine T.d__law_hung.ok sc__law_hung (fun vs H Q E h => ?_) (fun cdv A outer s H vs Q E hr h => ?_)
  · obtain ⟨g, R, v, d, way, rfl, _⟩ := h
    rfl
  · obtain ⟨g, R, v, d, way, rfl, ⟨dx, lo, hd, hh, kvs, hs, hR⟩, W, i, w13, t, hv, hn, so, c⟩ := h
    have G_Ring_bead := ok_Ring_bead (P := P) (w := w) (base := base) T
    have G_Ring_exchange := ok_Ring_exchange (P := P) (w := w) (base := base) T
    have G_Ring_put := ok_Ring_put (P := P) (w := w) (base := base) T
    have G_Ring_row := ok_Ring_row (P := P) (w := w) (base := base) T
    have G_Ring_slide := ok_Ring_slide (P := P) (w := w) (base := base) T
    have G__law_asked := ok__law_asked (P := P) (w := w) (base := base) T
    have hC : IsRing K (GvC K) := .inr rfl
    have hg : Rg K H g (GvC K) R := ⟨dx, lo, hd, hh, kvs, hs, hR⟩
    obtain ⟨its2, hk2⟩ := b_put2 T
    obtain ⟨its3, hk3⟩ := b_put3 T
    obtain ⟨mvr, hkr⟩ := b_rowK T
    obtain ⟨dss, hvs, hbs⟩ := b_slide0 T
    have dl : ∀ k : Nat, decide (V.int ((way : Nat) : Int) = V.int ((k : Nat) : Int)) = decide (way = k) := fun k => dec_nat
    have no : ∀ {n : Nat} {p : Prop}, isB R d = some n → p := fun h => absurd (h.symm.trans hn) (fun z => by cases z)
    have hl := last_isB W i
    have tl : TD K H (.int ((R.r.length : Nat) - 1)) (.int ((R.r.length : Nat) - 1)) := .inl (.int _)
    have nb : way ≠ 0 → way ≠ 1 → way ≠ 3 → NBx K v H E := fun h0 h1 h3 => by
      unfold hungDue at c
      rw [if_neg h0, if_neg h1, if_neg h3] at c
      exact c.bead t so
    refine ⟨_, (pss_one (ps_if (pt_cmpR op_eq (pv 1) pe_int (nomark _)) (pss_one (ps_expr (pe_methN (pv 0) (T.cls hC) (T.mt_put hC) G_Ring_put (hr.mono (by decide)) hk2 passE (pa_cons pe_str pa_nil) (pk_cons (pv 2) pk_nil)))) (pss_one (ps_if (pt_cmpR op_eq (pv 1) pe_int (nomark _)) (pss_one (ps_expr (pe_methN (pv 0) (T.cls hC) (T.mt_put hC) G_Ring_put (hr.mono (by decide)) hk3 passE (pa_cons pe_str (pa_cons (pe_un un_neg pe_int) pa_nil)) (pk_cons (pv 2) pk_nil)))) (pss_one (ps_if (pt_cmpR op_eq (pv 1) pe_int (nomark _)) (pss_one (ps_expr (pe_methN (pv 0) (T.cls hC) (T.mt_put hC) G_Ring_put (hr.mono (by decide)) hk2 passE (pa_cons pe_str pa_nil) (pk_cons (pv 2) pk_nil)))) (pss_one (ps_if (pt_cmpR op_eq (pv 1) pe_int (nomark _)) (pss_one (ps_expr (pe_meth (pv 0) (T.cls hC) (T.mt_slide hC) G_Ring_slide (hr.mono (by decide)) hbs hvs passE (pa_cons (pv 3) (pa_cons pe_int (pa_cons (pv 3) pa_nil)))))) (pss_one (ps_if (pt_cmpR op_eq (pv 1) pe_int (nomark _)) (pss_one (ps_expr (pe_methN0 (pv 0) (T.cls hC) (T.mt_row hC) G_Ring_row (hr.mono (by decide)) hkr passE (pk_cons (pv 2) pk_nil)))) (pss_one (ps_if (pt_cmpR op_eq (pv 1) pe_int (nomark _)) (pss_one (ps_expr (pe_meth (pv 0) (T.cls hC) (T.mt_bead hC) G_Ring_bead (hr.mono (by decide)) T.b_Ring_bead .nil passE (pa_cons (pv 2) pa_nil)))) (pss_one (ps_if (pt_cmpR op_eq (pv 1) pe_int (nomark _)) (pss_one (ps_expr (pe_meth (pv 0) (T.cls hC) (T.mt_exchange hC) G_Ring_exchange (hr.mono (by decide)) T.b_Ring_exchange .nil passE (pa_cons (pv 3) (pa_cons (pv 2) pa_nil))))) (pss_one (ps_expr (pe_call G__law_asked (hr.mono (by decide)) rfl T.g__law_asked T.d__law_asked.kp T.b__law_asked .nil passE (pa_cons (pv 0) (pa_cons (pv 1) (pa_cons (pv 2) pa_nil)))))))))))))))))))), ?_⟩
    refine ⟨_, rfl, rfl, _, rfl, ?_⟩
    show (if decide (V.int ((way : Nat) : Int) = V.int ((0 : Nat) : Int)) = true then _ else _)
    rw [dl]
    by_cases c0 : way = 0
    · rw [decide_eq_true c0]
      refine iteT ?_
      have c' : CallW K H E (tagD (tagL.getD 0 "")) := by unfold hungDue at c; rw [if_pos c0] at c; exact c
      exact ⟨_, rfl, g, dx, _, rfl, hR.ins, rfl, _, rfl, rfl, rfl, g, _, R, .str "A", _, 0, v, d, rfl, hC, hg, W, .inl (.str _), by decide +kernel, t, .inl ⟨by decide +kernel, CallW.tag 0 (by decide) c'⟩⟩
    rw [decide_eq_false c0]
    refine iteF ?_
    refine ⟨_, rfl, rfl, _, rfl, ?_⟩
    show (if decide (V.int ((way : Nat) : Int) = V.int ((1 : Nat) : Int)) = true then _ else _)
    rw [dl]
    by_cases c1 : way = 1
    · rw [decide_eq_true c1]
      refine iteT ?_
      have c' : CallW K H E (tagD (tagL.getD 2 "")) := by unfold hungDue at c; rw [if_neg c0, if_pos c1] at c; exact c
      exact ⟨_, rfl, g, dx, _, rfl, hR.ins, rfl, _, rfl, _, rfl, rfl, rfl, g, _, R, .str "a", _, -1, v, d, rfl, hC, hg, W, .inl (.str _), by decide +kernel, t, .inr (.inl ⟨by decide +kernel, by decide, CallW.tag 2 (by decide) c'⟩)⟩
    rw [decide_eq_false c1]
    refine iteF ?_
    refine ⟨_, rfl, rfl, _, rfl, ?_⟩
    show (if decide (V.int ((way : Nat) : Int) = V.int ((2 : Nat) : Int)) = true then _ else _)
    rw [dl]
    by_cases c2 : way = 2
    · rw [decide_eq_true c2]
      refine iteT ?_
      exact ⟨_, rfl, g, dx, _, rfl, hR.ins, rfl, _, rfl, rfl, rfl, g, _, R, .str "a", _, 0, v, d, rfl, hC, hg, W, .inl (.str _), by decide +kernel, t, .inr (.inr ⟨by decide +kernel, by decide, hn, nb (by omega) (by omega) (by omega)⟩)⟩
    rw [decide_eq_false c2]
    refine iteF ?_
    refine ⟨_, rfl, rfl, _, rfl, ?_⟩
    show (if decide (V.int ((way : Nat) : Int) = V.int ((3 : Nat) : Int)) = true then _ else _)
    rw [dl]
    by_cases c3 : way = 3
    · rw [decide_eq_true c3]
      refine iteT ?_
      have c' : CallW K H E (tagD (tagL.getD 5 "")) := by unfold hungDue at c; rw [if_neg c0, if_neg c1, if_pos c3] at c; exact c
      exact ⟨_, rfl, g, dx, _, rfl, hR.ins, rfl, _, rfl, _, rfl, g, _, R, _, _, _, rfl, hC, hg, W, tl, hl, CallW.tag 5 (by decide) c'⟩
    rw [decide_eq_false c3]
    refine iteF ?_
    refine ⟨_, rfl, rfl, _, rfl, ?_⟩
    show (if decide (V.int ((way : Nat) : Int) = V.int ((4 : Nat) : Int)) = true then _ else _)
    rw [dl]
    by_cases c4 : way = 4
    · rw [decide_eq_true c4]
      refine iteT ?_
      exact ⟨_, rfl, g, dx, _, rfl, hR.ins, rfl, _, rfl, rfl, rfl, g, _, R, v, rfl, hC, hg, W, .inr ⟨d, t, hv, fun n h => no h, fun _ => nb (by omega) (by omega) (by omega)⟩⟩
    rw [decide_eq_false c4]
    refine iteF ?_
    refine ⟨_, rfl, rfl, _, rfl, ?_⟩
    show (if decide (V.int ((way : Nat) : Int) = V.int ((5 : Nat) : Int)) = true then _ else _)
    rw [dl]
    by_cases c5 : way = 5
    · rw [decide_eq_true c5]
      refine iteT ?_
      exact ⟨_, rfl, g, dx, _, rfl, hR.ins, rfl, _, rfl, g, _, R, v, d, rfl, hC, hg, W, t, fun n h => no h, fun _ => nb (by omega) (by omega) (by omega)⟩
    rw [decide_eq_false c5]
    refine iteF ?_
    refine ⟨_, rfl, rfl, _, rfl, ?_⟩
    show (if decide (V.int ((way : Nat) : Int) = V.int ((6 : Nat) : Int)) = true then _ else _)
    rw [dl]
    by_cases c6 : way = 6
    · rw [decide_eq_true c6]
      refine iteT ?_
      exact ⟨_, rfl, g, dx, _, rfl, hR.ins, rfl, _, rfl, _, rfl, g, _, R, _, _, _, v, d, rfl, hC, hg, W, tl, hl, t, hn, nb (by omega) (by omega) (by omega)⟩
    rw [decide_eq_false c6]
    refine iteF ?_
    exact ⟨_, rfl, _, rfl, _, rfl, g, R, v, d, way, rfl, hg, W, by omega, w13, t, hn, nb c0 c1 c3⟩
end
end Bt

namespace Bt
open PySem PySem.Spec PyProof.Rows L2
theorem passF {X : Cx} : Passes (L2.CX X.prog X.w) X (fun _ _ _ => False) := fun _ _ _ _ _ _ _ h => by
  obtain ⟨_, _, _, _, _, _, _, _, _, _, _, _, z⟩ := h
  exact z.elim
theorem due_get {t0 t1 t3 : V} {way : Nat} : valV (mergeK [] [((Sum.inl 0 : Key), t0), (Sum.inl 1, t1), (Sum.inl 3, t3)]) (Sum.inl ((way : Nat) : Int)) = if way = 3 then some t3 else if way = 1 then some t1 else if way = 0 then some t0 else none := by
  show valV (putK (putK (putK ([] : List (Key × V)) (Sum.inl 0) t0) (Sum.inl 1) t1) (Sum.inl 3) t3) _ = _
  have e : ∀ k : Nat, ((Sum.inl ((way : Nat) : Int) : Key) = Sum.inl ((k : Nat) : Int)) ↔ way = k := fun k => ⟨fun h => by injection h with h; omega, fun h => by rw [h]⟩
  rw [valV_put, valV_put, valV_put]
  have e3 : ((Sum.inl ((way : Nat) : Int) : Key) = Sum.inl 3) ↔ way = 3 := e 3
  have e1 : ((Sum.inl ((way : Nat) : Int) : Key) = Sum.inl 1) ↔ way = 1 := e 1
  have e0 : ((Sum.inl ((way : Nat) : Int) : Key) = Sum.inl 0) ↔ way = 0 := e 0
  by_cases c3 : way = 3
  · rw [if_pos c3, if_pos (e3.mpr c3)]
  · rw [if_neg c3, if_neg (fun h => c3 (e3.mp h))]
    by_cases c1 : way = 1
    · rw [if_pos c1, if_pos (e1.mpr c1)]
    · rw [if_neg c1, if_neg (fun h => c1 (e1.mp h))]
      by_cases c0 : way = 0
      · rw [if_pos c0, if_pos (e0.mpr c0)]
      · rw [if_neg c0, if_neg (fun h => c0 (e0.mp h))]
        rfl
theorem eqv_str (z : Str) : PyData.eqv (.str z) (.str z) = true := by
  show (z == z) = true
  simp
theorem ErX.shape {K : PySem.W.Frag} {H : Hp} {e : Er} {cls : Value} {d : Option Addr} (h : ErX K H e cls d) : SeqAt.shaped e.due = true ∧ PyData.eqv e.due e.due = true := by
  obtain ⟨_, h⟩ := h
  cases e with
  | bead pd =>
    obtain ⟨_, _, _, _, _, so⟩ := h
    refine ⟨Bool.and_eq_true_iff.mpr ⟨?_, by simp [Er.due, beadDue, PyData.depth, PyData.depthAll]⟩, ?_⟩
    · show (PyData.strOk "bead" && (PyData.strOk pd.shown && true)) = true
      rw [so.o]
      decide +kernel
    · show ((PyData.str "bead").eqv (.str "bead") && ((PyData.str pd.shown).eqv (.str pd.shown) && true)) = true
      rw [eqv_str, eqv_str]
      rfl
  | full n =>
    refine ⟨Bool.and_eq_true_iff.mpr ⟨?_, by simp [Er.due, PyData.depth, PyData.depthAll]⟩, ?_⟩
    · show (PyData.strOk "full" && (true && true)) = true
      decide +kernel
    · show ((PyData.str "full").eqv (.str "full") && (((n : Nat) : Int) == ((n : Nat) : Int) && true)) = true
      rw [eqv_str]
      simp
  | plain i =>
    obtain ⟨hi, _⟩ := h
    refine ⟨?_, ?_⟩
    · rcases i with _ | _ | _ | _ | _ | _ | _ | i
      all_goals first | (decide +kernel) | omega
    · show ((PyData.str (tagL.getD i "")).eqv (.str (tagL.getD i "")) && true) = true
      rw [eqv_str]
      rfl
theorem dp_snoc {K : PySem.W.Frag} {H : Hp} {d : PyData} : ∀ {ds : List PyData} {xs : List V}, DpAll K H xs (ds ++ [d]) → ∃ ys z, xs = ys ++ [z] ∧ Dp K H z d
  | [], _, h => by
    cases h with
    | cons h1 h2 =>
      cases h2
      exact ⟨[], _, rfl, h1⟩
  | e :: ds, _, h => by
    cases h with
    | @cons v _ vs _ h1 h2 =>
      obtain ⟨ys, z, e, hz⟩ := dp_snoc (ds := ds) h2
      exact ⟨v :: ys, z, by rw [e]; rfl, hz⟩
theorem last_num {K : PySem.W.Frag} {H : Hp} {xs : List V} {n : Nat} (h1 : 1 ≤ n) (h : DpAll K H xs ((zs (List.range n)).map PyData.int)) : atI xs (-1) = some (.int ((n : Nat) - 1)) := by
  obtain ⟨m, rfl⟩ : ∃ m, n = m + 1 := ⟨n - 1, by omega⟩
  have e : (zs (List.range (m + 1))).map PyData.int = (zs (List.range m)).map PyData.int ++ [.int ((m : Nat) : Int)] := by
    unfold zs
    rw [List.range_succ, List.map_append, List.map_append]
    rfl
  rw [e] at h
  obtain ⟨ys, z, rfl, hz⟩ := dp_snoc h
  cases hz
  rw [atI_last]
  congr 2
  omega
def spOwn (K : PySem.W.Frag) : Sp := fun vs H Q E => ∃ g h R R' v d, vs = [.ref g, .ref h, v] ∧ Two K H g h R R' ∧ TwoW R R' ∧ TD K H v d ∧ v ≠ .non ∧ isB R d = none ∧ ShowOk d ∧ ∀ H', Same H H' → Q (.bl true) H'
section
variable {P : Program} {w : World} {K : PySem.W.Frag} {mg : Str → Option Value} {base : Heap}
theorem ok__law_own_refused (T : Txt K mg) : FGo P w K mg base (L2.CX P w) 10 (a__law_own_refused K) ["_law_grove", "_law_ring", "_law_odd"] (spOwn K) := by
  refine okG T.d__law_own_refused sc__law_own_refused (fun vs H Q E h => ?_) (fun cdv A outer s H vs Q E hr h => ?_)
  · obtain ⟨g, h, R, R', v, d, rfl, _⟩ := h
    rfl
  · obtain ⟨g, h, R, R', v, d, rfl, tw, tW, t, hv, hn, so, q⟩ := h
    have G_Ring_numbers := ok_Ring_numbers (P := P) (w := w) (base := base) T
    have G__law_hung := ok__law_hung (P := P) (w := w) (base := base) T
    have G__law_said_of := ok__law_said_of (P := P) (w := w) (base := base) T
    have G__law_state := ok__law_state (P := P) (w := w) (base := base) T
    have hC : IsRing K (GvC K) := .inr rfl
    have hrE : RoomE 1 (A.deeper (envOfC "_law_own_refused" (defScope s__law_own_refused) s.heap.objs.size (a__law_own_refused K) cdv)) := ⟨L2H.roomH_of (hr.r.mono (by decide)), hr.g⟩
    refine ⟨_, (pss_cons (ps_set (i := 3) sc__law_own_refused.nd rfl (Or.inl rfl) (pe_callG G__law_state (hr.mono (by decide)) rfl T.g__law_state T.d__law_state.kp T.b__law_state .nil passE (pa_cons (pv 0) (pa_cons (pv 1) pa_nil)))) (pss_cons (ps_for (passes_of rfl) rfl (pi_range1 rfl T.f_range (pa_cons pe_int pa_nil)) (pg_name (i := 4) sc__law_own_refused.nd rfl (Or.inl rfl)) (pss_cons (ps_set (i := 5) sc__law_own_refused.nd rfl (Or.inl rfl) (pe_dget2 (hu_of hr.r) (pe_disp (pps_cons pe_int (pe_tup (pa_cons pe_str pa_nil)) (pps_cons pe_int (pe_tup (pa_cons pe_str pa_nil)) (pps_cons pe_int (pe_tup (pa_cons pe_str pa_nil)) pps_nil))) (by rfl) (by rfl) (fun z => by cases z) (by decide)) (pv 4) (pe_tup (pa_cons pe_str (pa_cons (pe_callB (id := "repr") (cr_repr hr.g hr.r.units) (by rfl) T.f_repr (by decide +kernel) (pa_cons (pv 2) pa_nil)) pa_nil))) ⟨rfl, rfl, rfl, rfl⟩)) (pss_cons (ps_set (i := 6) sc__law_own_refused.nd rfl (Or.inl rfl) (pe_tup (pa_cons pe_str pa_nil))) (pss_cons (ps_try_as (i := 7) (Wout := fun _ _ _ _ => False) rfl rfl sc__law_own_refused.nd rfl rfl ⟨rfl, by decide, Or.inl T.g_BeadError⟩ takes0 (fun W pn xe tk _ => (pss_one (ps_expr (pe_callS G__law_hung (hr.r.mono (by decide)) rfl T.g__law_hung T.d__law_hung.kp T.b__law_hung (fun σ => passAt tk σ) (pa_cons (pv 0) (pa_cons (pv 4) (pa_cons (pv 2) (pa_cons (pe_ix (ix_tupK (K := K)) (pe_meth0 (pv 0) (T.cls hC) (T.mt_numbers hC) G_Ring_numbers (hr.r.mono (by decide)) T.b_Ring_numbers .nil passF) (pe_un un_neg pe_int) (fun _ _ => rfl)) pa_nil)))))))) (fun a oe cls d pn hz hf => (pss_one (ps_set (i := 6) sc__law_own_refused.nd rfl (Or.inl rfl) (pe_callE G__law_said_of hrE rfl T.g__law_said_of T.d__law_said_of.kp T.b__law_said_of hz hf (pa_cons (pv 7) pa_nil)))))) (pss_one (ps_if (PW.pt (pw_or (pt_cmpR (op_neD hr.r.units) (pv 6) (pv 5) (nomark _)) (pw_or1 (pt_cmpR op_ne (pe_callG G__law_state (hr.mono (by decide)) rfl T.g__law_state T.d__law_state.kp T.b__law_state .nil passE (pa_cons (pv 0) (pa_cons (pv 1) pa_nil))) (pv 3) (nomark _))))) (pss_one (ps_ret pe_bl)) pss_nil)))))) (pss_one (ps_ret pe_bl)))), ?_⟩
    refine ⟨_, rfl, _, rfl, g, h, R, R', rfl, tw, tW, fun H0 S0 => ?_⟩
    refine ⟨_, rfl, by decide, by decide, ?_⟩
    refine for_it (walk_range (lo := 0) (n := 13)) (fun j σ H' => ∃ x4 x5 x6 x7, σ = [some (.ref g), some (.ref h), some v, some (.str (stateD R R').shown), x4, x5, x6, x7] ∧ Same H H') ⟨none, none, none, none, rfl, S0⟩ (fun _ _ _ _ _ => True.intro) ?_ ?_
    · rintro j x σ Ha Hb hj ⟨x4, x5, x6, x7, rfl, S⟩ ⟨rfl, rfl⟩
      show gName 4 (V.int ((0 : Int) + ((j : Nat) : Int))) _ _ _
      rw [Int.zero_add]
      refine fun pd hpd => ?_
      have hc : (upd Hb pd (.dK [])) pd = some (.dK []) := upd_same
      have S1 : Same Hb (upd Hb pd (.dK [])) := same_new hpd
      generalize upd Hb pd (.dK []) = Hc at S1 hc
      refine ⟨(by show 1 ≤ sizeLine; decide), fun t0 h0 => ?_⟩
      have S2 := same_new h0 (o := HO.tup [.str "name"])
      have g0 : (upd Hc t0 (.tup [V.str "name"])) t0 = some (.tup [V.str "name"]) := upd_same
      generalize upd Hc t0 (.tup [V.str "name"]) = Hd at S2 g0
      refine ⟨(by show 1 ≤ sizeLine; decide), fun t1 h1 => ?_⟩
      have S3 := same_new h1 (o := HO.tup [.str "number"])
      have g1 : (upd Hd t1 (.tup [V.str "number"])) t1 = some (.tup [V.str "number"]) := upd_same
      generalize upd Hd t1 (.tup [V.str "number"]) = Hee at S3 g1
      refine ⟨(by show 1 ≤ sizeLine; decide), fun t3 h3 => ?_⟩
      have S4 := same_new h3 (o := HO.tup [.str "run"])
      have g3 : (upd Hee t3 (.tup [V.str "run"])) t3 = some (.tup [V.str "run"]) := upd_same
      generalize upd Hee t3 (.tup [V.str "run"]) = Hf at S4 g3
      have hcf := (S2.trans (S3.trans S4)) _ _ hc
      have S14 := S1.trans (S2.trans (S3.trans S4))
      have g0f := (S3.trans S4) _ _ g0
      have g1f := S4 _ _ g1
      refine ⟨hcf, [(Sum.inl 0, .ref t0), (Sum.inl 1, .ref t1), (Sum.inl 3, .ref t3)], rfl, (by show 3 ≤ 15; decide), ?_⟩
      have S5 : Same Hb (upd Hf pd (.dK (mergeK [] [(Sum.inl 0, V.ref t0), (Sum.inl 1, V.ref t1), (Sum.inl 3, V.ref t3)]))) := same_upd S14 hpd
      have ge : ∀ {b : Addr} {u : HO}, b ≠ pd → Hf b = some u → (upd Hf pd (.dK (mergeK [] [(Sum.inl 0, V.ref t0), (Sum.inl 1, V.ref t1), (Sum.inl 3, V.ref t3)]))) b = some u := fun n e => by rw [upd_ne n]; exact e
      have hg : (upd Hf pd (.dK (mergeK [] [(Sum.inl 0, V.ref t0), (Sum.inl 1, V.ref t1), (Sum.inl 3, V.ref t3)]))) pd = some (.dK (mergeK [] [(Sum.inl 0, V.ref t0), (Sum.inl 1, V.ref t1), (Sum.inl 3, V.ref t3)])) := upd_same
      have k0 := ge (b := t0) (fun z => by rw [z, hcf] at g0f; cases g0f) g0f
      have k1 := ge (b := t1) (fun z => by rw [z, hcf] at g1f; cases g1f) g1f
      have k3 := ge (b := t3) (fun z => by rw [z, hcf] at g3; cases g3) g3
      generalize upd Hf pd (.dK (mergeK [] [(Sum.inl 0, V.ref t0), (Sum.inl 1, V.ref t1), (Sum.inl 3, V.ref t3)])) = Hg at S5 hg k0 k1 k3
      have S05 := S.trans S5
      refine ⟨pd, rfl, .inl ⟨_, .inl hg⟩, _, rfl, ?_⟩
      refine ⟨_, rfl, v, d, rfl, t.mono S05, so.s, le_line (Nat.le_trans so.l (by decide)), so.p, (by show 2 ≤ sizeLine; decide), fun tz hz => ?_⟩
      have S6 := same_new hz (o := HO.tup [.str "bead", .str d.shown])
      have gz : (upd Hg tz (.tup [V.str "bead", .str d.shown])) tz = some (.tup [V.str "bead", .str d.shown]) := upd_same
      generalize upd Hg tz (.tup [V.str "bead", .str d.shown]) = Hh at S6 gz
      refine ⟨_, DGet.k (k := Sum.inl ((j : Nat) : Int)) (S6 _ _ hg), ?_⟩
      rw [due_get]
      obtain ⟨ud, hud, eud⟩ : ∃ ud, Dp K Hh ud (hungDue j d) ∧ (if j = 3 then some (V.ref t3) else if j = 1 then some (V.ref t1) else if j = 0 then some (V.ref t0) else none).getD (V.ref tz) = ud := by
        refine ⟨_, ?_, rfl⟩
        unfold hungDue
        by_cases c3 : j = 3
        · rw [if_pos c3, if_neg (by omega), if_neg (by omega), if_pos c3]
          exact .tup (SqT.of (S6 _ _ k3)) (.cons (.str _) .nil)
        · rw [if_neg c3]
          by_cases c1 : j = 1
          · rw [if_pos c1, if_neg (by omega), if_pos c1]
            exact .tup (SqT.of (S6 _ _ k1)) (.cons (.str _) .nil)
          · rw [if_neg c1]
            by_cases c0 : j = 0
            · rw [if_pos c0, if_pos c0]
              exact .tup (SqT.of (S6 _ _ k0)) (.cons (.str _) .nil)
            · rw [if_neg c0, if_neg c0, if_neg c1, if_neg c3]
              exact .tup (SqT.of gz) (.cons (.str _) (.cons (.str _) .nil))
      rw [eud]
      refine ⟨(by show 1 ≤ sizeLine; decide), fun tt htt => ?_⟩
      have S7 := same_new htt (o := HO.tup [.str "told"])
      generalize upd Hh tt (.tup [V.str "told"]) = Hi at S7
      have S07 := S05.trans (S6.trans S7)
      have tw7 := tw.mono S07
      obtain ⟨dx, lo, hd, hh, kvs, hs, hR⟩ := tw7.g
      refine ⟨_, rfl, _, rfl, _, rfl, _, rfl, g, dx, _, rfl, hR.ins, rfl, g, _, R, rfl, hC, tw7.g, tW.W, tW.i, fun nv Hj S8 tn => ?_⟩
      obtain ⟨na, nxs, rfl, hT, hA⟩ := tn.tupI
      refine ⟨_, rfl, na, nxs, _, _, rfl, rfl, hT, last_num tW.W.good.ne hA, ?_⟩
      have S08 := S07.trans S8
      have tw8 := tw.mono S08
      refine ⟨g, R, v, d, j, rfl, tw8.g, tW.W, tW.i, hj, t.mono S08, hv, hn, so, fun e cls dd Hk Sk hx he => ?_⟩
      have hm := hx.mem
      have hcl := hx.1
      obtain ⟨sh, ev⟩ := hx.shape
      subst hcl
      refine ⟨true, T.exm _ hm, fun _ a ha => ?_, fun z => by cases z⟩
      refine ⟨_, rfl, rfl, e, hx, fun u Hl Sl tu => ?_⟩
      have hud' : Dp K Hl ud e.due := by
        rw [he]
        exact hud.mono (S7.trans (S8.trans (Sk.trans Sl)))
      refine ⟨_, rfl, _, rfl, e.due, e.due, tu, hud', sh, sh, ?_⟩
      rw [ev]
      have S0l := S08.trans (Sk.trans Sl)
      refine ⟨_, rfl, iteF ?_⟩
      refine ⟨_, rfl, _, rfl, g, h, R, R', rfl, tw.mono S0l, tW, fun Hm Sm => ?_⟩
      refine ⟨_, rfl, rfl, ?_⟩
      rw [decide_eq_true rfl]
      refine ⟨_, rfl, iteF ?_⟩
      exact ⟨_, _, _, _, rfl, S0l.trans Sm⟩
    · rintro σ Ha ⟨x4, x5, x6, x7, rfl, S⟩
      exact q Ha S
end
end Bt

namespace Bt
open PySem PySem.Spec PyProof.Rows L2
/-! ### the dues can be compared -/
def DueE (d : PyData) : Prop := DueOk d ∧ PyData.eqv d d = true
theorem beadE {d : PyData} (h : ShowOk d) : DueE (beadDue d) := by
  refine ⟨beadDue_ok h, ?_⟩
  show ((PyData.str "bead").eqv (.str "bead") && ((PyData.str d.shown).eqv (.str d.shown) && true)) = true
  rw [eqv_str, eqv_str]
  rfl
theorem firstE {r : Row} : ∀ {ds : List PyData}, (∀ d ∈ ds, ShowOk d) → ∀ e ∈ firstN r ds, DueE e
  | [], _, e, he => by cases he
  | d :: ds, h, e, he => by
    have he' : e ∈ (if isBd r d = true then firstN r ds else [beadDue d]) := he
    by_cases c : isBd r d = true
    · rw [if_pos c] at he'
      exact firstE (fun x hx => h x (List.mem_cons_of_mem _ hx)) e he'
    · rw [if_neg c] at he'
      rw [List.mem_singleton.mp he']
      exact beadE (h d List.mem_cons_self)
theorem tagE {z : Str} (h : PyData.strOk z = true) : DueE (tagD z) := by
  refine ⟨⟨?_, by simp [tagD, PyData.depth, PyData.depthAll]⟩, ?_⟩
  · show (PyData.strOk z && true) = true
    rw [h]
    rfl
  · show ((PyData.str z).eqv (.str z) && true) = true
    rw [eqv_str]
    rfl
theorem tagIfE {z : Str} {c : Bool} (h : PyData.strOk z = true) : ∀ e ∈ tagIf z c, DueE e := fun e he => by
  cases c with
  | true =>
    rw [List.mem_singleton.mp he]
    exact tagE h
  | false => cases he
theorem fullE {n : Nat} : DueE (fullD n) := by
  refine ⟨⟨?_, by simp [fullD, PyData.depth, PyData.depthAll]⟩, ?_⟩
  · show (PyData.strOk "full" && (true && true)) = true
    decide +kernel
  · show ((PyData.str "full").eqv (.str "full") && (((n : Nat) : Int) == ((n : Nat) : Int) && true)) = true
    rw [eqv_str]
    simp
theorem fullIfE {n : Nat} {c : Bool} : ∀ e ∈ fullIf n c, DueE e := fun e he => by
  cases c with
  | true =>
    rw [List.mem_singleton.mp he]
    exact fullE
  | false => cases he
theorem appE {a b : List PyData} (ha : ∀ e ∈ a, DueE e) (hb : ∀ e ∈ b, DueE e) : ∀ e ∈ a ++ b, DueE e := fun e he => (List.mem_append.mp he).elim (ha e) (hb e)
theorem iteE {c : Prop} [Decidable c] {a b : List PyData} (ha : ∀ e ∈ a, DueE e) (hb : ∀ e ∈ b, DueE e) : ∀ e ∈ (if c then a else b), DueE e := by
  by_cases h : c
  · rw [if_pos h]; exact ha
  · rw [if_neg h]; exact hb
theorem one_show {d : PyData} (h : ShowOk d) : ∀ x ∈ [d], ShowOk x := fun x hx => by rw [List.mem_singleton.mp hx]; exact h
theorem two_show {d e : PyData} (h : ShowOk d) (h' : ShowOk e) : ∀ x ∈ [d, e], ShowOk x := fun x hx => by
  rcases List.mem_cons.mp hx with k | k
  · rw [k]; exact h
  · exact one_show h' x k
theorem dueAll_ok {door room : Nat} {r r' : Row} {ds : List PyData} (h7 : door < 7) (hl : ds.length = drawnLen door) (hS : DrawnOk door ds) : ∀ e ∈ dueAll door room r r' ds, DueE e := by
  unfold dueAll
  have sk : ∀ {z : Str}, z ∈ tagL → PyData.strOk z = true := fun hz => List.all_eq_true.mp (show tagL.all (fun z => PyData.strOk z) = true by decide +kernel) _ hz
  have s0 : PyData.strOk "name" = true := sk (List.mem_of_getElem? (i := 0) rfl)
  have s1 : PyData.strOk "within" = true := sk (List.mem_of_getElem? (i := 1) rfl)
  have s2 : PyData.strOk "number" = true := sk (List.mem_of_getElem? (i := 2) rfl)
  have s3 : PyData.strOk "root" = true := sk (List.mem_of_getElem? (i := 3) rfl)
  have s4 : PyData.strOk "arms" = true := sk (List.mem_of_getElem? (i := 4) rfl)
  have s5 : PyData.strOk "run" = true := sk (List.mem_of_getElem? (i := 5) rfl)
  have s6 : PyData.strOk "tree" = true := sk (List.mem_of_getElem? (i := 6) rfl)
  by_cases c0 : door = 0
  · rw [if_pos c0]
    obtain ⟨e0, e1, e2, rfl⟩ := three_of (show ds.length = 3 by rw [hl, c0]; rfl)
    have fe := firstE (r := r) (two_show (hS.a (by omega)) (hS.b (by omega)))
    exact iteE (appE (tagIfE s1) (tagIfE s2)) fe
  rw [if_neg c0]
  by_cases c1 : door = 1 ∨ door = 3
  · rw [if_pos c1]
    obtain ⟨e0, e1, e2, rfl⟩ := three_of (show ds.length = 3 by rcases c1 with c | c <;> (rw [hl, c]; rfl))
    have fe := firstE (r := r) (one_show (hS.a (by omega)))
    exact iteE (iteE (tagIfE s3) (appE (tagIfE s4) (tagIfE s6))) fe
  rw [if_neg c1]
  by_cases c2 : door = 2
  · rw [if_pos c2]
    obtain ⟨e0, e1, e2, rfl⟩ := three_of (show ds.length = 3 by rw [hl, c2]; rfl)
    have fe := firstE (r := r) (one_show (hS.b (by omega)))
    exact iteE (iteE (appE (tagIfE s2) fullIfE) fe) (fun e he => by rw [List.mem_singleton.mp he]; exact tagE s0)
  rw [if_neg c2]
  by_cases c4 : door = 4
  · rw [if_pos c4]
    obtain ⟨e0, e1, e2, rfl⟩ := three_of (show ds.length = 3 by rw [hl, c4]; rfl)
    have fe := firstE (r := r) (two_show (hS.a (by omega)) (hS.b (by omega)))
    exact iteE (tagIfE s1) fe
  rw [if_neg c4]
  by_cases c6 : door = 6
  · rw [if_pos c6]
    obtain ⟨e0, e1, rfl⟩ := two_ofL (show ds.length = 2 by rw [hl, c6]; rfl)
    have fe := firstE (r := r) (one_show (hS.a (by omega)))
    exact iteE (iteE (tagIfE s6) (fun e he => by rw [List.mem_singleton.mp he]; exact tagE s5)) fe
  rw [if_neg c6]
  obtain ⟨e0, e1, rfl⟩ := two_ofL (show ds.length = 2 by rw [hl, show door = 5 by omega]; rfl)
  have f0 := firstE (r := r) (one_show (hS.a (by omega)))
  have f1 := firstE (r := r') (one_show (hS.b (by omega)))
  exact appE (appE f0 f1) fullIfE
/-! ### the ring of beads 'b' -/
def ringR (n : Nat) : Row := (List.range n).map fun k => ("b", k % 2)
theorem ring_arms : ∀ n : Nat, arms (ringR n) = n / 2
  | 0 => rfl
  | n + 1 => by
    have ih := ring_arms n
    unfold arms ringR at ih ⊢
    rw [List.range_succ, List.map_append, List.map_append, List.sum_append, ih]
    show n / 2 + (n % 2 + 0) = (n + 1) / 2
    omega
theorem ring_good {n : Nat} (h1 : 1 ≤ n) (h2 : n ≤ 100) : Good (ringR n) := by
  have hl : (ringR n).length = n := by unfold ringR; rw [List.length_map, List.length_range]
  refine ⟨by omega, by omega, fun b hb => ?_, by rw [ring_arms, hl]; omega⟩
  obtain ⟨k, _, rfl⟩ := List.mem_map.mp hb
  exact (by decide +kernel : nameB "b" = true)
/-! ### odd numbers are no bead's -/
def OddOk (R : RS) (d : PyData) : Prop := isB R d = none ∧ ShowOk d ∧ d ≠ .none
theorem odd_int {R : RS} (W : RgW R) (i : Idn R) {k : Int} (hb : k.natAbs < 2 ^ 200) (h : k < 0 ∨ (R.r.length : Nat) ≤ k) : OddOk R (.int k) := by
  refine ⟨isB_none W i ?_, NumT.show (.inl ⟨k, rfl, hb⟩), by simp⟩
  show (decide (0 ≤ k) && decide (k < (R.r.length : Nat))) = false
  rcases h with h | h
  · rw [decide_eq_false (by omega : ¬ 0 ≤ k), Bool.false_and]
  · rw [decide_eq_false (by omega : ¬ k < (R.r.length : Nat)), Bool.and_false]
theorem nipIdn {R : RS} (h : Idn R) : Idn (nipR R) := h
/-! ### what stands apart from a grove -/
theorem RgN.new {K : PySem.W.Frag} {H0 H : Hp} {g C : Addr} {R : RS} {hh : Addr} {kl : Nat} (h : RgN K H0 H g C R hh kl) {l : Addr} {o : HO} (hl : H l = none) : RgN K (upd H0 l o) (upd H l o) g C R hh kl := by
  obtain ⟨dx, lo, hd, kvs, hs, a, le, ln⟩ := h.ex
  have S := same_new hl (o := o)
  refine ⟨fun b u e => ?_, ?_, ?_, dx, lo, hd, kvs, hs, a.mono S, le, by rw [upd_ne (fun z => by rw [← z, a.ord] at hl; cases hl)]; exact ln⟩
  · by_cases c : b = l
    · rw [c, upd_same] at e ⊢
      exact e
    · rw [upd_ne c] at e ⊢
      exact h.S _ _ e
  · rw [upd_ne (fun z => by rw [← z, a.ins] at hl; cases hl)]
    exact h.ng
  · rw [upd_ne (fun z => by rw [← z, a.his] at hl; cases hl)]
    exact h.nh
/-- a list that stands apart is written to -/
theorem RgN.put {K : PySem.W.Frag} {H0 H : Hp} {g C : Addr} {R : RS} {hh : Addr} {kl : Nat} (h : RgN K H0 H g C R hh kl) (W : RgW R) (h1 : 1 ≤ R.hist) {l : Addr} {xs : List V} (hl : H l = some (.lst [])) (nl : g ≠ l) : RgN K (upd H0 l (.lst xs)) (upd H l (.lst xs)) g C R hh kl := by
  obtain ⟨dx, lo, hd, kvs, hs, a, le, ln⟩ := h.ex
  have n1 : lo ≠ l := fun z => by
    rw [← z, a.ord] at hl
    have : R.o.length = 0 := by
      injection hl with e
      injection e with e
      have := congrArg List.length e
      unfold zs at this
      simpa using this
    have := W.len
    have := W.good.ne
    omega
  have n2 : hd ≠ l := fun z => by rw [← z, a.hel] at hl; cases hl
  have n3 : hh ≠ l := fun z => by
    rw [← z, a.his] at hl
    injection hl with e
    injection e with e
    have := a.hsl
    rw [e] at this
    simp at this
    omega
  have T : SameT H (upd H l (.lst xs)) := sameT_upd hl (fun z => z)
  refine ⟨fun b u e => ?_, by rw [upd_ne nl]; exact h.ng, by rw [upd_ne n3]; exact h.nh, dx, lo, hd, kvs, hs, ⟨by rw [upd_ne nl]; exact a.ins, by rw [upd_ne n1]; exact a.ord, by rw [upd_ne n2]; exact a.hel, a.hR.monoT T, by rw [upd_ne n3]; exact a.his, a.hsl⟩, le, by rw [upd_ne n1]; exact ln⟩
  by_cases c : b = l
  · rw [c, upd_same] at e ⊢
    exact e
  · rw [upd_ne c] at e ⊢
    exact h.S _ _ e
theorem sameT_hide {p : Addr} {H : Hp} {zs : List V} (h : H p = some (.lst zs)) : SameT H (hide p H) := fun b u ht e => by
  rw [hide_ne (fun z => by rw [z, h] at e; cases e; exact ht.elim)]
  exact e
/-- the grove stands apart from the pot -/
theorem RgN.hide {K : PySem.W.Frag} {H0 H : Hp} {g C : Addr} {R : RS} {hh : Addr} {kl : Nat} (h : RgN K H0 H g C R hh kl) {p : Addr} {zs : List V} (hp : H0 p = some (.lst zs)) : Rg K (hide p H) g C R := by
  obtain ⟨dx, lo, hd, kvs, hs, a, le, ln⟩ := h.ex
  have hpH := h.S _ _ hp
  have T := sameT_hide hpH
  have ng : g ≠ p := fun z => by rw [← z, h.ng] at hp; cases hp
  have nh : hh ≠ p := fun z => by rw [← z, h.nh] at hp; cases hp
  have nl : lo ≠ p := fun z => by rw [← z, ln] at hp; cases hp
  have nd : hd ≠ p := fun z => by rw [← z, a.hel] at hpH; cases hpH
  exact ⟨dx, lo, hd, hh, kvs, hs, hide_get a.ins ng, hide_get a.ord nl, hide_get a.hel nd, a.hR.monoT T, hide_get a.his nh, a.hsl⟩
theorem beadsAt_all {K : PySem.W.Frag} {H : Hp} : ∀ {r : Row} {xs : List V}, xs.length = r.length → BeadsAt K H xs r → DpAll K H xs (rowD r)
  | [], [], _, _ => .nil
  | b :: r, v :: xs, hl, h => by
    obtain ⟨v', e, hv⟩ := h 0 b rfl
    cases e
    exact .cons hv (beadsAt_all (by simpa using hl) fun i c hc => h (i + 1) c hc)
  | [], _ :: _, hl, _ => by simp at hl
  | _ :: _, [], hl, _ => by simp at hl
theorem ringR_len (n : Nat) : (ringR n).length = n := by unfold ringR; rw [List.length_map, List.length_range]
theorem ringR_get {n i : Nat} (h : i < n) : (ringR n)[i]? = some (("b" : Str), i % 2) := by
  unfold ringR
  rw [List.getElem?_map, List.getElem?_range h]
  rfl
structure Mid (K : PySem.W.Frag) (p rl : Addr) (rs : List V) (r : Row) (m : Nat) (H : Hp) (g gl : Addr) (R : RS) (gs : List Int) : Prop where
  fpot : Pot H p
  frow : H rl = some (.lst rs)
  frd : DpAll K (Bt.hide p H) rs (rowD r)
  fg : Rg K (Bt.hide p H) g (GvC K) R
  W : RgW R
  i : Idn R
  fr : R.r = r
  froom : R.room = m
  fgl : H gl = some (.lst (gs.map V.int))
  fngl : gl ≠ p
  fgs : gs.length ≤ 1
  fgk : ∀ k ∈ gs, k = (r.length : Nat)
end Bt

namespace Bt
open PySem PySem.Spec PyProof.Rows L2
/-! ### a call that is not told of the pot -/
def spHide (sp : Sp) : Sp := fun vs H Q E => ∃ p zs, H p = some (.lst zs) ∧ sp vs (hide p H) (fun v H' => H' p = none → Q v (upd H' p (.lst zs))) (fun _ _ _ => False)
theorem hok_hide {P : Program} {w : World} {H : Hp} {h : Heap} {p : Addr} {zs : List V} (ok : HOk P w H h) (hp : H p = some (.lst zs)) : HOk P w (hide p H) h := fun a o e => by
  have na : a ≠ p := fun z => by rw [z, hide_at] at e; cases e
  rw [hide_ne na] at e
  refine (ok a o e).stay (fun _ _ _ x => x) (fun b hb => ?_) (fun b xs hb => ?_)
  · rw [hide_ne (fun z => by rw [z, hp] at hb; cases hb)]
    exact hb
  · rw [hide_ne (fun z => by rw [z, hp] at hb; cases hb)]
    exact hb
theorem hideFn {P : Program} {w : World} {K : PySem.W.Frag} {mg : Str → Option Value} {base : Heap} {k : Nat} {f : Addr} {fd : FuncData} {ps : List Str} {sp : Sp} (F : FnOk P w K mg base (L2.CX P w) k f fd ps sp) : FnOk P w K mg base (L2.CX P w) k f fd ps (spHide sp) := by
  refine ⟨fun vs H Q E h => ?_, fun A outer s H args us vs Q E hr e0 hb r h => ?_⟩
  · obtain ⟨p, zs, _, h⟩ := h
    exact F.len _ _ _ _ h
  · obtain ⟨p, zs, hp, h⟩ := h
    have hn : ∀ b, H b = none → hide p H b = none := fun b e => by
      by_cases c : b = p
      · rw [c, hide_at]
      · rw [hide_ne c]
        exact e
    have ok := e0.hok
    have e1 : Env0 P w K mg base A outer s (hide p H) := { e0 with bs := fun b o e => ⟨(e0.bs b o e).1, hn b (e0.bs b o e).2⟩, frf := fun b m => hn b (e0.frf b m), hok := hok_hide ok hp }
    refine codeAny_mono (F.run A outer s (hide p H) args us vs _ _ hr e1 hb r h) fun r' s' hq => ?_
    cases r' with
    | error e =>
      obtain ⟨_, _, _, _, _, _, _, _, _, _, _, _, z⟩ := hq
      exact z.elim
    | ok fl =>
      cases fl with
      | ret u =>
        obtain ⟨v, H', os, bare, un, hok', rv, q⟩ := hq
        obtain ⟨z, its, n, rz, e⟩ := (show ObjOk P w H s.heap p (.lst zs) from ok p _ hp)
        have np : p ∉ frs outer := fun m => by
          have := e0.frf p m
          rw [hp] at this
          cases this
        have hp' : H' p = none := un.free p _ e hide_at (by simp)
        have e' := un.keep p _ e hide_at np (by simp)
        have nb : ∀ {b : Addr} {o : HO}, H b = some o → (∀ zs', o ≠ .lst zs') → b ≠ p := fun hb no z => by
          rw [z, hp] at hb
          exact no zs (Option.some.inj hb).symm
        refine ⟨v, upd H' p (.lst zs), os, bare, ⟨fun b o hb hH nf nx => un.keep b o hb (hn b hH) nf nx, fun b o hb hH nf nx => un.slot b o hb (hn b hH) nf nx, fun b o hb hH nx => ?_, un.there, fun b xs hb => ?_, fun b o u' hb => ?_, fun b qs hb => ?_⟩, ?_, rv, q hp'⟩
        · rw [upd_ne (fun z => by rw [z, hp] at hH; cases hH)]
          exact un.free b o hb (hn b hH) nx
        · have n1 := nb hb (fun _ z => by cases z)
          rw [upd_ne n1]
          exact un.tups b xs (by rw [hide_ne n1]; exact hb)
        · have n1 := nb hb (fun _ z => by cases z)
          rw [upd_ne n1]
          exact un.frzs b o u' (by rw [hide_ne n1]; exact hb)
        · have n1 := nb hb (fun _ z => by cases z)
          rw [upd_ne n1]
          exact un.tbls b qs (by rw [hide_ne n1]; exact hb)
        · intro b u' hb
          have up : ∀ {b : Addr} {o : HO}, H' b = some o → upd H' p (.lst zs) b = some o := fun hb => by
            rw [upd_ne (fun z => by rw [z, hp'] at hb; cases hb)]
            exact hb
          by_cases c : b = p
          · subst c
            rw [upd_same] at hb
            cases hb
            exact ⟨z, its, n, rz, e'⟩
          · rw [upd_ne c] at hb
            exact (hok' b u' hb).stay (fun _ _ _ x => x) (fun _ => up) (fun _ _ => up)
      | next => exact False.elim hq
      | brk => exact False.elim hq
      | cont => exact False.elim hq
theorem same_hide_new {H H' : Hp} {p : Addr} (S : Same H H') (n : H p = none) : Same H (hide p H') := fun b u e => by
  rw [hide_ne (fun z => by rw [z, n] at e; cases e)]
  exact S b u e
theorem DueE.shaped {d : PyData} (h : DueE d) : SeqAt.shaped d = true := Bool.and_eq_true_iff.mpr ⟨h.1.c, decide_eq_true (by have := h.1.p; omega)⟩
theorem hide_back {p : Addr} {H : Hp} {o : HO} (n : H p = none) : hide p (upd H p o) = H := by
  funext b
  by_cases c : b = p
  · rw [c, hide_at, n]
  · rw [hide_ne c, upd_ne c]
theorem SP.back {p : Addr} {H H' : Hp} {a b : Int} (h0 : 0 ≤ b) (h1 : b < 2147483629) (S : Same (hide p H) H') (n : H' p = none) : SP p H (upd H' p (.lst [.int a, .int b])) :=
  ⟨by rw [hide_back n]; exact S, a, b, upd_same, h0, h1⟩
theorem dp_intsV {K : PySem.W.Frag} {H : Hp} : ∀ {ks : List Int} {xs : List V}, DpAll K H xs (ks.map PyData.int) → xs = ks.map V.int
  | [], _, h => by cases h; rfl
  | k :: ks, _, h => by
    cases h with
    | cons h1 h2 =>
      cases h1
      rw [dp_intsV h2]
      rfl
theorem rgV_zs {n : Nat} : rgV 0 ((n : Nat) : Int) = (zs (List.range n)).map V.int := by
  unfold rgV zs
  rw [Int.sub_zero, List.map_map]
  show (List.range n).map _ = _
  refine List.map_congr_left fun k _ => ?_
  show V.int (0 + ((k : Nat) : Int)) = V.int ((k : Nat) : Int)
  rw [Int.zero_add]
theorem row_hide {K : PySem.W.Frag} {p : Addr} {H : Hp} {zs : List V} {v : V} {r : Row} (hp : H p = some (.lst zs)) (h : Dp K H v (.tuple (rowD r))) : Dp K (hide p H) v (.tuple (rowD r)) := by
  have T := sameT_hide hp
  obtain ⟨t, xs, rfl, hT, hA⟩ := h.tupI
  refine .tup (sqt_T T hT) ?_
  have hl : xs.length = r.length := by rw [hA.len, rowD_len]
  exact beadsAt_all hl ((beadsAt_of hA).monoT T)
theorem rowV_hide {K : PySem.W.Frag} {p : Addr} {H : Hp} {zs : List V} {v : V} {r : Row} (hp : H p = some (.lst zs)) (h : Dp K H v (.tuple (rowD r))) : RowV K (hide p H) v r := by
  obtain ⟨t, xs, rfl, hT, hA⟩ := (row_hide hp h).tupI
  exact ⟨t, xs, rfl, .inr hT, hA⟩
end Bt

namespace Bt
open PySem PySem.Spec PyProof.Rows L2
def spLaw (K : PySem.W.Frag) : Sp := fun vs H Q E => ∃ s, ∃ xs : List Int, vs = [.ref s] ∧ SqL K H s (xs.map V.int) ∧ xs.length ≤ 63 ∧ ∀ H', Q (.bl true) H'
section
variable {P : Program} {w : World} {K : PySem.W.Frag} {mg : Str → Option Value} {base : Heap}
theorem ok_law (T : Txt K mg) : FGo P w K mg base (L2.CX P w) 12 (a_law K) ["_law_script"] (spLaw K) := by
  refine okG T.d_law sc_law (fun vs H Q E h => ?_) (fun cdv A outer s H vs Q E hr h => ?_)
  · obtain ⟨s, xs, rfl, _⟩ := h
    rfl
  · obtain ⟨s, xs, rfl, hs, h63, q⟩ := h
    have G_Grove_bud := ok_Grove_bud (P := P) (w := w) (base := base) T
    have G_Grove_nip := ok_Grove_nip (P := P) (w := w) (base := base) T
    have G_RingU_initU := ok_RingU_initU (P := P) (w := w) (base := base) T
    have G_Ring_numbers := ok_Ring_numbers (P := P) (w := w) (base := base) T
    have G_Ring_row := ok_Ring_row (P := P) (w := w) (base := base) T
    have G__law_draw := ok__law_draw (P := P) (w := w) (base := base) T
    have G__law_drawn := ok__law_drawn (P := P) (w := w) (base := base) T
    have G__law_due := ok__law_due (P := P) (w := w) (base := base) T
    have G__law_grown := ok__law_grown (P := P) (w := w) (base := base) T
    have G__law_none_made := ok__law_none_made (P := P) (w := w) (base := base) T
    have G__law_own_refused := ok__law_own_refused (P := P) (w := w) (base := base) T
    have G__law_pot := ok__law_pot (P := P) (w := w) (base := base) T
    have G__law_row := ok__law_row (P := P) (w := w) (base := base) T
    have G__law_said := ok__law_said (P := P) (w := w) (base := base) T
    have G__law_state := ok__law_state (P := P) (w := w) (base := base) T
    have G_Grove_nip := ok_Grove_nipG (P := P) (w := w) (base := base) T
    have G__law_grown := hideFn (ok__law_grown (P := P) (w := w) (base := base) T)
    have hC : IsRing K (GvC K) := .inr rfl
    have hG : GvC K = He.ga K "Grove" := rfl
    obtain ⟨mvs, hkb⟩ := b_initK T
    obtain ⟨ds0, hv0, hb0⟩ := b_init0 T
    obtain ⟨dsr, hvr, hbr⟩ := b_row0 T
    refine ⟨_, (pss_cons (ps_set (i := 1) sc_law.nd rfl (Or.inl rfl) (pe_call G__law_pot (hr.r.mono (by decide)) rfl T.g__law_pot T.d__law_pot.kp T.b__law_pot .nil passE (pa_cons (pv 0) (pa_cons pe_int pa_nil)))) (pss_cons (ps_set (i := 2) sc_law.nd rfl (Or.inl rfl) (pe_call G__law_draw (hr.r.mono (by decide)) rfl T.g__law_draw T.d__law_draw.kp T.b__law_draw .nil passE (pa_cons (pv 1) (pa_cons pe_int pa_nil)))) (pss_cons (ps_set (i := 3) sc_law.nd rfl (Or.inl rfl) (pe_call G__law_row (hr.r.mono (by decide)) rfl T.g__law_row T.d__law_row.kp T.b__law_row .nil passE (pa_cons (pv 1) pa_nil))) (pss_cons (ps_set (i := 4) sc_law.nd rfl (Or.inl rfl) (pe_ix ix_list (pe_lst (pa_cons (pe_callB (id := "len") call_len (by rfl) T.f_len (by decide +kernel) (pa_cons (pv 3) pa_nil)) (pa_cons (pe_op op_add (pe_callB (id := "len") call_len (by rfl) T.f_len (by decide +kernel) (pa_cons (pv 3) pa_nil)) pe_int) (pa_cons pe_int pa_nil)))) (pv 2) (fun _ _ => rfl))) (pss_cons (ps_set (i := 5) sc_law.nd rfl (Or.inl rfl) (pe_makeK T.mkG G_RingU_initU (hr.r.mono (by decide)) rfl T.g_Grove hkb passE (pa_cons (pv 3) pa_nil) (pk_cons (pv 4) pk_nil))) (pss_cons (ps_set (i := 6) sc_law.nd rfl (Or.inl rfl) (pe_lst pa_nil)) (pss_cons (ps_if (pt_cmpR op_gt (pv 2) pe_int (nomark _)) (pss_cons (ps_expr (pe_bm PySem.F.plainAttrs_list PySem.F.slot_list_append PySem.F.type_list_append mt_append (pv 6) (pa_cons (pe_meth (pv 5) (T.cls hC) (T.mg_bud hG) G_Grove_bud (hr.r.mono (by decide)) T.b_Grove_bud .nil passE (pa_cons pe_str (pa_cons pe_int (pa_cons pe_int pa_nil)))) pa_nil))) (pss_one (ps_expr (pe_meth (pv 5) (T.cls hC) (T.mg_nip hG) G_Grove_nip (hr.r.mono (by decide)) T.b_Grove_nip .nil passE (pa_cons (pe_ix ix_list (pv 6) pe_int (fun _ _ => rfl)) pa_nil))))) pss_nil) (pss_cons (ps_if (pt_not (pt_val (pe_call G__law_none_made (hr.r.mono (by decide)) rfl T.g__law_none_made T.d__law_none_made.kp T.b__law_none_made .nil passE (pa_cons (pv 1) (pa_cons (pv 3) pa_nil))))) (pss_one (ps_ret pe_bl)) pss_nil) (pss_cons (ps_setLc (i := 7) (own := [("_law_k", 8)]) (g := gName 8) rfl sc_law.nd rfl rfl (sw_true rfl rfl rfl (by decide +kernel)) (pi_range1 rfl T.f_range (pa_cons (pe_op op_add pe_int (pe_call G__law_draw (hr.r.mono (by decide)) rfl T.g__law_draw T.d__law_draw.kp T.b__law_draw .nil passE (pa_cons (pv 1) (pa_cons pe_int pa_nil)))) pa_nil)) (blkOk_by (own := [("_law_k", 8)]) (N := ["_law_script", "_law_pot_here", "_law_room", "_law_row_here", "_law_bound", "_law_grove", "_law_gone", "_law_beads", "_law_k", "_law_ring", "_law_model", "_law_other", "_law_odd", "_law_door", "_law_some", "_law_due_here", "_law_kept", "_law_turn"]) (sc := defScope s_law) (by decide +kernel)) (fun _ _ _ _ _ => pg_name (i := 8) sc_law.nd rfl (Or.inl rfl)) (fun _ _ _ _ _ => pts_nil) (fun _ _ _ _ _ => (pe_tup (pa_cons pe_str (pa_cons (pe_op op_mod (pv 8) pe_int) pa_nil))))) (pss_cons (ps_set (i := 9) sc_law.nd rfl (Or.inl rfl) (pe_make T.mkR G_RingU_initU (hr.r.mono (by decide)) rfl T.g_Ring hb0 hv0 passE (pa_cons (pv 7) pa_nil))) (pss_cons (ps_set (i := 10) sc_law.nd rfl (Or.inl rfl) (pe_call G__law_grown (hr.r.mono (by decide)) rfl T.g__law_grown T.d__law_grown.kp T.b__law_grown .nil passE (pa_cons (pe_callTy (T := "list") call_list_of (by rfl) T.f_list (by decide +kernel) (pa_cons (pe_meth0 (pv 5) (T.cls hC) (T.mt_numbers hC) G_Ring_numbers (hr.r.mono (by decide)) T.b_Ring_numbers .nil passE) pa_nil)) (pa_cons (pe_meth0 (pv 5) (T.cls hC) (T.mt_row hC) G_Ring_row (hr.r.mono (by decide)) hbr hvr passE) pa_nil)))) (pss_cons (ps_set (i := 11) sc_law.nd rfl (Or.inl rfl) (pe_call G__law_grown (hr.r.mono (by decide)) rfl T.g__law_grown T.d__law_grown.kp T.b__law_grown .nil passE (pa_cons (pe_listRg (by rfl) rfl T.f_list (prg_1 rfl T.f_range (pe_callB (id := "len") call_len (by rfl) T.f_len (by decide +kernel) (pa_cons (pv 7) pa_nil)))) (pa_cons (pv 7) pa_nil)))) (pss_cons (ps_set (i := 12) sc_law.nd rfl (Or.inl rfl) (pe_ix ix_list (pe_op op_cat (pe_lst (pa_cons (pe_un un_neg pe_int) (pa_cons pe_bl (pa_cons pe_bl (pa_cons pe_str (pa_cons (pe_lst (pa_cons pe_int pa_nil)) (pa_cons (pe_tup (pa_cons pe_int pa_nil)) (pa_cons pe_dnewK (pa_cons (pe_op op_pow pe_int pe_int) pa_nil))))))))) (pe_op op_rep (pv 6) pe_int)) (pe_call G__law_draw (hr.r.mono (by decide)) rfl T.g__law_draw T.d__law_draw.kp T.b__law_draw .nil passE (pa_cons (pv 1) (pa_cons (pe_op op_add pe_int (pe_op op_mul pe_int (pe_callB (id := "len") call_len (by rfl) T.f_len (by decide +kernel) (pa_cons (pv 6) pa_nil)))) pa_nil))) (fun _ _ => rfl))) (pss_cons (ps_if (pt_not (pt_val (pe_callG G__law_own_refused (hr.mono (by decide)) rfl T.g__law_own_refused T.d__law_own_refused.kp T.b__law_own_refused .nil passE (pa_cons (pv 5) (pa_cons (pv 9) (pa_cons (pv 12) pa_nil)))))) (pss_one (ps_ret pe_bl)) pss_nil) (pss_cons (ps_for (passes_of rfl) rfl (pi_range2 rfl T.f_range (pa_cons pe_int (pa_cons (pe_callB (id := "max") (call_max2 (by rfl)) (by rfl) T.f_max (by decide +kernel) (pa_cons pe_int (pa_cons (pe_callB (id := "min") (call_min2 (by rfl)) (by rfl) T.f_min (by decide +kernel) (pa_cons (pe_callB (id := "len") call_len (by rfl) T.f_len (by decide +kernel) (pa_cons (pv 0) pa_nil)) (pa_cons pe_int pa_nil))) pa_nil))) pa_nil))) (pg_name (i := 8) sc_law.nd rfl (Or.inl rfl)) (pss_cons (ps_set (i := 1) sc_law.nd rfl (Or.inl rfl) (pe_call G__law_pot (hr.r.mono (by decide)) rfl T.g__law_pot T.d__law_pot.kp T.b__law_pot .nil passE (pa_cons (pv 0) (pa_cons (pv 8) pa_nil)))) (pss_cons (ps_set (i := 13) sc_law.nd rfl (Or.inl rfl) (pe_call G__law_draw (hr.r.mono (by decide)) rfl T.g__law_draw T.d__law_draw.kp T.b__law_draw .nil passE (pa_cons (pv 1) (pa_cons pe_int pa_nil)))) (pss_cons (ps_set (i := 14) sc_law.nd rfl (Or.inl rfl) (pe_call G__law_drawn (hr.r.mono (by decide)) rfl T.g__law_drawn T.d__law_drawn.kp T.b__law_drawn .nil passE (pa_cons (pv 1) (pa_cons (pv 10) (pa_cons (pv 11) (pa_cons (pv 13) (pa_cons (pv 6) pa_nil))))))) (pss_cons (ps_set (i := 15) sc_law.nd rfl (Or.inl rfl) (pe_callG G__law_due (hr.mono (by decide)) rfl T.g__law_due T.d__law_due.kp T.b__law_due .nil passE (pa_cons (pv 10) (pa_cons (pv 11) (pa_cons (pv 13) (pa_cons (pv 14) (pa_cons (pv 4) pa_nil))))))) (pss_cons (ps_set (i := 16) sc_law.nd rfl (Or.inl rfl) (pe_callG G__law_state (hr.mono (by decide)) rfl T.g__law_state T.d__law_state.kp T.b__law_state .nil passE (pa_cons (pv 5) (pa_cons (pv 9) pa_nil)))) (pss_one (ps_for (passes_of rfl) rfl (pi_range1 rfl T.f_range (pa_cons (pe_op op_mul pe_int (pe_callTy (T := "int") call_int1 (by rfl) T.f_int (by decide +kernel) (pa_cons (pe_cmpR (op_neD hr.r.units) (pv 15) (pe_lst pa_nil) (nomark _)) pa_nil))) pa_nil)) (pg_name (i := 17) sc_law.nd rfl (Or.inl rfl)) (pss_one (ps_if (PW.pt (pw_or (pt_cmpR (op_neD hr.r.units) (pe_callG G__law_said (hr.mono (by decide)) rfl T.g__law_said T.d__law_said.kp T.b__law_said .nil passE (pa_cons (pv 5) (pa_cons (pv 9) (pa_cons (pv 13) (pa_cons (pv 14) pa_nil))))) (pe_ix ix_list (pv 15) pe_int (fun _ _ => rfl)) (nomark _)) (pw_or1 (pt_cmpR op_ne (pe_callG G__law_state (hr.mono (by decide)) rfl T.g__law_state T.d__law_state.kp T.b__law_state .nil passE (pa_cons (pv 5) (pa_cons (pv 9) pa_nil))) (pv 16) (nomark _))))) (pss_one (ps_ret pe_bl)) pss_nil)))))))))) (pss_one (ps_ret pe_bl))))))))))))))))), ?_⟩
    refine ⟨_, rfl, s, xs, 0, rfl, hs, by decide, fun p H1 hp S1 P1 => ?_⟩
    refine ⟨_, rfl, p, 3, rfl, P1, (by decide), (by decide +kernel), fun dm H2 dm0 dm1 S2 => ?_⟩
    obtain ⟨room, rfl⟩ : ∃ k : Nat, dm = (k : Nat) := ⟨dm.toNat, by omega⟩
    have hroom : room < 3 := by omega
    refine ⟨_, rfl, p, rfl, S2.pot, fun rl rs r H3 g16 h16 S3 hrl nrl hD => ?_⟩
    have hxl : rs.length = r.length := by rw [hD.len, rowD_len]
    have g1 := g16.ne
    refine ⟨_, rfl, _, r.length, rfl, .inl ⟨_, .inl (.inl hrl), hxl.symm⟩, _, rfl, _, r.length, rfl, .inl ⟨_, .inl (.inl hrl), hxl.symm⟩, _, _, rfl, rfl, (by show 3 ≤ sizeLine; decide), fun bl hbl => ?_⟩
    have T3 := same_new hbl (o := HO.lst [.int (r.length : Nat), .int ((r.length : Nat) + 1), .int 100])
    have h3 : (upd H3 bl (.lst [V.int (r.length : Nat), .int ((r.length : Nat) + 1), .int 100])) bl = some (.lst [V.int (r.length : Nat), .int ((r.length : Nat) + 1), .int 100]) := upd_same
    generalize upd H3 bl (.lst [V.int (r.length : Nat), .int ((r.length : Nat) + 1), .int 100]) = H4 at T3 h3
    obtain ⟨m, hm, m1, m2, m3⟩ : ∃ m : Nat, atI [V.int (r.length : Nat), .int ((r.length : Nat) + 1), .int 100] ((room : Nat) : Int) = some (.int (m : Nat)) ∧ r.length ≤ m ∧ m ≤ 100 ∧ (0 < room → r.length ≠ m) := by
      rcases room with _ | _ | _ | k
      · exact ⟨r.length, atI_nat rfl, by omega, by omega, by omega⟩
      · exact ⟨r.length + 1, atI_nat rfl, by omega, by omega, by omega⟩
      · exact ⟨100, atI_nat rfl, by omega, by omega, by omega⟩
      · omega
    refine ⟨_, rfl, bl, _, _, _, rfl, rfl, .inl (.inl h3), hm, ?_⟩
    have hrl4 := T3 _ _ hrl
    have P4 := S3.pot.mono T3
    have hD4 := hD.mono (hide_same T3)
    refine ⟨_, rfl, _, rfl, rfl, rfl, fun g dx hg hdx ne => ⟨g, GvC K, dx, .ref rl, .int (m : Nat), rfl, hC, upd_same, .inr (.inr ⟨r, m, ?_, g16, rfl, m1, m2, fun H5 hh hN => ⟨rfl, ?_⟩⟩)⟩⟩
    · have T4 : Same H4 (upd (upd H4 dx (.own g)) g (.ins (GvC K) dx [])) := (same_new hdx).trans (same_new (by rw [upd_ne ne.symm]; exact hg))
      exact .lst (.inl (.inl (T4 _ _ hrl4))) ((hD4.mono (hide_le p H4)).mono T4)
    have T4 : Same H4 (upd (upd H4 dx (.own g)) g (.ins (GvC K) dx [])) := (same_new hdx).trans (same_new (by rw [upd_ne ne.symm]; exact hg))
    have N5 := hN H4 T4 hg
    obtain ⟨pa, pb, hpz, pb0, pb1⟩ := P4
    refine ⟨(by show 0 ≤ sizeLine; decide), fun gl hgl => ?_⟩
    have N6 := N5.new hgl (o := HO.lst [])
    have T5 : Same H5 (upd H5 gl (.lst [])) := same_new hgl
    have hgl6 : (upd H5 gl (.lst [])) gl = some (.lst []) := upd_same
    have hgl0 : H4 gl = none := N5.S.free hgl
    have T45 : Same H4 (upd H4 gl (.lst [])) := same_new hgl0
    have ngl : gl ≠ p := fun z => by rw [z, hpz] at hgl0; cases hgl0
    have hgl4 : (upd H4 gl (.lst [])) gl = some (.lst []) := upd_same
    generalize upd H5 gl (.lst []) = H6 at N6 T5 hgl6
    generalize hX : upd H4 gl (.lst []) = X4 at N6 T45 hgl4
    have T46 : Same H4 H6 := N5.S.trans T5
    have ini : Ini (newR r m) := ⟨newW g16 m2, rfl, by show r.length ≤ 900; omega, by show 0 ≤ 900; omega, by show r.length < 60; omega⟩
    refine ⟨_, rfl, _, _, rfl, rfl, _, rfl, ?_⟩
    have glue : ∀ {F : Hp → Prop} {G : Prop} (h : ∀ R gs Hn, Mid K p rl rs r m Hn g gl R gs → Same H4 Hn → F Hn) (k : (∀ R gs Hn, Mid K p rl rs r m Hn g gl R gs → Same H4 Hn → F Hn) → G), G := fun h k => k h
    apply glue
    case k =>
      intro rest
      by_cases c : room = 0
      · rw [decide_eq_false (show ¬ ((0 : Int) < (room : Nat)) by omega)]
        refine iteF ?_
        exact rest (newR r m) [] H6 ⟨⟨pa, pb, T46 _ _ hpz, pb0, pb1⟩, T46 _ _ hrl4, hD4.mono (hide_same T46), N6.hide (T45 _ _ hpz), ini.W, ini.idn, rfl, rfl, hgl6, ngl, by simp, fun k hk => by cases hk⟩ T46
      · rw [decide_eq_true (show ((0 : Int) < (room : Nat)) by omega)]
        refine iteT ?_
        obtain ⟨dx6, lo6, hd6, kv6, hs6, hR6, _⟩ := N6.ex
        refine ⟨_, rfl, .inl ⟨rfl, _, SqL.of hgl6⟩, _, rfl, g, dx6, _, rfl, hR6.ins, rfl, g, newR r m, hh, r.length, X4, rfl, N6, ini, by omega, (by exact m3 (by omega)), fun H7 N7 => ?_⟩
        have hgl7 := N7.S _ _ hgl4
        have ngg : g ≠ gl := fun z => by rw [← z] at hgl4; rw [N7.ng] at hgl4; cases hgl4
        have N8 := N7.put (budW ini) (show 1 ≤ 0 + 1 by omega) hgl7 ngg (xs := [] ++ [.int ((newR r m).c : Nat)])
        refine ⟨gl, _, _, rfl, rfl, hgl7, by show 0 < sizeLine; decide, ?_⟩
        have hgl8 : (upd H7 gl (.lst ([] ++ [V.int ((newR r m).c : Nat)]))) gl = some (.lst [V.int ((newR r m).c : Nat)]) := upd_same
        have hglX : (upd X4 gl (.lst ([] ++ [V.int ((newR r m).c : Nat)]))) gl = some (.lst [V.int ((newR r m).c : Nat)]) := upd_same
        have TX : Same H4 (upd X4 gl (.lst ([] ++ [V.int ((newR r m).c : Nat)]))) := same_upd T45 hgl0
        generalize upd X4 gl (.lst ([] ++ [V.int ((newR r m).c : Nat)])) = X5 at N8 hglX TX
        generalize upd H7 gl (.lst ([] ++ [V.int ((newR r m).c : Nat)])) = H8 at N8 hgl8
        obtain ⟨dx8, lo8, hd8, kv8, hs8, hR8, _⟩ := N8.ex
        refine ⟨_, rfl, g, dx8, _, rfl, hR8.ins, rfl, _, rfl, gl, _, _, _, rfl, rfl, .inl (.inl hgl8), (show atI [V.int ((newR r m).c : Nat)] ((0 : Nat) : Int) = some _ from atI_nat rfl), g, newR r m, hh, r.length + 3, X5, rfl, N8, ini, by omega, fun v9 H9 N9 => ?_⟩
        exact rest (nipR (newR r m)) [((newR r m).c : Nat)] H9 ⟨⟨pa, pb, N9.S _ _ (TX _ _ hpz), pb0, pb1⟩, N9.S _ _ (TX _ _ hrl4), hD4.mono (hide_same (TX.trans N9.S)), N9.hide (TX _ _ hpz), nipW ini, nipIdn ini.idn, rfl, rfl, N9.S _ _ hglX, ngl, by simp, fun k hk => List.mem_singleton.mp hk⟩ (TX.trans N9.S)
    intro R gs Hn M T46
    refine ⟨_, rfl, _, rfl, p, rl, r, rs, rfl, M.fpot, M.frow, nrl, M.frd, g16, h16, fun Hm SM => ⟨_, rfl, iteF ?_⟩⟩
    refine ⟨_, rfl, p, 100, rfl, SM.pot, (by decide), (by decide +kernel), fun dn H10 dn0 dn1 S10 => ⟨_, _, rfl, rfl, _, rfl, by omega, by omega, fun D hDn => ?_⟩⟩
    obtain ⟨kb, rfl⟩ : ∃ k : Nat, dn = (k : Nat) := ⟨dn.toNat, by omega⟩
    have en : ((1 : Int) + ((kb : Nat) : Int)).toNat = 1 + kb := by omega
    refine lc_it (walk_range (lo := 0) (n := ((1 : Int) + ((kb : Nat) : Int)).toNat)) (fun i H' => Same H10 H' ∧ ∃ acc, H' D = some (.lst acc) ∧ acc.length = i ∧ BeadsAt K H' acc (ringR i)) ⟨same_new hDn, [], upd_same, rfl, fun j b hj => by cases hj⟩ (fun _ _ _ _ => True.intro) ?_ ?_
    · rintro i x Ha Hb hi ⟨Sa, acc, hA, hl, hB⟩ ⟨rfl, rfl⟩
      refine ⟨rfl, _, rfl, _, _, rfl, rfl, (show (0 : Int) < 2 by decide), (by show 2 ≤ sizeLine; decide), fun t ht => ?_⟩
      have hz : ((0 : Int) + ((i : Nat) : Int)) % 2 = ((i % 2 : Nat) : Int) := by omega
      have St : Same Hb (upd Hb t (.tup [.str "b", .int (((0 : Int) + ((i : Nat) : Int)) % 2)])) := same_new ht
      have hAt := St _ _ hA
      have T9 : SameT (upd Hb t (.tup [.str "b", .int (((0 : Int) + ((i : Nat) : Int)) % 2)])) (upd (upd Hb t (.tup [.str "b", .int (((0 : Int) + ((i : Nat) : Int)) % 2)])) D (.lst (acc ++ [.ref t]))) := sameT_upd hAt (fun z => z)
      refine ⟨acc, hAt, lt_line (by omega), same_upd (Sa.trans St) hDn, acc ++ [.ref t], upd_same, by rw [List.length_append, hl]; rfl, fun j b hb => ?_⟩
      have hj := (List.getElem?_eq_some_iff.mp hb).1
      rw [ringR_len] at hj
      rw [ringR_get hj] at hb
      have eb := Option.some.inj hb
      by_cases cj : j < i
      · obtain ⟨v, e1, e2⟩ := hB j b (by rw [ringR_get cj, eb])
        exact ⟨v, by rw [List.getElem?_append_left (by omega)]; exact e1, dp_bead_T T9 (e2.mono St)⟩
      · have ej : j = i := by omega
        subst ej
        refine ⟨.ref t, by rw [List.getElem?_append_right (by omega), hl, Nat.sub_self]; rfl, ?_⟩
        rw [← eb]
        refine bead_mk (sqt_T T9 ?_)
        rw [hz]
        exact SqT.of upd_same
    · rintro Ha ⟨Sa, acc, hA, hl, hB⟩
      rw [en] at hl hB
      have gR := ring_good (n := 1 + kb) (by omega) (by omega)
      have hlR := ringR_len (1 + kb)
      have dA : DpAll K Ha acc (rowD (ringR (1 + kb))) := beadsAt_all (by rw [hl, hlR]) hB
      refine ⟨_, rfl, fun h dxh hh0 hdh0 neh => ⟨h, He.ga K "Ring", dxh, .ref D, .int (100 : Nat), rfl, .inl rfl, upd_same, .inr (.inr ⟨ringR (1 + kb), 100, ?_, gR, rfl, by omega, by omega, fun Hr hhr hNr => ⟨rfl, ?_⟩⟩)⟩⟩
      · have T7 : Same Ha (upd (upd Ha dxh (.own h)) h (.ins (He.ga K "Ring") dxh [])) := (same_new hdh0).trans (same_new (by rw [upd_ne neh.symm]; exact hh0))
        exact .lst (.inl (.inl (T7 _ _ hA))) (dA.mono T7)
      have T7 : Same Ha (upd (upd Ha dxh (.own h)) h (.ins (He.ga K "Ring") dxh [])) := (same_new hdh0).trans (same_new (by rw [upd_ne neh.symm]; exact hh0))
      have NR := hNr Ha T7 hh0
      have SA := (SM.trans S10).same Sa
      have Sr := SA.same NR.S
      obtain ⟨qa, qb, hqz, _, _⟩ := SA.pot
      have gH := M.fg.mono Sr.S
      have hH := NR.hide hqz
      have nD := (SM.trans S10).pot.ne hDn
      have WR : RgW (newR (ringR (1 + kb)) 100) := newW gR (by omega)
      have iR : Idn (newR (ringR (1 + kb)) 100) := rfl
      have hAr := NR.S _ _ hA
      -- the model of the grove
      have g0 := gH.mono (hide_le p Hr)
      obtain ⟨dg, log, hdg, hhg, kvg, hsg, hRg⟩ := g0
      refine ⟨_, rfl, g, dg, _, rfl, hRg.ins, rfl, g, _, R, rfl, hC, ⟨dg, log, hdg, hhg, kvg, hsg, hRg⟩, M.W, M.i, fun nv H11 S11 tn => ?_⟩
      obtain ⟨na, nxs, rfl, hTn, hAn⟩ := tn.tupI
      have enx := dp_intsV hAn
      subst enx
      refine ⟨na, _, rfl, .inr hTn, fun nl hnl => ?_⟩
      have T11 := same_new hnl (o := HO.lst ((zs (List.range R.r.length)).map V.int))
      have hnl12 : (upd H11 nl (.lst ((zs (List.range R.r.length)).map V.int))) nl = some (.lst ((zs (List.range R.r.length)).map V.int)) := upd_same
      generalize upd H11 nl (.lst ((zs (List.range R.r.length)).map V.int)) = H12 at T11 hnl12
      have S12 := S11.trans T11
      have hRg12 := hRg.mono S12
      refine ⟨_, rfl, g, dg, _, rfl, hRg12.ins, rfl, g, _, R, _, rfl, hC, ⟨dg, log, hdg, hhg, kvg, hsg, hRg12⟩, M.W, .inl ⟨rfl, M.i, fun rv H13 S13 tr => ?_⟩⟩
      have Sr13 := S12.trans S13
      have SP13 := Sr.same Sr13
      obtain ⟨ca, cb, hcz, hc0, hc1⟩ := SP13.pot
      have nnl : nl ≠ p := ((Sr.same S11).pot).ne hnl
      refine ⟨p, _, hcz, nl, rv, R.r, rfl, hide_get (S13 _ _ hnl12) nnl, rowV_hide hcz tr, M.W.good, fun mu H14 S14 Mm hp14 => ?_⟩
      have SP14 := SP.back hc0 hc1 S14 hp14 (a := ca)
      have eh14 := hide_back (o := HO.lst [.int ca, .int cb]) hp14
      generalize upd H14 p (.lst [.int ca, .int cb]) = X14 at SP14 eh14
      have Mm' : Md K (hide p X14) mu R.r := by rw [eh14]; exact Mm
      -- the model of the ring
      have SPr14 : SP p Hr X14 := (SP.of Sr.pot Sr13).trans SP14
      have hA14 := SPr14.at hAr nD
      refine ⟨_, rfl, _, 1 + kb, rfl, .inl ⟨acc, .inl (.inl hA14), hl.symm⟩, _, rfl, RgOk.of_le (by omega) (by omega) (by omega) (by omega), fun lo hlo => ?_⟩
      rw [rgV_zs]
      have T15 := same_new hlo (o := HO.lst ((zs (List.range (1 + kb))).map V.int))
      have hlo15 : (upd X14 lo (.lst ((zs (List.range (1 + kb))).map V.int))) lo = some (.lst ((zs (List.range (1 + kb))).map V.int)) := upd_same
      have nlo : lo ≠ p := SPr14.pot.ne hlo
      have SPr15 := SPr14.new hlo (o := HO.lst ((zs (List.range (1 + kb))).map V.int))
      generalize upd X14 lo (.lst ((zs (List.range (1 + kb))).map V.int)) = H15 at T15 hlo15 SPr15
      have hA15 := T15 _ _ hA14
      have dAh : DpAll K (hide p Ha) acc (rowD (ringR (1 + kb))) := beadsAt_all (by rw [hl, hlR]) (hB.monoT (sameT_hide hqz))
      have SPa15 : SP p Ha H15 := (SP.of SA.pot NR.S).trans SPr15
      obtain ⟨da, db, hdz, hd0, hd1⟩ := SPr15.pot
      refine ⟨_, rfl, p, _, hdz, lo, .ref D, ringR (1 + kb), rfl, (by rw [hlR]; exact hide_get hlo15 nlo), ⟨D, acc, rfl, .inl (.inl (.inl (hide_get hA15 nD))), dAh.mono SPa15.S⟩, gR, fun ou H16 S16 Mo hp16 => ?_⟩
      have SP16 := SP.back hd0 hd1 S16 hp16 (a := da)
      have eh16 := hide_back (o := HO.lst [.int da, .int db]) hp16
      generalize upd H16 p (.lst [.int da, .int db]) = X16 at SP16 eh16
      have Mo' : Md K (hide p X16) ou (ringR (1 + kb)) := by rw [eh16]; exact Mo
      have SPr16 := SPr15.trans SP16
      have Mm16 := (Mm'.mono (hide_same T15)).mono SP16.S
      -- what is no bead's number
      refine ⟨_, rfl, ?_⟩
      refine ⟨(by show 1 ≤ sizeLine; decide), fun ol hol => ?_⟩
      have nol := SPr16.pot.ne hol
      have V1 := SPr16.new hol (o := HO.lst [.int 0])
      have Y1 := same_new hol (o := HO.lst [.int 0])
      have w1 : (upd X16 ol (.lst [V.int 0])) ol = some (.lst [V.int 0]) := upd_same
      generalize upd X16 ol (.lst [V.int 0]) = H17 at V1 Y1 w1
      refine ⟨(by show 1 ≤ sizeLine; decide), fun ot hot => ?_⟩
      have not_ := V1.pot.ne hot
      have V2 := V1.new hot (o := HO.tup [.int 0])
      have Y2 := same_new hot (o := HO.tup [.int 0])
      have w2 : (upd H17 ot (.tup [V.int 0])) ot = some (.tup [V.int 0]) := upd_same
      generalize upd H17 ot (.tup [V.int 0]) = H18 at V2 Y2 w2
      refine fun od hod => ?_
      have nod := V2.pot.ne hod
      have V3 := V2.new hod (o := HO.dK [])
      have Y3 := same_new hod (o := HO.dK [])
      have w3 : (upd H18 od (.dK [])) od = some (.dK []) := upd_same
      generalize upd H18 od (.dK []) = H19 at V3 Y3 w3
      have pw : CPow 10 40 := ⟨by decide, by decide, by decide⟩
      refine ⟨_, _, rfl, rfl, pw, (by show 8 ≤ sizeLine; decide), fun ob hob => ?_⟩
      have nob := V3.pot.ne hob
      have V4 := V3.new hob (o := HO.lst [V.int (-1), .bl true, .bl false, .str "0", .ref ol, .ref ot, .ref od, .int ((10 : Int) ^ (40 : Int).toNat)])
      have Y4 := same_new hob (o := HO.lst [V.int (-1), .bl true, .bl false, .str "0", .ref ol, .ref ot, .ref od, .int ((10 : Int) ^ (40 : Int).toNat)])
      have w4 : (upd H19 ob (.lst [V.int (-1), .bl true, .bl false, .str "0", .ref ol, .ref ot, .ref od, .int ((10 : Int) ^ (40 : Int).toNat)])) ob = some (.lst [V.int (-1), .bl true, .bl false, .str "0", .ref ol, .ref ot, .ref od, .int ((10 : Int) ^ (40 : Int).toNat)]) := upd_same
      generalize upd H19 ob (.lst [V.int (-1), .bl true, .bl false, .str "0", .ref ol, .ref ot, .ref od, .int ((10 : Int) ^ (40 : Int).toNat)]) = H20 at V4 Y4 w4
      have hgl20 := (Sr.trans V4).at M.fgl M.fngl
      have hg1 := M.fgs
      refine ⟨_, rfl, gl, 2, _, rfl, rfl, hgl20, by decide, by decide, ?_, fun oc hoc => ?_⟩
      · rw [List.length_map]
        show gs.length * 2 ≤ sizeLine
        exact le_line (by omega)
      have er : (List.replicate (2 : Int).toNat (gs.map V.int)).flatten = (gs ++ gs).map V.int := by
        show (List.replicate 2 (gs.map V.int)).flatten = _
        simp [List.replicate_succ]
      rw [er]
      have noc := V4.pot.ne hoc
      have V5 := V4.new hoc (o := HO.lst ((gs ++ gs).map V.int))
      have Y5 := same_new hoc (o := HO.lst ((gs ++ gs).map V.int))
      have w5 : (upd H20 oc (.lst ((gs ++ gs).map V.int))) oc = some (.lst ((gs ++ gs).map V.int)) := upd_same
      generalize upd H20 oc (.lst ((gs ++ gs).map V.int)) = H21 at V5 Y5 w5
      refine ⟨ob, oc, _, _, rfl, rfl, Y5 _ _ w4, w5, ?_, fun oe hoe => ?_⟩
      · rw [List.length_map, List.length_append]
        show 8 + _ ≤ sizeLine
        exact le_line (by omega)
      have noe := V5.pot.ne hoe
      have V6 := V5.new hoe (o := HO.lst ([V.int (-1), .bl true, .bl false, .str "0", .ref ol, .ref ot, .ref od, .int ((10 : Int) ^ (40 : Int).toNat)] ++ (gs ++ gs).map V.int))
      have Y6 := same_new hoe (o := HO.lst ([V.int (-1), .bl true, .bl false, .str "0", .ref ol, .ref ot, .ref od, .int ((10 : Int) ^ (40 : Int).toNat)] ++ (gs ++ gs).map V.int))
      have w6 : (upd H21 oe (.lst ([V.int (-1), .bl true, .bl false, .str "0", .ref ol, .ref ot, .ref od, .int ((10 : Int) ^ (40 : Int).toNat)] ++ (gs ++ gs).map V.int))) oe = some (.lst ([V.int (-1), .bl true, .bl false, .str "0", .ref ol, .ref ot, .ref od, .int ((10 : Int) ^ (40 : Int).toNat)] ++ (gs ++ gs).map V.int)) := upd_same
      generalize upd H21 oe (.lst ([V.int (-1), .bl true, .bl false, .str "0", .ref ol, .ref ot, .ref od, .int ((10 : Int) ^ (40 : Int).toNat)] ++ (gs ++ gs).map V.int)) = H22 at V6 Y6 w6
      have Z3 := Y4.trans (Y5.trans Y6)
      have Z2 := Y3.trans Z3
      have Z1 := Y2.trans Z2
      have hgl22 := (Sr.trans V6).at M.fgl M.fngl
      have nR : R.r.length ≤ 16 := by rw [M.fr]; exact h16
      have tol : TD K (hide p H22) (.ref ol) (.list [.int 0]) := .inl (.lst (.inl (.inl (hide_get (Z1 _ _ w1) nol))) (.cons (.int _) .nil))
      have tot : TD K (hide p H22) (.ref ot) (.tuple [.int 0]) := .inl (.tup (SqT.of (hide_get (Z2 _ _ w2) not_)) (.cons (.int _) .nil))
      have tod : TD K (hide p H22) (.ref od) (.dict []) := .inr ⟨_, rfl, hide_get (Z3 _ _ w3) nod, rfl⟩
      have ok : ∀ {d : PyData}, NumT d → isBd R.r d = false → d ≠ .none → OddOk R d := fun h1 h2 h3 => ⟨isB_none M.W M.i h2, h1.show, h3⟩
      have all8 : AllTh K (hide p H22) (OddOk R) [V.int (-1), .bl true, .bl false, .str "0", .ref ol, .ref ot, .ref od, .int ((10 : Int) ^ (40 : Int).toNat)] :=
        .cons (.inl (.int _)) (odd_int M.W M.i (by decide) (.inl (by decide))) (.cons (.inl (.bl _)) (ok (.inr (.inl ⟨_, rfl⟩)) rfl (by simp)) (.cons (.inl (.bl _)) (ok (.inr (.inl ⟨_, rfl⟩)) rfl (by simp)) (.cons (.inl (.str _)) (ok (.inr (.inr (.inr (.inl rfl)))) rfl (by simp))
          (.cons tol (ok (.inr (.inr (.inr (.inr (.inr (.inr (.inl rfl))))))) rfl (by simp)) (.cons tot (ok (.inr (.inr (.inr (.inr (.inr (.inl rfl)))))) rfl (by simp)) (.cons tod (ok (.inr (.inr (.inr (.inr (.inr (.inr (.inr rfl))))))) rfl (by simp))
          (.cons (.inl (.int _)) (odd_int M.W M.i (by decide) (.inr (Int.le_trans (show ((R.r.length : Nat) : Int) ≤ 16 by omega) (by decide)))) .nil)))))))
      have allo : AllTh K (hide p H22) (OddOk R) ([V.int (-1), .bl true, .bl false, .str "0", .ref ol, .ref ot, .ref od, .int ((10 : Int) ^ (40 : Int).toNat)] ++ (gs ++ gs).map V.int) := fun x hx => by
        rcases List.mem_append.mp hx with h | h
        · exact all8 x h
        · obtain ⟨g', hg', rfl⟩ := List.mem_map.mp h
          have hm : g' ∈ gs := by simpa using hg'
          have ek := M.fgk g' hm
          exact ⟨.int g', .inl (.int g'), odd_int M.W M.i (by rw [ek]; show ((r.length : Nat) : Int).natAbs < _; omega) (.inr (by rw [ek, M.fr]; exact Int.le_refl _))⟩
      refine ⟨_, rfl, _, rfl, _, gs.length, rfl, .inl ⟨_, .inl (.inl hgl22), by rw [List.length_map]⟩, _, _, rfl, rfl, .inl ⟨by decide, by decide⟩, _, _, rfl, rfl, p, _, rfl, V6.pot, ?_, ?_, fun e H23 e0 e1 S23 => ?_⟩
      · show (0 : Int) < 8 + 2 * (gs.length : Nat)
        omega
      · exact log2_small (show (0 : Int) < 8 + 2 * (gs.length : Nat) by omega) (show (8 : Int) + 2 * (gs.length : Nat) < 2 ^ 200 by omega)
      have e1' : e < (8 : Int) + 2 * (gs.length : Nat) := e1
      obtain ⟨x, hx, hm⟩ := at_in (xs := [V.int (-1), .bl true, .bl false, .str "0", .ref ol, .ref ot, .ref od, .int ((10 : Int) ^ (40 : Int).toNat)] ++ (gs ++ gs).map V.int) e0 (by
        rw [List.length_append, List.length_map, List.length_append]
        show e < ((8 + (gs.length + gs.length) : Nat) : Int)
        omega)
      obtain ⟨xd, htx, hox⟩ := (allo.mono S23.S) x hm
      refine ⟨oe, _, e, x, rfl, rfl, .inl (.inl (S23.at w6 noe)), hx, ?_⟩
      have SPr23 := V6.trans S23
      have g23 := (gH.mono SPr23.S).mono (hide_le p H23)
      have h23 := (hH.mono SPr23.S).mono (hide_le p H23)
      have tW : TwoW R (newR (ringR (1 + kb)) 100) := ⟨M.W, M.i, WR, iR⟩
      have hxn : x ≠ .non := fun z => by
        subst z
        rcases htx with k | ⟨a, k, _⟩
        · cases k
          exact hox.2.2 rfl
        · cases k
      refine ⟨_, rfl, _, rfl, _, rfl, g, h, R, newR (ringR (1 + kb)) 100, x, xd, rfl, ⟨g23, h23⟩, tW, htx.mono (hide_le p H23), hxn, hox.1, hox.2.1, fun H24 S24 => ⟨_, rfl, iteF ?_⟩⟩
      have SPall : SP p H1 H24 := (((S2.trans S3).same (T3.trans T46)).trans Sr).trans (SPr23.same S24)
      have T0 : Same H H24 := by
        have k : Same H (hide p H1) := fun b u e => by
          rw [hide_ne (fun z => by rw [z, hp] at e; cases e)]
          exact S1 b u e
        exact (k.trans SPall.S).trans (hide_le p H24)
      have g24 := g23.mono S24
      have h24 := h23.mono S24
      have YY : Same X16 H22 := Y1.trans (Y2.trans (Y3.trans (Y4.trans (Y5.trans Y6))))
      have S1623 : Same (hide p X16) (hide p H23) := (hide_same YY).trans S23.S
      have Mm24 := ((Mm16.mono S1623).mono (hide_le p H23)).mono S24
      have Mo24 := ((Mo'.mono S1623).mono (hide_le p H23)).mono S24
      have hgl24 := S24 _ _ ((Sr.trans SPr23).at M.fgl M.fngl)
      have hs24 := same_l T0 hs
      have gz : ∀ z ∈ gs, z.natAbs < 2 ^ 200 := fun z hz => by
        rw [M.fgk z hz]
        show ((r.length : Nat) : Int).natAbs < _
        omega
      refine ⟨_, rfl, _, xs.length, rfl, .inl ⟨_, hs24, by rw [List.length_map]⟩, _, _, rfl, _, _, rfl, _, _, rfl, ?_, ?_⟩
      · have : xs.length ≤ 63 := h63
        split <;> split <;> omega
      generalize hnn : ((if (if (17 : Int) < ((xs.length : Nat) : Int) then (17 : Int) else ((xs.length : Nat) : Int)) > 5 then (if (17 : Int) < ((xs.length : Nat) : Int) then (17 : Int) else ((xs.length : Nat) : Int)) else 5) - 1).toNat = nn
      have hn16 : nn ≤ 16 := by
        rw [← hnn]
        split <;> split <;> omega
      refine for_it (walk_range (lo := 1) (n := nn)) (fun j σ H' => ∃ x1 x8 x13 x14 x15 x16 x17, σ = [some (.ref s), x1, some (.int (room : Nat)), some (.ref rl), some (.int (m : Nat)), some (.ref g), some (.ref gl), some (.ref D), x8, some (.ref h), some mu, some ou, some x, x13, x14, x15, x16, x17] ∧ Same H24 H') ⟨_, _, _, _, _, _, _, rfl, Same.refl _⟩ (fun _ _ _ _ _ => True.intro) ?_ ?_
      · rintro j y σ Hb Hc hj ⟨x1, x8, x13, x14, x15, x16, x17, rfl, Sb⟩ ⟨rfl, rfl⟩
        refine ⟨_, rfl, _, rfl, s, xs, 1 + j, rfl, same_l Sb hs24, by omega, fun pk H31 hpk S31 P31 => ?_⟩
        refine ⟨_, rfl, pk, 7, rfl, P31, (by decide), (by decide +kernel), fun dr H32 dr0 dr1 S32 => ?_⟩
        obtain ⟨door, rfl⟩ : ∃ k : Nat, dr = (k : Nat) := ⟨dr.toNat, by omega⟩
        have hd7 : door < 7 := by omega
        have hS32 : Same Hc (hide pk H32) := (same_hide_new S31 hpk).trans S32.S
        have hglc := Sb _ _ hgl24
        have ngk : gl ≠ pk := fun z => by rw [z, hpk] at hglc; cases hglc
        have hgl32 := (hS32.trans (hide_le pk H32)) _ _ hglc
        refine ⟨_, rfl, _, rfl, _, rfl, _, rfl, _, rfl, pk, mu, ou, gl, R.r, ringR (1 + kb), gs, door, rfl, S32.pot, (Mm24.mono Sb).mono hS32, M.W.good, (Mo24.mono Sb).mono hS32, gR, hd7, ngk, hgl32, by omega, gz, fun b ys ds H33 nb S33 hb hT hdl hS => ?_⟩
        have hS33 : Same Hc H33 := (hS32.trans S33.S).trans (hide_le pk H33)
        have hT33 := hT.mono (hide_le pk H33)
        refine ⟨_, rfl, _, rfl, _, rfl, _, rfl, _, rfl, mu, ou, b, R.r, ringR (1 + kb), ys, ds, door, m, rfl, (Mm24.mono Sb).mono hS33, M.W.good, (Mo24.mono Sb).mono hS33, gR, hb, hT33, hd7, hdl, hS, fun db dvs H34 hdb S34 hdv dpv => ?_⟩
        have hS34 := hS33.trans S34
        have tw34 : Two K H34 g h R (newR (ringR (1 + kb)) 100) := ⟨(g24.mono Sb).mono hS34, (h24.mono Sb).mono hS34⟩
        refine ⟨_, rfl, _, rfl, g, h, R, newR (ringR (1 + kb)) 100, rfl, tw34, tW, fun H35 S35 => ?_⟩
        have hDE := dueAll_ok (room := m) (r := R.r) (r' := ringR (1 + kb)) hd7 hdl hS
        generalize hdue : dueAll door m R.r (ringR (1 + kb)) ds = dues at dpv hDE
        refine ⟨_, rfl, (by show 0 ≤ sizeLine; decide), fun le hle => ?_⟩
        have S36 := same_new hle (o := HO.lst [])
        have h36 : (upd H35 le (.lst [])) le = some (.lst []) := upd_same
        generalize upd H35 le (.lst []) = H36 at S36 h36
        have S356 := S35.trans S36
        have hdv36 := S356 _ _ hdv
        have dpv36 := dpv.mono S356
        have tw36 := tw34.mono S356
        have S2436 : Same H24 H36 := Sb.trans (hS34.trans S356)
        have hb36 := (S34.trans S356) _ _ hb
        have hT36 := hT33.mono (S34.trans S356)
        refine ⟨.list dues, .list [], .lst (SqL.of hdv36) dpv36, .lst (SqL.of h36) .nil, due_shaped (fun d hd => (hDE d hd).1), (by decide +kernel), ?_⟩
        rw [eqv_nil']
        rcases dues with _ | ⟨due, rest⟩
        · refine .inr ⟨_, rfl, _, _, rfl, rfl, .inl ⟨by decide, by decide⟩, _, rfl, by decide, by decide, ?_⟩
          refine for_it (walk_range (lo := 0) (n := 0)) (fun i σ H' => σ = [some (.ref s), some (.ref pk), some (.int (room : Nat)), some (.ref rl), some (.int (m : Nat)), some (.ref g), some (.ref gl), some (.ref D), some (V.int (1 + (j : Nat))), some (.ref h), some mu, some ou, some x, some (.int (door : Nat)), some (.ref b), some (.ref db), some (.str (stateD R (newR (ringR (1 + kb)) 100)).shown), x17] ∧ Same H24 H') ⟨rfl, S2436⟩ (fun _ _ _ _ _ => True.intro) ?_ ?_
          · rintro i z σ Hp Hq hi _ _
            omega
          · rintro σ Hp ⟨rfl, Sp⟩
            exact ⟨_, _, _, _, _, _, _, rfl, Sp⟩
        · rw [decide_eq_false (List.cons_ne_nil due rest)]
          refine .inr ⟨_, rfl, _, _, rfl, rfl, .inl ⟨by decide, by decide⟩, _, rfl, by decide, by decide, ?_⟩
          have hE := hDE due List.mem_cons_self
          refine for_it (walk_range (lo := 0) (n := 2)) (fun i σ H' => ∃ y17, σ = [some (.ref s), some (.ref pk), some (.int (room : Nat)), some (.ref rl), some (.int (m : Nat)), some (.ref g), some (.ref gl), some (.ref D), some (V.int (1 + (j : Nat))), some (.ref h), some mu, some ou, some x, some (.int (door : Nat)), some (.ref b), some (.ref db), some (.str (stateD R (newR (ringR (1 + kb)) 100)).shown), y17] ∧ Same H36 H') ⟨_, rfl, Same.refl _⟩ (fun _ _ _ _ _ => True.intro) ?_ ?_
          · rintro i z σ Hp Hq hi ⟨y17, rfl, Sp⟩ ⟨rfl, rfl⟩
            have twp := tw36.mono Sp
            refine ⟨_, rfl, _, rfl, _, rfl, _, rfl, g, h, R, newR (ringR (1 + kb)) 100, b, ys, ds, due, rest, door, rfl, twp, tW, Sp _ _ hb36, hT36.mono Sp, hd7, hdl, hS, (by rw [M.froom]; exact hdue), fun u Hu Su tu => ?_⟩
            have Spu := Sp.trans Su
            obtain ⟨v0, vt, rfl, dv0⟩ : ∃ v0 vt, dvs = v0 :: vt ∧ Dp K H36 v0 due := by
              cases dpv36 with
              | cons k1 k2 => exact ⟨_, _, rfl, k1⟩
            refine ⟨_, rfl, db, _, _, v0, rfl, rfl, .inl (.inl (Spu _ _ hdv36)), (show atI (v0 :: vt) ((0 : Nat) : Int) = some v0 from atI_nat rfl), due, due, tu, dv0.mono Spu, hE.shaped, hE.shaped, ?_⟩
            rw [hE.2]
            refine ⟨_, rfl, iteF ?_⟩
            refine ⟨_, rfl, _, rfl, g, h, R, newR (ringR (1 + kb)) 100, rfl, tw36.mono Spu, tW, fun Hv Sv => ?_⟩
            refine ⟨_, rfl, rfl, ?_⟩
            rw [decide_eq_true rfl]
            refine ⟨_, rfl, iteF ?_⟩
            exact ⟨_, rfl, Spu.trans Sv⟩
          · rintro σ Hp ⟨y17, rfl, Sp⟩
            exact ⟨_, _, _, _, _, _, _, rfl, S2436.trans Sp⟩
      · rintro σ Hb ⟨x1, x8, x13, x14, x15, x16, x17, rfl, Sb⟩
        exact q Hb
end
end Bt

namespace Bt
open PySem PySem.Spec PyProof.Rows L2
theorem oexB_ok {K : PySem.W.Frag} {C : Addr} (h : oexB K C = true) : ∃ nm q N bs bm sn sub ab col dd k0 k1 k2 k3 k5, K.lookup C = some (excClassObj nm q C N bs bm true sn sub ab col dd k0 k1 k2 k3 k5 "ValueError.__new__") ∧ PySem.HandSPX.refsVE bm = true := by
  unfold oexB at h
  split at h
  · rename_i t dd cd sl ho
    obtain ⟨h0, h⟩ := He.ba h
    have h0 := of_decide_eq_true h0
    split at h
    · rename_i C' bm k0 k1 k2 k3 n k5 hm hs
      obtain ⟨h1, h⟩ := He.ba h
      obtain ⟨h2, h⟩ := He.ba h
      obtain ⟨h3, h⟩ := He.ba h
      obtain ⟨h4, h5⟩ := He.ba h
      have h1 := of_decide_eq_true h1
      have h2 := of_decide_eq_true h2
      obtain ⟨nm, bs, mro, ns, qn, hd, sn, sub, ab, col, del⟩ := cd
      obtain ⟨sl⟩ := sl
      dsimp only at hm hs h3 h4
      subst h0; subst h1; subst h2; subst hm; subst hs; subst h3
      have h4 : del = false := by cases del <;> first | rfl | cases h4
      subst h4
      exact ⟨nm, qn, ns, bs, bm, sn, sub, ab, col, dd, k0, k1, k2, k3, k5, ho, h5⟩
    · cases h
  · cases h
theorem excB_ok {K : PySem.W.Frag} {D : Addr} (h : excB K D = true) : ExcC K D := by
  obtain ⟨h1, h⟩ := He.ba h
  obtain ⟨h2, h⟩ := He.ba h
  obtain ⟨h3, h⟩ := He.ba h
  obtain ⟨h4, h⟩ := He.ba h
  obtain ⟨h5, h⟩ := He.ba h
  obtain ⟨h6, h⟩ := He.ba h
  obtain ⟨h7, h8⟩ := He.ba h
  exact ⟨He.eqO_ok h1, He.eqO_ok h2, of_decide_eq_true h3, h4, He.eqO_ok h5, He.eqO_ok h6, of_decide_eq_true h7, of_decide_eq_true h8⟩
structure RingOk (K : PySem.W.Frag) (x : Str) : Prop where
  rcls : Cls K (He.ga K x)
  rmk : Mk K (He.ga K x) (He.ma K (He.ga K x) "__init__")
  rnat : ∀ f ∈ attrL, NoAttr K (He.ga K x) f
  rmt : ∀ m ∈ rmethL, Meth K (He.ga K x) m (He.ma K (He.ga K x) m)
theorem ringB_ok {K : PySem.W.Frag} {x : Str} (h : ringB K x = true) : RingOk K x := by
  obtain ⟨h1, h⟩ := He.ba h
  obtain ⟨h2, h⟩ := He.ba h
  obtain ⟨h3, h4⟩ := He.ba h
  exact ⟨He.cls_ok h1, He.mkr_ok h2, fun f hf => He.noat_ok (List.all_eq_true.mp h3 f hf), fun m hm => He.meth_ok (List.all_eq_true.mp h4 m hm)⟩
theorem txt_of {K : PySem.W.Frag} {h : Heap} {mg : Str → Option Value} (X : K.In h) (G : h.Ns mainGlobals mg) (c : obsB K = He.valD fn) : Txt K mg := by
  have c0 : (okB K && fn.all fun d => d.ok K) = true := congrArg (fun z : He.AlD => z.1) c
  obtain ⟨c1, c2⟩ := He.ba c0
  have e : fn.map (fun d => He.fnW K d.at_) = fn.map He.DefD.val := congrArg (fun z : He.AlD => z.2) c
  obtain ⟨o1, c1⟩ := He.ba c1
  obtain ⟨o2, c1⟩ := He.ba c1
  obtain ⟨o3, c1⟩ := He.ba c1
  obtain ⟨o4, c1⟩ := He.ba c1
  obtain ⟨o5, c1⟩ := He.ba c1
  obtain ⟨o6, c1⟩ := He.ba c1
  obtain ⟨o7, c1⟩ := He.ba c1
  obtain ⟨o8, c1⟩ := He.ba c1
  obtain ⟨o9, c1⟩ := He.ba c1
  obtain ⟨o10, c1⟩ := He.ba c1
  obtain ⟨o11, c1⟩ := He.ba c1
  obtain ⟨o12, c1⟩ := He.ba c1
  obtain ⟨o13, o14⟩ := He.ba c1
  have rR := ringB_ok o6
  have rG := ringB_ok o7
  obtain ⟨s1, s2⟩ := He.ba o8
  have s2 := of_decide_eq_true s2
  obtain ⟨b1, b⟩ := He.ba o12
  obtain ⟨b2, b3⟩ := He.ba b
  obtain ⟨e1, e'⟩ := He.ba o13
  obtain ⟨e2, e3⟩ := He.ba e'
  obtain ⟨x1, x'⟩ := He.ba o14
  obtain ⟨x2, x'⟩ := He.ba x'
  obtain ⟨x3, x4⟩ := He.ba x'
  have ex : ∀ x ∈ exL, ExcC K (He.ga K x) ∧ PySem.W.exmOne K (.ref (He.ga K x)) (.ref (He.ga K "BeadError")) = some true ∧ (∀ y ∈ exL, PySem.W.kitOne K (.ref (He.ga K x)) (.ref (He.ga K y)) = some (decide (x = y))) ∧ PySem.W.kitOne K (.ref (He.ga K x)) (.type "ValueError") = some true := fun x hx => by
    have k := List.all_eq_true.mp o11 x hx
    obtain ⟨k1, k⟩ := He.ba k
    obtain ⟨k2, k⟩ := He.ba k
    obtain ⟨k3, k4⟩ := He.ba k
    exact ⟨excB_ok k1, of_decide_eq_true k2, fun y hy => of_decide_eq_true (List.all_eq_true.mp k3 y hy), of_decide_eq_true k4⟩
  refine { fns := fun d hd => ?_, glo := fun x hx => He.glo_ok X G (List.all_eq_true.mp o1 x hx), free := fun x hx => He.free_ok X G (List.all_eq_true.mp o2 x hx), letters := He.str_ok X G o3, most := He.int_ok X G o4, exc := fun x hx => He.exc_ok (List.all_eq_true.mp o5 x hx), cls := fun {C} hC => ?_, nat := fun {C} hC => ?_, mt := fun {C} hC m hm => ?_, mg := fun m hm => He.meth_ok (List.all_eq_true.mp o9 m hm), mkR := rR.rmk, mkG := ?_, own := fun x hx => ?_, fth := He.eqO_ok x3, fmo := He.eqO_ok x4, exf := (fun x hx => (ex x hx).1), exm := (fun x hx => (ex x hx).2.1), exo := (fun x hx => (ex x hx).2.2.1), exv := (fun x hx => (ex x hx).2.2.2), er1 := of_decide_eq_true e1, er2 := of_decide_eq_true e2, er3 := of_decide_eq_true e3, be1 := ?_, be2 := b2, be3 := He.eqO_ok b3, xf1 := xfB_ok x1, xf2 := xfB_ok x2 }
  · obtain ⟨i, hi⟩ := List.getElem?_of_mem hd
    have e2 : (fn.map fun d => He.fnW K d.at_)[i]? = (fn.map He.DefD.val)[i]? := by rw [e]
    rw [List.getElem?_map, List.getElem?_map, hi] at e2
    exact He.DefD.funD (Option.some.inj e2) (List.all_eq_true.mp c2 d hd)
  · rcases hC with rfl | rfl
    · exact rR.rcls
    · exact rG.rcls
  · rcases hC with rfl | rfl
    · exact rR.rnat
    · exact rG.rnat
  · have em : He.ma K (He.ga K "Grove") m = He.ma K (He.ga K "Ring") m := of_decide_eq_true (List.all_eq_true.mp s1 m hm)
    rcases hC with rfl | rfl
    · exact rR.rmt m hm
    · show Meth K (He.ga K "Grove") m (He.ma K (He.ga K "Ring") m)
      rw [← em]
      exact rG.rmt m hm
  · show Mk K (He.ga K "Grove") (He.ma K (He.ga K "Ring") "__init__")
    rw [← s2]
    exact rG.rmk
  · have k := List.all_eq_true.mp o10 x hx
    obtain ⟨k1, k⟩ := He.ba k
    obtain ⟨k2, k⟩ := He.ba k
    obtain ⟨k3, k⟩ := He.ba k
    obtain ⟨k4, k⟩ := He.ba k
    obtain ⟨k5, k⟩ := He.ba k
    obtain ⟨k6, k7⟩ := He.ba k
    exact ⟨⟨oexB_ok k1, He.eqO_ok k2, of_decide_eq_true k3, of_decide_eq_true k4, k5⟩, He.eqO_ok k6, of_decide_eq_true k7⟩
  · split at b1
    · rename_i n hn
      rw [hn, of_decide_eq_true b1]
    · cases b1
end Bt

namespace Bt
open PySem PySem.Spec PyProof.Rows L2
/-! ### the law's end: no repr is under way -/
theorem law_callG {P : Program} {w : World} {K : PySem.W.Frag} {mg mb : Str → Option Value} {k : Nat} {fa a : Addr} {fd : FuncData} {x : Str} {sp : Sp} {s1 : Shared} {vs : List Value} {ns : List Int} (KX : K.In s1.heap) (hns : s1.heap.Ns mainGlobals mg) (hb : s1.heap.Ns builtinsNs mb) (hbb : ∀ x : Str, x ≠ "__name__" → mb x = bootBuiltins x) (hlim : s1.heap.NoLimit) (hg : s1.gens = #[])
    (ha : s1.heap.get? a = some { cls := .type "list", data := .seq vs.toArray }) (hi : IntsAre vs ns) (hl : ns.length ≤ sizeLine) (hr : RoomG k callerA) (F : ∀ base : Heap, K.In base → base.Ns mainGlobals mg → FnG P w K mg base (L2.CX P w) k fa fd [x] sp) (hbind : ∀ (s : Shared) (u : Value), BindsTo s fd ⟨[u], []⟩ [(x, u)])
    (hsp : ∀ H : Hp, Only H → SqL K H a (ns.map V.int) → sp [.ref a] H (fun v _ => v = .bl true) fun _ _ _ => False) : codeAny (model P w) callerA (.call (.ref fa) ⟨[.ref a], []⟩) (fun r s' => r = .ok (.ret (.bool true)) ∧ OldK s1.heap s'.heap ∧ s'.os = s1.os ∧ AllBare s'.gens) s1 := by
  have rv := vals_ints hi
  have lenV := hi.length
  have core : ∀ H : Hp, Only H → SqL K H a (ns.map V.int) → HOk P w H s1.heap → (∀ b, H b ≠ none → b = a) → (H a ≠ none → K.lookup a = none) → codeAny (model P w) callerA (.call (.ref fa) ⟨[.ref a], []⟩) (fun r s' => r = .ok (.ret (.bool true)) ∧ OldK s1.heap s'.heap ∧ s'.os = s1.os ∧ AllBare s'.gens) s1 := by
    intro H hO hS hok hA hK
    have other : ∀ {b : Addr}, b ≠ a → H b = none := fun {b} n => by
      cases q : H b with
      | none => rfl
      | some u => exact absurd (hA b (by rw [q]; simp)) n
    have nd : ∀ {b : Addr} {o : Obj} {es : Array DictEntry} {ep : Nat}, s1.heap.get? b = some o → o.data = .dict es ep → H b = none := fun {b o es ep} e d => other fun z => by
      rw [z, ha] at e
      cases e
      cases (show Data.seq vs.toArray _ = Data.dict es ep from d)
    have nsK : ∀ {b : Addr} {m : Str → Option Value}, s1.heap.Ns b m → (hidT s1.heap H).Ns b m := fun {b m} ⟨o, es, ep, e, d, r⟩ => ⟨o, es, ep, hidT_get e (nd e d), d, r⟩
    have hKb : K.In (hidT s1.heap H) := fun b o e => hidT_get (KX b o e) (by
      by_cases c : b = a
      · subst c
        cases q : H b with
        | none => rfl
        | some u => rw [hK (by rw [q]; simp)] at e; cases e
      · exact other c)
    have hM : Mod K mg (hidT s1.heap H) := ⟨hKb, nsK hns, ⟨mb, nsK hb, hbb⟩, let ⟨mc, h1, h2⟩ := hlim; ⟨mc, nsK h1, h2⟩⟩
    have e0 : Env0 P w K mg (hidT s1.heap H) callerA [] s1 H := ⟨rfl, hM, fun b o e => of_hidT e, Nat.le_of_eq (hidT_size _ _), trivial, fun b hb => (by cases hb), hok, .of_eq hg⟩
    have run := (F _ hKb (nsK hns)).run callerA [] s1 H ⟨[.ref a], []⟩ [.ref a] [.ref a] _ _ hr e0 (hbind s1 (.ref a)) (.cons rfl .nil) (hsp H hO hS)
    refine codeAny_mono run fun r s' h => ?_
    cases r with
    | error e => obtain ⟨_, _, _, _, _, _, _, _, _, _, _, _, z⟩ := h; exact z.elim
    | ok fl =>
      cases fl with
      | next => exact False.elim h
      | brk => exact False.elim h
      | cont => exact False.elim h
      | ret u =>
        obtain ⟨v, H', os, bare, un, hok', r', q⟩ := h
        subst q
        cases r'
        refine ⟨rfl, OldK.of_keep fun b o e => ?_, os, bare⟩
        cases q : H b with
        | none => exact un.keep b o e q (by simp [frs]) (by simp)
        | some u =>
          rcases hO b with z | ⟨ob, xs, z⟩
          · rw [q] at z; cases z
          · obtain ⟨e1, _⟩ := hok b _ z; obtain ⟨e2, _⟩ := hok' b _ (un.frzs b ob _ z)
            rw [e] at e1; cases e1
            exact e2
  cases hk : K.lookup a with
  | some o =>
    have e := KX a o hk; rw [ha] at e; cases e
    exact core (fun _ => none) (fun _ => .inl rfl) (.inr ⟨_, vs.toArray, _, hk, rfl, rfl, rfl, by rw [List.size_toArray, lenV]; exact hl, by simpa using rv⟩) (fun b u z => by cases z) (fun b z => absurd rfl z) fun z => absurd rfl z
  | none =>
    let H1 : Hp := fun b => if b = a then some (.frz { cls := .type "list", data := .seq vs.toArray } (.lst (ns.map V.int))) else none
    have ea : H1 a = some (.frz { cls := .type "list", data := .seq vs.toArray } (.lst (ns.map V.int))) := if_pos rfl
    have eb : ∀ {b : Addr}, b ≠ a → H1 b = none := fun n => if_neg n
    refine core H1 (fun b => ?_) (.inl (.inr ⟨_, ea⟩)) (fun b u z => ?_) (fun b z => ?_) fun _ => hk
    · by_cases c : b = a
      · subst c; exact .inr ⟨_, _, ea⟩
      · exact .inl (eb c)
    · by_cases c : b = a
      · subst c
        rw [ea] at z; cases z
        exact ⟨ha, by rw [List.length_map]; exact hl, vs, _, rv, ha⟩
      · rw [eb c] at z; cases z
    · by_cases c : b = a
      · exact c
      · exact absurd (eb c) z
theorem walk_ofG {l : PySem.W.OpenLaw} {n k : Nat} {q : Program} {loose : List Str} {XP : (Str → Option Value) → Heap → Prop} {YP : World → Heap → Prop} {d : DefRec} {x : Str} (hn : l.most = some n) (hn2 : n ≤ sizeLine) (hdf : d.params.defaults = []) (hr : RoomG k callerA)
    (F : ∀ (w : World) (mg : Str → Option Value) (fa : Addr) (h : Heap), YP w h → h.Ns mainGlobals mg → mg d.name = some (.ref fa) → ∃ (K : PySem.W.Frag) (fd : FuncData) (sp : Sp), K.In h ∧ (∀ (s : Shared) (u : Value), BindsTo s fd ⟨[u], []⟩ [(x, u)]) ∧ (∀ (H : Hp) (a : Addr) (ns : List Int), ns.length ≤ n → Only H → SqL K H a (ns.map V.int) → sp [.ref a] H (fun v _ => v = .bl true) fun _ _ _ => False) ∧
      ∀ base : Heap, K.In base → base.Ns mainGlobals mg → FnG l.prog w K mg base (L2.CX l.prog w) k fa fd [x] sp) : PySem.W.WalkO q loose XP YP l.row.toRowW d [] (fun f vs => PySem.call f vs) := by
  refine Att.attach_call hn hdf fun w s₀ s₁ mg mb fa o pm cd doc a vs ns G Y ho hd hcd hmg hobj hints hlen hg => ?_
  obtain ⟨K, fd, sp, KX, hb, hsp, hF⟩ := F w mg fa _ Y G.T.g hmg
  exact law_callG KX G.T.g G.T.b G.T.builtins G.T.nolimit hg hobj hints (Nat.le_trans hlen hn2) hr hF hb fun H hO hS => hsp H a ns hlen hO hS
theorem law_name : (HandSHeadRun.topDef R.prog 89).name = ("law" : Str) := by kernel_rfl
end Bt
open PySem PySem.W PySem.Calls PyProof.Rows
theorem PySem.Challenge.cw_beadtrees_k68_whole_refused_holds : PySem.Challenge.rw_beadtrees_k68_whole_refused.Holds := by
  w_on; o_law
  refine HandSHeadRun.head_any (r := OpenLaw.row PySem.Challenge.rw_beadtrees_k68_whole_refused) (q := view Bt.R.prog [89]) (H := Bt.hk) (ob := Bt.ob) (M := 6800) (loose := Bt.loose) (d := HandSHeadRun.topDef Bt.R.prog 89) (kwd := []) Bt.ob_eq (by kernel_rfl) (fun s => by kernel_rfl) Bt.run (by kernel_rfl) (by kernel_rfl) (by kernel_rfl) (by rfl) (by first | assumption | decide +kernel) (by decide +kernel) ⟨rfl, rfl, rfl, rfl, rfl, by decide +kernel⟩ ?hw ?hc
  case hw => w_witness2
  case hc =>
    refine Bt.walk_ofG (l := PySem.Challenge.rw_beadtrees_k68_whole_refused) (n := 63) (k := 12) (x := "_law_script") rfl (by decide) (by kernel_rfl) ⟨⟨rfl, by decide, by decide⟩, rfl⟩ ?F
    intro w mg fa h Y G hmg0
    obtain ⟨K, KX, c⟩ := Y
    have T := Bt.txt_of KX G c
    have hmg : mg ("law" : PySem.Str) = some (.ref fa) := by
      rw [← Bt.law_name]
      exact hmg0
    have e := hmg.symm.trans (T.glo "law" (List.mem_of_getElem? (i := Bt.gloL.length - 1) (by rfl)))
    cases e
    have b := L2.FunD.bindsA (ps := ["_law_script"]) T.d_law fun _ _ _ _ _ _ us hl => match us, hl with | [_], _ => rfl
    exact ⟨K, Bt.fdAt K (Bt.a_law K), Bt.spLaw K, KX, fun s v => b s [v] rfl, fun H a ns hl _ hS => ⟨a, ns, rfl, hS, hl, fun _ => rfl⟩, fun base hKb hNs => Bt.ok_law T⟩

