import PyProof.Rows.All
import Wide.All
import OpenK.AllK
import Wide.FinOn
import KE.KStateDown
import Lean
import KE.KDictKeyed
import KE.KDictWalk
import KE.GoesDict
import KE.GoesEnumKw
import HandS.ForMost
import HandS.More
import HandS.WordsExc
import HandS.ExcOwn
import HandS.ExcIs
import HandS.Small
import HandS.Defaults
import HandS.CallLocal
import HandS.Deep
import HandS.TupAny
import HandS.Zip
import HandS.IsInst
import HandS.Flow
import HandS.Style
import HandS.Wide
import HandS.TupSets
import HandS.SortOrd
import HandS.Head0
import HandS.Head1
import HandS.Head2
import HandS.HeadEnd
import HandS.HeadHook1
import HandS.HeadHook2
import KE.KDictDisplayH
import HandS.TupLen
import PySem.Challenge.RW_waitbolts_k73_whole_stands_in_a_row
set_option Elab.async false
set_option linter.all false
set_option autoImplicit false
set_option maxRecDepth 100000
set_option maxHeartbeats 4000000
namespace WB
open PySem PySem.Spec PyProof.Rows L2
def top (i : Nat) : Stmt := PySem.Challenge.pw_waitbolts_k73_whole_stands_in_a_row.main.body.getD i (.Pass ⟨0, 0, 0, 0⟩)
abbrev s_is_whole : Stmt := top 8
abbrev s_is_from : Stmt := top 9
abbrev s_is_tuple : Stmt := top 10
abbrev s_is_word : Stmt := top 11
abbrev s_is_open_word : Stmt := top 12
abbrev s_are_rising : Stmt := top 13
abbrev s_tied : Stmt := top 16
abbrev s_row_of : Stmt := top 17
abbrev s_is_gap : Stmt := top 23
abbrev s_is_bolt : Stmt := top 24
abbrev s_ways_of : Stmt := top 25
abbrev s_first_wide : Stmt := top 26
abbrev s_fault_of : Stmt := top 27
abbrev s_must_be_lock : Stmt := top 28
abbrev s_must_stand : Stmt := top 29
abbrev s_must_wish_all : Stmt := top 30
abbrev s_steps_at : Stmt := top 31
abbrev s_can_step : Stmt := top 32
abbrev s_lower : Stmt := top 34
abbrev s_first_place : Stmt := top 35
abbrev s_is_still : Stmt := top 36
abbrev s_ahead_most : Stmt := top 37
abbrev s_splits : Stmt := top 38
abbrev s_added : Stmt := top 39
abbrev s_price_alone : Stmt := top 40
abbrev s_Solver_init : Stmt := inClass (top 41) 0
abbrev s_Solver_best : Stmt := inClass (top 41) 1
abbrev s_Solver_choice : Stmt := inClass (top 41) 2
abbrev s_Solver_reckon : Stmt := inClass (top 41) 3
abbrev s_Solver_first_turns : Stmt := inClass (top 41) 4
abbrev s_Solver_lessen : Stmt := inClass (top 41) 5
abbrev s_Solver_reckon_family : Stmt := inClass (top 41) 6
abbrev s_below : Stmt := top 43
abbrev s_first_last : Stmt := top 44
abbrev s_used : Stmt := top 45
abbrev s_Binding_init : Stmt := inClass (top 46) 0
abbrev s_Binding_pieces : Stmt := inClass (top 46) 1
abbrev s_Binding_bind : Stmt := inClass (top 46) 2
abbrev s_Binding_whole : Stmt := inClass (top 46) 3
abbrev s_told_way : Stmt := top 47
abbrev s_least_price : Stmt := top 49
abbrev s_least : Stmt := top 50
abbrev s_law_pen : Stmt := top 52
abbrev s_law_draw : Stmt := top 53
abbrev s_law_pick : Stmt := top 54
abbrev s_law_steps : Stmt := top 55
abbrev s_law_moved : Stmt := top 56
abbrev s_law_drawn : Stmt := top 57
abbrev s_law_is_from : Stmt := top 58
abbrev s_law_is_word : Stmt := top 59
abbrev s_law_entry : Stmt := top 60
abbrev s_law_part : Stmt := top 61
abbrev s_law_weighed : Stmt := top 62
abbrev s_law_all : Stmt := top 63
abbrev s_law_is_row : Stmt := top 64
abbrev s_law_is_great_row : Stmt := top 65
abbrev s_law_is_refused : Stmt := top 66
abbrev s_law : Stmt := top 67
def d_is_whole : He.DefD := ⟨("is_whole", none), "is_whole", "is_whole", defArgs s_is_whole, defBody s_is_whole, defScope s_is_whole, [], []⟩
def d_is_from : He.DefD := ⟨("is_from", none), "is_from", "is_from", defArgs s_is_from, defBody s_is_from, defScope s_is_from, [], []⟩
def d_is_tuple : He.DefD := ⟨("is_tuple", none), "is_tuple", "is_tuple", defArgs s_is_tuple, defBody s_is_tuple, defScope s_is_tuple, [], []⟩
def d_is_word : He.DefD := ⟨("is_word", none), "is_word", "is_word", defArgs s_is_word, defBody s_is_word, defScope s_is_word, [], []⟩
def d_is_open_word : He.DefD := ⟨("is_open_word", none), "is_open_word", "is_open_word", defArgs s_is_open_word, defBody s_is_open_word, defScope s_is_open_word, [], []⟩
def d_are_rising : He.DefD := ⟨("are_rising", none), "are_rising", "are_rising", defArgs s_are_rising, defBody s_are_rising, defScope s_are_rising, [], []⟩
def d_tied : He.DefD := ⟨("tied", none), "tied", "tied", defArgs s_tied, defBody s_tied, defScope s_tied, [], []⟩
def d_row_of : He.DefD := ⟨("row_of", none), "row_of", "row_of", defArgs s_row_of, defBody s_row_of, defScope s_row_of, [], []⟩
def d_is_gap : He.DefD := ⟨("is_gap", none), "is_gap", "is_gap", defArgs s_is_gap, defBody s_is_gap, defScope s_is_gap, [], []⟩
def d_is_bolt : He.DefD := ⟨("is_bolt", none), "is_bolt", "is_bolt", defArgs s_is_bolt, defBody s_is_bolt, defScope s_is_bolt, [], []⟩
def d_ways_of : He.DefD := ⟨("ways_of", none), "ways_of", "ways_of", defArgs s_ways_of, defBody s_ways_of, defScope s_ways_of, [], []⟩
def d_first_wide : He.DefD := ⟨("first_wide", none), "first_wide", "first_wide", defArgs s_first_wide, defBody s_first_wide, defScope s_first_wide, [], []⟩
def d_fault_of : He.DefD := ⟨("fault_of", none), "fault_of", "fault_of", defArgs s_fault_of, defBody s_fault_of, defScope s_fault_of, [], []⟩
def d_must_be_lock : He.DefD := ⟨("must_be_lock", none), "must_be_lock", "must_be_lock", defArgs s_must_be_lock, defBody s_must_be_lock, defScope s_must_be_lock, [], []⟩
def d_must_stand : He.DefD := ⟨("must_stand", none), "must_stand", "must_stand", defArgs s_must_stand, defBody s_must_stand, defScope s_must_stand, [], []⟩
def d_must_wish_all : He.DefD := ⟨("must_wish_all", none), "must_wish_all", "must_wish_all", defArgs s_must_wish_all, defBody s_must_wish_all, defScope s_must_wish_all, [], [("low", .int 2), ("high", .int 4)]⟩
def d_steps_at : He.DefD := ⟨("steps_at", none), "steps_at", "steps_at", defArgs s_steps_at, defBody s_steps_at, defScope s_steps_at, [], []⟩
def d_can_step : He.DefD := ⟨("can_step", none), "can_step", "can_step", defArgs s_can_step, defBody s_can_step, defScope s_can_step, [], []⟩
def d_lower : He.DefD := ⟨("lower", none), "lower", "lower", defArgs s_lower, defBody s_lower, defScope s_lower, [], []⟩
def d_first_place : He.DefD := ⟨("first_place", none), "first_place", "first_place", defArgs s_first_place, defBody s_first_place, defScope s_first_place, [], []⟩
def d_is_still : He.DefD := ⟨("is_still", none), "is_still", "is_still", defArgs s_is_still, defBody s_is_still, defScope s_is_still, [], []⟩
def d_ahead_most : He.DefD := ⟨("ahead_most", none), "ahead_most", "ahead_most", defArgs s_ahead_most, defBody s_ahead_most, defScope s_ahead_most, [], []⟩
def d_splits : He.DefD := ⟨("splits", none), "splits", "splits", defArgs s_splits, defBody s_splits, defScope s_splits, [], []⟩
def d_added : He.DefD := ⟨("added", none), "added", "added", defArgs s_added, defBody s_added, defScope s_added, [], []⟩
def d_price_alone : He.DefD := ⟨("price_alone", none), "price_alone", "price_alone", defArgs s_price_alone, defBody s_price_alone, defScope s_price_alone, [], []⟩
def d_Solver_init : He.DefD := ⟨("Solver", some "__init__"), "__init__", "Solver.__init__", defArgs s_Solver_init, defBody s_Solver_init, defScope s_Solver_init, [.non], []⟩
def d_Solver_best : He.DefD := ⟨("Solver", some "best"), "best", "Solver.best", defArgs s_Solver_best, defBody s_Solver_best, defScope s_Solver_best, [], []⟩
def d_Solver_choice : He.DefD := ⟨("Solver", some "choice"), "choice", "Solver.choice", defArgs s_Solver_choice, defBody s_Solver_choice, defScope s_Solver_choice, [], []⟩
def d_Solver_reckon : He.DefD := ⟨("Solver", some "reckon"), "reckon", "Solver.reckon", defArgs s_Solver_reckon, defBody s_Solver_reckon, defScope s_Solver_reckon, [], []⟩
def d_Solver_first_turns : He.DefD := ⟨("Solver", some "first_turns"), "first_turns", "Solver.first_turns", defArgs s_Solver_first_turns, defBody s_Solver_first_turns, defScope s_Solver_first_turns, [], []⟩
def d_Solver_lessen : He.DefD := ⟨("Solver", some "lessen"), "lessen", "Solver.lessen", defArgs s_Solver_lessen, defBody s_Solver_lessen, defScope s_Solver_lessen, [], []⟩
def d_Solver_reckon_family : He.DefD := ⟨("Solver", some "reckon_family"), "reckon_family", "Solver.reckon_family", defArgs s_Solver_reckon_family, defBody s_Solver_reckon_family, defScope s_Solver_reckon_family, [], []⟩
def d_below : He.DefD := ⟨("below", none), "below", "below", defArgs s_below, defBody s_below, defScope s_below, [], []⟩
def d_first_last : He.DefD := ⟨("first_last", none), "first_last", "first_last", defArgs s_first_last, defBody s_first_last, defScope s_first_last, [], []⟩
def d_used : He.DefD := ⟨("used", none), "used", "used", defArgs s_used, defBody s_used, defScope s_used, [], []⟩
def d_Binding_init : He.DefD := ⟨("Binding", some "__init__"), "__init__", "Binding.__init__", defArgs s_Binding_init, defBody s_Binding_init, defScope s_Binding_init, [], []⟩
def d_Binding_pieces : He.DefD := ⟨("Binding", some "pieces"), "pieces", "Binding.pieces", defArgs s_Binding_pieces, defBody s_Binding_pieces, defScope s_Binding_pieces, [], []⟩
def d_Binding_bind : He.DefD := ⟨("Binding", some "bind"), "bind", "Binding.bind", defArgs s_Binding_bind, defBody s_Binding_bind, defScope s_Binding_bind, [], []⟩
def d_Binding_whole : He.DefD := ⟨("Binding", some "whole"), "whole", "Binding.whole", defArgs s_Binding_whole, defBody s_Binding_whole, defScope s_Binding_whole, [], []⟩
def d_told_way : He.DefD := ⟨("told_way", none), "told_way", "told_way", defArgs s_told_way, defBody s_told_way, defScope s_told_way, [], []⟩
def d_least_price : He.DefD := ⟨("least_price", none), "least_price", "least_price", defArgs s_least_price, defBody s_least_price, defScope s_least_price, [], []⟩
def d_least : He.DefD := ⟨("least", none), "least", "least", defArgs s_least, defBody s_least, defScope s_least, [], []⟩
def d_law_pen : He.DefD := ⟨("_law_pen", none), "_law_pen", "_law_pen", defArgs s_law_pen, defBody s_law_pen, defScope s_law_pen, [], []⟩
def d_law_draw : He.DefD := ⟨("_law_draw", none), "_law_draw", "_law_draw", defArgs s_law_draw, defBody s_law_draw, defScope s_law_draw, [], []⟩
def d_law_pick : He.DefD := ⟨("_law_pick", none), "_law_pick", "_law_pick", defArgs s_law_pick, defBody s_law_pick, defScope s_law_pick, [], []⟩
def d_law_steps : He.DefD := ⟨("_law_steps", none), "_law_steps", "_law_steps", defArgs s_law_steps, defBody s_law_steps, defScope s_law_steps, [], []⟩
def d_law_moved : He.DefD := ⟨("_law_moved", none), "_law_moved", "_law_moved", defArgs s_law_moved, defBody s_law_moved, defScope s_law_moved, [], []⟩
def d_law_drawn : He.DefD := ⟨("_law_drawn", none), "_law_drawn", "_law_drawn", defArgs s_law_drawn, defBody s_law_drawn, defScope s_law_drawn, [], []⟩
def d_law_is_from : He.DefD := ⟨("_law_is_from", none), "_law_is_from", "_law_is_from", defArgs s_law_is_from, defBody s_law_is_from, defScope s_law_is_from, [], []⟩
def d_law_is_word : He.DefD := ⟨("_law_is_word", none), "_law_is_word", "_law_is_word", defArgs s_law_is_word, defBody s_law_is_word, defScope s_law_is_word, [], []⟩
def d_law_entry : He.DefD := ⟨("_law_entry", none), "_law_entry", "_law_entry", defArgs s_law_entry, defBody s_law_entry, defScope s_law_entry, [], []⟩
def d_law_part : He.DefD := ⟨("_law_part", none), "_law_part", "_law_part", defArgs s_law_part, defBody s_law_part, defScope s_law_part, [], []⟩
def d_law_weighed : He.DefD := ⟨("_law_weighed", none), "_law_weighed", "_law_weighed", defArgs s_law_weighed, defBody s_law_weighed, defScope s_law_weighed, [], []⟩
def d_law_all : He.DefD := ⟨("_law_all", none), "_law_all", "_law_all", defArgs s_law_all, defBody s_law_all, defScope s_law_all, [], []⟩
def d_law_is_row : He.DefD := ⟨("_law_is_row", none), "_law_is_row", "_law_is_row", defArgs s_law_is_row, defBody s_law_is_row, defScope s_law_is_row, [], []⟩
def d_law_is_great_row : He.DefD := ⟨("_law_is_great_row", none), "_law_is_great_row", "_law_is_great_row", defArgs s_law_is_great_row, defBody s_law_is_great_row, defScope s_law_is_great_row, [], []⟩
def d_law_is_refused : He.DefD := ⟨("_law_is_refused", none), "_law_is_refused", "_law_is_refused", defArgs s_law_is_refused, defBody s_law_is_refused, defScope s_law_is_refused, [], []⟩
def d_law : He.DefD := ⟨("law", none), "law", "law", defArgs s_law, defBody s_law, defScope s_law, [], []⟩
def fns : List He.DefD := [d_is_whole, d_is_from, d_is_tuple, d_is_word, d_is_open_word, d_are_rising, d_tied, d_row_of, d_is_gap, d_is_bolt, d_ways_of, d_first_wide, d_fault_of, d_must_be_lock, d_must_stand, d_must_wish_all, d_steps_at, d_can_step, d_lower, d_first_place, d_is_still, d_ahead_most, d_splits, d_added, d_price_alone, d_Solver_init, d_Solver_best, d_Solver_choice, d_Solver_reckon, d_Solver_first_turns, d_Solver_lessen, d_Solver_reckon_family, d_below, d_first_last, d_used, d_Binding_init, d_Binding_pieces, d_Binding_bind, d_Binding_whole, d_told_way, d_least_price, d_least, d_law_pen, d_law_draw, d_law_pick, d_law_steps, d_law_moved, d_law_drawn, d_law_is_from, d_law_is_word, d_law_entry, d_law_part, d_law_weighed, d_law_all, d_law_is_row, d_law_is_great_row, d_law_is_refused, d_law]
def fas : List He.Fa := [.glo "is_whole", .glo "is_from", .glo "is_tuple", .glo "is_word", .glo "is_open_word", .glo "are_rising", .glo "tied", .glo "row_of", .glo "is_gap", .glo "is_bolt", .glo "ways_of", .glo "first_wide", .glo "fault_of", .glo "must_be_lock", .glo "must_stand", .glo "must_wish_all", .glo "steps_at", .glo "can_step", .glo "lower", .glo "first_place", .glo "is_still", .glo "ahead_most", .glo "splits", .glo "added", .glo "price_alone", .glo "below", .glo "first_last", .glo "used", .glo "told_way", .glo "least_price", .glo "least", .glo "_law_pen", .glo "_law_draw", .glo "_law_pick", .glo "_law_steps", .glo "_law_moved", .glo "_law_drawn", .glo "_law_is_from", .glo "_law_is_word", .glo "_law_entry", .glo "_law_part", .glo "_law_weighed", .glo "_law_all", .glo "_law_is_row", .glo "_law_is_great_row", .glo "_law_is_refused", .glo "law", .free "isinstance", .free "len", .free "all", .free "zip", .free "range", .free "enumerate", .free "tuple", .free "sorted", .free "sum", .free "set", .free "list", .free "abs", .free "int", .free "bool", .free "ValueError", .int "MOST_PRICE" 1000000, .int "MOST_BOLTS_made" 60, .int "MOST_BOLTS_locks" 60, .int "MOST_WAYS" 8, .int "MOST_WORDS" 8, .int "MOST_WISHES" 4, .glo "Solver", .cls "Solver", .mkr "Solver", .meth "Solver" "best", .meth "Solver" "choice", .meth "Solver" "reckon", .meth "Solver" "first_turns", .meth "Solver" "lessen", .meth "Solver" "reckon_family", .noat "Solver" "lock", .noat "Solver" "costs", .noat "Solver" "nothing", .noat "Solver" "known", .noat "Solver" "families", .glo "Binding", .cls "Binding", .mkr "Binding", .meth "Binding" "pieces", .meth "Binding" "bind", .meth "Binding" "whole", .noat "Binding" "solver", .noat "Binding" "pages", .noat "Binding" "bound", .glo "NoPlaces", .keep "NoPlaces", .exm "NoPlaces" "NoPlaces" true]
-- law at 67; statements 68
def names0 : List PySem.Str := ["BoltError", "NoLock", "NoStand", "NoWishes", "NoPlaces", "MOST_PRICE", "is_whole", "is_from", "is_tuple", "is_word", "is_open_word", "are_rising", "MOST_BOLTS_made", "tied", "row_of", "MOST_BOLTS_locks", "MOST_WAYS", "MOST_WORDS", "MOST_WISHES", "is_gap", "is_bolt", "ways_of", "first_wide", "fault_of", "must_be_lock", "must_stand", "must_wish_all", "steps_at", "can_step", "lower"]
def names1 : List PySem.Str := ["first_place", "is_still", "ahead_most", "splits", "added", "price_alone", "Solver", "below", "first_last", "used", "Binding", "told_way", "least_price", "least", "_law_pen", "_law_draw", "_law_pick", "_law_steps", "_law_moved", "_law_drawn", "_law_is_from", "_law_is_word", "_law_entry", "_law_part", "_law_weighed", "_law_all", "_law_is_row", "_law_is_great_row", "_law_is_refused"]
abbrev names : List PySem.Str := names0 ++ names1
abbrev lawAt : Nat := 67
end WB
namespace WB
open PySem PySem.Spec PyProof.Rows L2
/-! ### room for calls, counted frame by frame: a lock of sixty bolts is reckoned some three hundred calls deep -/
structure Room (q : Nat) (A : Around) : Prop where
  hd : A.handled = none
  dp : A.depth + q + 10 < recursionLimit
  un : A.units + 8 * q + 200 < cLine
theorem Room.mono {j q : Nat} {A : Around} (r : Room q A) (h : j ≤ q) : Room j A := by
  obtain ⟨r1, r2, r3⟩ := r
  exact ⟨r1, by omega, by omega⟩
theorem Room.deeper {q : Nat} {A : Around} (r : Room (q + 1) A) (env : Env) : Room q (A.deeper env) := by
  obtain ⟨r1, r2, r3⟩ := r
  refine ⟨r1, ?_, ?_⟩
  · show A.depth + 1 + q + 10 < recursionLimit
    omega
  · show A.units + 3 + 8 * q + 200 < cLine
    omega
theorem Room.under {q : Nat} {A : Around} (r : Room (q + 1) A) (C : Addr) (as : List Value) : Room q (A.under (.builtin "type.__call__" ⟨.ref C :: as, []⟩)) := by
  obtain ⟨r1, r2, r3⟩ := r
  refine ⟨r1, ?_, ?_⟩
  · rw [L2.make_depth]; omega
  · rw [L2.make_units]; omega
theorem Room.low {q : Nat} {A : Around} (r : Room q A) : A.depth < recursionLimit := by
  have := r.dp
  omega
/-- a def keeps its promise, wherever there is so much room -/
structure FnOk (P : Program) (w : World) (K : PySem.W.Frag) (mg : Str → Option Value) (base : Heap) (CX : CXT) (q : Nat) (f : Addr) (fd : FuncData) (ps : List Str) (sp : Sp) : Prop where
  len : ∀ vs H Q E, sp vs H Q E → vs.length = ps.length
  go : ∀ (A : Around) (outer : List Env) (s : Shared) (H : Hp) (args : Args) (us : List Value) (vs : List V) (Q : VK) (E : XK), Room q A → Env0 P w K mg base A outer s H → BindsTo s fd args (ps.zip us) → Vals vs us → sp vs H Q E → codeAny (model P w) A (.call (.ref f) args) (CR CX outer P w H s Q E) s
/-- told in the library's own counting -/
theorem FnOk.kit {P : Program} {w : World} {K : PySem.W.Frag} {mg : Str → Option Value} {base : Heap} {CX : CXT} {q k : Nat} {f : Addr} {fd : FuncData} {ps : List Str} {sp : Sp} (F : FnOk P w K mg base CX q f fd ps sp) (h : q + 10 ≤ 3 * k + 5) (h2 : 8 * q ≤ 16 * k) : L2.FnOk P w K mg base CX k f fd ps sp := by
  refine ⟨F.len, ?_⟩
  intro A outer s H args us vs Q E hr
  exact F.go A outer s H args us vs Q E ⟨hr.hd, by have := hr.dp; omega, by have := hr.un; omega⟩
section
variable {X : Cx} {CX : CXT} {q i : Nat} {f C : Addr} {fd : FuncData} {ps : List Str} {sp : Sp} {dvs : List V} {ds : List Value} {E : XK} {n m : Str} {np pos apos : Pos} {a o : Expr} {as : List Expr} {to : TE} {ta : TA}
theorem run_q {pins : List (Addr × Obj)} {σ : L2.St} {H : Hp} {s : Shared} {Q : VK} {us us' : List Value} {vs : List V} (F : FnOk X.prog X.w X.K X.mg X.base CX q f fd ps sp) (hr : Room q X.A) (I : Inv X pins σ H s) (hx : ∀ e s', CX X.stack H s E e s' → X.xe e s') (hb : BindsTo s fd ⟨us, []⟩ (ps.zip us')) (rv : Vals vs us') (h : sp vs H Q E) : wpAny (model X.prog X.w) X.A (call (.ref f) us) (EP X pins σ Q) X.xe s := by
  refine wpAny_call ?_
  refine codeAny_mono (F.go X.A X.stack s H ⟨us, []⟩ us' vs Q E hr (Inv.env0 I) hb rv h) ?_
  intro r s' hc
  rcases r with e | fl
  · exact hx e s' hc
  · cases fl <;> first | exact Inv.after I hc | exact hc.elim
theorem run_b {pins : List (Addr × Obj)} {σ : L2.St} {H : Hp} {s : Shared} {Q : VK} {us : List Value} {vs : List V} (F : FnOk X.prog X.w X.K X.mg X.base CX q f fd ps sp) (hr : Room q X.A) (hb : Binds X.K fd ps ds) (hd : Vals dvs ds) (I : Inv X pins σ H s) (hx : Passes CX X E) (rv : Vals vs us) (h : sp (vs ++ dvs) H Q E) : wpAny (model X.prog X.w) X.A (call (.ref f) us) (EP X pins σ Q) X.xe s := by
  have ra := Vals.append rv hd
  have hl := F.len _ _ _ _ h
  rw [ra.length] at hl
  exact run_q F hr I (fun e s' => hx pins σ H s e s' I) (hb s us (Inv.kIn I) hl) ra h
theorem pe_call (F : FnOk X.prog X.w X.K X.mg X.base CX q f fd ps sp) (hr : Room q X.A) (hg : Gl X n) (hm : X.mg n = some (.ref f)) (hk : PySem.W.keepIn X.K (.ref f) = true) (hb : Binds X.K fd ps ds) (hd : Vals dvs ds) (hx : Passes CX X E) (ha : PA X (a :: as) ta)
    (hdb : (n == ("__debug__" : Str)) = false := by decide) (hst : starEach (a :: as) X.env = (false, eval a X.env) :: starEach as X.env := by rfl) (hpl : (backTo pos (starEach as X.env)).any (·.1) = false := by rfl) : PE X (.Call (.Name n np) (a :: as) [] pos) (tCall sp dvs E ta) := by
  constructor
  intro pins s σ H Q I h
  refine wpAny_Call_Name_kw (ld_glob I hg hm (PySem.W.callWith_K (h₀ := X.base) I.ok.mod.kin hk ?_ hst hpl) hdb)
  refine thn (ha.run pos pins s σ H _ I h) ?_
  rintro us s1 ⟨vs, H1, I1, rv, hs⟩
  exact ⟨Inv.kIn I1, run_b F hr hb hd I1 hx rv hs⟩
theorem pe_callS {W : L2.St → XK} (F : FnOk X.prog X.w X.K X.mg X.base CX q f fd ps sp) (hr : Room q X.A) (hg : Gl X n) (hm : X.mg n = some (.ref f)) (hk : PySem.W.keepIn X.K (.ref f) = true) (hb : Binds X.K fd ps []) (hx : ∀ σ, PassesAt CX X σ (W σ)) (ha : PA X (a :: as) ta)
    (hdb : (n == ("__debug__" : Str)) = false := by decide) (hst : starEach (a :: as) X.env = (false, eval a X.env) :: starEach as X.env := by rfl) (hpl : (backTo pos (starEach as X.env)).any (·.1) = false := by rfl) : PE X (.Call (.Name n np) (a :: as) [] pos) (tCallS sp W ta) := by
  constructor
  intro pins s σ H Q I h
  refine wpAny_Call_Name_kw (ld_glob I hg hm (PySem.W.callWith_K (h₀ := X.base) I.ok.mod.kin hk ?_ hst hpl) hdb)
  refine thn (ha.run pos pins s σ H _ I h) ?_
  rintro us s1 ⟨vs, H1, I1, rv, hs⟩
  refine ⟨Inv.kIn I1, ?_⟩
  have hl := F.len _ _ _ _ hs
  rw [rv.length] at hl
  have hbn := hb s1 us (Inv.kIn I1) (by rw [List.append_nil]; exact hl)
  rw [List.append_nil] at hbn
  exact run_q F hr I1 (fun e s' => hx σ pins H1 s1 e s' I1) hbn rv hs
theorem pe_callL (F : FnOk X.prog X.w X.K X.mg X.base CX q f fd ps sp) (hr : Room q X.A) (hN : X.N[i]? = some n) (hv : Vis X.env.scope n) (hk : PySem.W.keepIn X.K (.ref f) = true) (hb : Binds X.K fd ps ds) (hd : Vals dvs ds) (hx : Passes CX X E) (ha : PA X (a :: as) ta)
    (hdb : (n == ("__debug__" : Str)) = false := by decide) (hcd : (n == ("__classdict__" : Str)) = false := by decide) (hst : starEach (a :: as) X.env = (false, eval a X.env) :: starEach as X.env := by rfl) (hpl : (backTo pos (starEach as X.env)).any (·.1) = false := by rfl) : PE X (.Call (.Name n np) (a :: as) [] pos) (tCallL i f sp dvs E ta) := by
  constructor
  rintro pins s σ H Q I ⟨hslot, h⟩
  have hname := (pe_var (pos := np) hN hv hdb hcd).run pins s σ H (fun v H1 => v = .ref f ∧ H1 = H) I ⟨_, hslot, rfl, rfl⟩
  refine wpAny_Call_Name_kw (thn hname ?_)
  rintro u s1 ⟨v, H1, I1, rv, rfl, rfl⟩
  cases rv
  refine PySem.W.callWith_K (h₀ := X.base) I.ok.mod.kin hk (thn (ha.run pos pins s1 σ _ _ I1 h) ?_) hst hpl
  rintro us s2 ⟨vs, H2, I2, rv, hs⟩
  exact ⟨Inv.kIn I2, run_b F hr hb hd I2 hx rv hs⟩
theorem pe_meth {pl : Sem Bool} (he : PE X o to) (c : Cls X.K C) (hm : Meth X.K C m f) (F : FnOk X.prog X.w X.K X.mg X.base CX q f fd ps sp) (hr : Room q X.A) (hb : Binds X.K fd ps ds) (hd : Vals dvs ds) (hx : Passes CX X E) (ha : PA X (a :: as) ta)
    (hst : starEach (a :: as) X.env = (false, eval a X.env) :: starEach as X.env := by rfl) (hpl : (backTo pos (starEach as X.env)).any (·.1) = false := by rfl)
    (ht : eval (.Call (.Attribute o m apos) (a :: as) [] pos) X.env = (do let ov ← eval o X.env; standAt apos.atName; let (g, first) ← holding [ov] (getMethod ov m pl); callWith pos g first (backTo pos (starEach (a :: as) X.env)) (backToKw pos (keywordEach [] X.env))) := by rfl) : PE X (.Call (.Attribute o m apos) (a :: as) [] pos) (tMeth C m sp dvs E to ta) := by
  constructor
  intro pins s σ H Q I h
  refine PySem.W.methodCall_KW (pl := pl) (thn (he.run pins s σ H _ I h) ?_) ht
  rintro u s1 ⟨x, H1, I1, rx, b, dx, fs, rfl, eb, l, hs⟩
  obtain rfl : u = Value.ref b := rx
  refine getmeth_ok I1 eb c hm l (PySem.W.callWith_K (first := [.ref b]) (h₀ := X.base) I.ok.mod.kin hm.kp (thn (ha.run pos pins s1 σ H1 _ I1 hs) ?_) hst hpl)
  rintro us s2 ⟨vs, H2, I2, rv, hq⟩
  exact ⟨Inv.kIn I2, run_b (us := .ref b :: us) (vs := .ref b :: vs) F hr hb hd I2 hx (.cons rfl rv) hq⟩
theorem run_new {pins : List (Addr × Obj)} {σ : L2.St} {H : Hp} {s : Shared} {Q : VK} {us : List Value} {vs : List V} (M : Mk X.K C f) (F : FnOk X.prog X.w X.K X.mg X.base CX q f fd ps sp) (hr : Room (q + 1) X.A) (hb : Binds X.K fd ps ds) (hd : Vals dvs ds) (hx : Passes CX X E) (I : Inv X pins σ H s) (rv : Vals vs us)
    (h : ∀ x dx, H x = none → H dx = none → dx ≠ x → sp (.ref x :: (vs ++ dvs)) (upd (upd H dx (.own x)) x (.ins C dx [])) (fun v H2 => v = .non ∧ Q (.ref x) H2) E) : wpAny (model X.prog X.w) X.A (call (.ref C) us) (EP X pins σ Q) X.xe s := by
  have hs := h (s.heap.objs.size + 1) s.heap.objs.size (I.hok.fresh (Nat.le_succ _)) (I.hok.fresh (Nat.le_refl _)) (Nat.ne_of_lt (Nat.lt_succ_self _))
  have J := Inv.made (C := C) I
  have ra : Vals (V.ref (s.heap.objs.size + 1) :: (vs ++ dvs)) (Value.ref (s.heap.objs.size + 1) :: (us ++ ds)) := .cons rfl (rv.append hd)
  have hl := F.len _ _ _ _ hs
  rw [ra.length] at hl
  have hbn := hb _ (Value.ref (s.heap.objs.size + 1) :: us) (Inv.kIn J) hl
  refine wpAny_call (make_map (f := f) (Inv.kIn I) M.makes M.init (beq_iff_eq.mp M.fn) ?_)
  refine codeAny_mono (F.go _ X.stack _ _ ⟨Value.ref (s.heap.objs.size + 1) :: us, []⟩ _ _ _ E (hr.under C us) ((Inv.env0 J).make C us []) hbn ra hs) ?_
  intro r s' hc
  rcases r with e | fl
  · exact hx pins σ _ _ e s' J hc
  · cases fl with
    | ret u =>
      obtain ⟨v, H', I3, r3, rfl, hQ⟩ := Inv.after J hc
      exact ⟨r3, V.ref (s.heap.objs.size + 1), H', I3, rfl, hQ⟩
    | next => exact hc.elim
    | brk => exact hc.elim
    | cont => exact hc.elim
theorem pe_make (M : Mk X.K C f) (F : FnOk X.prog X.w X.K X.mg X.base CX q f fd ps sp) (hr : Room (q + 1) X.A) (hg : Gl X n) (hm : X.mg n = some (.ref C)) (hb : Binds X.K fd ps ds) (hd : Vals dvs ds) (hx : Passes CX X E) (ha : PA X (a :: as) ta)
    (hdb : (n == ("__debug__" : Str)) = false := by decide) (hst : starEach (a :: as) X.env = (false, eval a X.env) :: starEach as X.env := by rfl) (hpl : (backTo pos (starEach as X.env)).any (·.1) = false := by rfl) : PE X (.Call (.Name n np) (a :: as) [] pos) (tMake C sp dvs E ta) := by
  constructor
  intro pins s σ H Q I h
  refine wpAny_Call_Name_kw (ld_glob I hg hm (PySem.W.callWith_K (h₀ := X.base) I.ok.mod.kin M.kp ?_ hst hpl) hdb)
  refine thn (ha.run pos pins s σ H _ I h) ?_
  rintro us s1 ⟨vs, H1, I1, rv, hs⟩
  exact ⟨Inv.kIn I1, run_new M F hr hb hd hx I1 rv hs⟩
end
section
variable {P : Program} {w : World} {K : PySem.W.Frag} {mg : Str → Option Value} {base : Heap} {x qual : Str} {params : Arguments} {body : List Stmt} {scope : Scope} {dvs : List V} {kws : List (Str × V)} {f : Addr} {fd : FuncData} {CX : CXT} {N ps : List Str} {q : Nat} {sp : Sp}
/-- a def by its body -/
theorem fd_ok (F : FunD K x qual params body scope dvs kws f fd) (S : FnScope N ps scope) (len : ∀ vs H Q E, sp vs H Q E → vs.length = ps.length)
    (hbody : ∀ (cdv : Value) (A : Around) (outer : List Env) (s : Shared) (H : Hp) (vs : List V) (Q : VK) (E : XK), Room q (A.deeper (envOfC qual scope s.heap.objs.size f cdv)) → sp vs H Q E → ∃ t, PSs (cxOf CX P w K mg base N qual scope f cdv A outer s H E) body t ∧ t { nx := fun _ H' => Q .non H', rt := Q } (L2.start N vs) H) : FnOk P w K mg base CX (q + 1) f fd ps sp := by
  obtain ⟨oc, od, dV, kV, doc, pm, an, cdv, ct, osl, rfl, lk, hcd, _⟩ := F.ex
  refine ⟨len, ?_⟩
  intro A outer s H args us vs Q E hr e0 hb rv hs
  have kept : ∀ b o, base.get? b = some o → s.heap.get? b = some o := fun b o e => (e0.bs b o e).1
  have KX := e0.mod.kin.keeps kept
  have lim := e0.mod.nolimit.keeps kept
  have kinds : ∀ y ∈ ps.zip us, scope.names.lookup y.1 = some .local ∨ (scope.names.lookup y.1 = some .cell ∧ ((cellsFrom (s.heap.objs.size + 1) scope.names []).lookup y.1).isSome = true) := by
    rintro ⟨y, v⟩ hy
    refine (S.par y (List.of_mem_zip hy).1).imp_right ?_
    intro hc
    exact ⟨hc, PySem.W.cellsFrom_some _ _ _ (.inl hc)⟩
  refine codeAny_call_function hr.low (KX _ _ lk) rfl S.co S.gen rfl (PySem.W.codeRec_of KX hcd) (hb _ _ _ _ (wpAny_newFunctionEnv_cells S.kind kinds ?_))
  rintro env rfl s1 hin
  obtain ⟨t, ht, hq⟩ := hbody cdv A outer s H vs Q E (hr.deeper _) hs
  have I := inv_start (CX := CX) (P := P) (w := w) (E := E) S hr.hd e0 (len _ _ _ _ hs) rv hin
  refine ⟨lim.keeps hin.toInCall.keep, codeAny_func (wpAny_mono (ht.run [] s1 _ H _ I hq) ?_ fun e s' he => he)⟩
  intro fl s' hfl
  match fl, hfl with
  | .ret u, ⟨v, σ', H', J, r2, hQ⟩ => exact ⟨v, H', J.os, J.bare, J.base, J.hok, r2, hQ⟩
  | .next, ⟨σ', H', J, hQ⟩ => exact ⟨V.non, H', J.os, J.bare, J.base, J.hok, rfl, hQ⟩
  | .brk, ⟨_, _, _, hQ⟩ => exact hQ.elim
  | .cont, ⟨_, _, _, hQ⟩ => exact hQ.elim
end
end WB
namespace WB
open PySem PySem.Spec PyProof.Rows L2

/-! ### data -/
inductive D where
  | non
  | bl (b : Bool)
  | int (i : Int)
  | str (x : Str)
  | tup (ds : List D)

mutual
def D.key : D → NestedKey
  | .non => .none
  | .bl b => .num (if b = true then 1 else 0)
  | .int i => .num i
  | .str x => .text x
  | .tup ds => .tup (D.keys ds)
def D.keys : List D → List NestedKey
  | [] => []
  | d :: ds => D.key d :: D.keys ds
end
mutual
def D.data : D → PyData
  | .non => .none
  | .bl b => .bool b
  | .int i => .int i
  | .str x => .str x
  | .tup ds => .tuple (D.datas ds)
def D.datas : List D → List PyData
  | [] => []
  | d :: ds => D.data d :: D.datas ds
end
/-- Python's == -/
def D.eqv (a b : D) : Bool := NestedKey.beq a.key b.key
theorem D.keys_map : ∀ ds : List D, D.keys ds = ds.map D.key
  | [] => rfl
  | d :: ds => by rw [D.keys, D.keys_map ds]; rfl
theorem D.datas_map : ∀ ds : List D, D.datas ds = ds.map D.data
  | [] => rfl
  | d :: ds => by rw [D.datas, D.datas_map ds]; rfl
mutual
theorem eqv_data : ∀ a b : D, PyData.eqv a.data b.data = NestedKey.beq a.key b.key
  | .non, b => by cases b <;> simp [D.data, D.key, PyData.eqv, NestedKey.beq]
  | .bl x, b => by cases b <;> cases x <;> simp [D.data, D.key, PyData.eqv, NestedKey.beq] <;> rename_i y <;> first | (cases y <;> rfl) | (rw [Bool.eq_iff_iff]; simp) | skip
  | .int x, b => by cases b <;> simp [D.data, D.key, PyData.eqv, NestedKey.beq] <;> rename_i y <;> first | (rw [Bool.eq_iff_iff]; simp) | (cases y <;> rw [Bool.eq_iff_iff] <;> simp) | skip
  | .str x, b => by cases b <;> simp [D.data, D.key, PyData.eqv, NestedKey.beq] <;> rename_i y <;> first | (rw [Bool.eq_iff_iff]; simp) | skip
  | .tup xs, b => by
    cases b with
    | tup ys =>
      rw [D.data, D.data, D.key, D.key, PyData.eqv, NestedKey.beq]
      exact eqvAll_data xs ys
    | _ => simp [D.data, D.key, PyData.eqv, NestedKey.beq]
theorem eqvAll_data : ∀ a b : List D, PyData.eqvAll (D.datas a) (D.datas b) = NestedKey.beqAll (D.keys a) (D.keys b)
  | [], [] => rfl
  | [], _ :: _ => rfl
  | _ :: _, [] => rfl
  | x :: xs, y :: ys => by
    rw [D.datas, D.datas, D.keys, D.keys, PyData.eqvAll, NestedKey.beqAll, eqv_data x y, eqvAll_data xs ys]
end
theorem D.eqv_iff {a b : D} : D.eqv a b = decide (a.key = b.key) := (NestedKey.decide_eq a.key b.key).symm
theorem D.eqv_self (a : D) : D.eqv a a = true := NestedKey.beq_self _

/-! ### data at a value -/
mutual
def Rp (K : PySem.W.Frag) (H : Hp) : D → V → Prop
  | .non, v => v = .non
  | .bl b, v => v = .bl b
  | .int i, v => v = .int i
  | .str x, v => v = .str x
  | .tup ds, v => ∃ a xs, v = .ref a ∧ SqT K H a xs ∧ RpAll K H ds xs
def RpAll (K : PySem.W.Frag) (H : Hp) : List D → List V → Prop
  | [], vs => vs = []
  | d :: ds, vs => ∃ x r, vs = x :: r ∧ Rp K H d x ∧ RpAll K H ds r
end
/-- every tuple stays -/
def Tps (K : PySem.W.Frag) (H H' : Hp) : Prop := ∀ a xs, SqT K H a xs → SqT K H' a xs
theorem Tps.refl {K : PySem.W.Frag} {H : Hp} : Tps K H H := fun _ _ h => h
theorem Tps.trans {K : PySem.W.Frag} {H H1 H2 : Hp} (a : Tps K H H1) (b : Tps K H1 H2) : Tps K H H2 := fun x xs h => b x xs (a x xs h)
theorem Same.tup {K : PySem.W.Frag} {H H' : Hp} (e : Same H H') : Tps K H H' := fun a xs h => by
  rcases h with (h | ⟨o, h⟩) | h
  · exact .inl (.inl (e _ _ h))
  · exact .inl (.inr ⟨o, e _ _ h⟩)
  · exact .inr h
theorem upd_sqT {K : PySem.W.Frag} {H : Hp} {l a : Addr} {o : HO} {xs : List V} (hl : ∀ ys, ¬ Rd H l (.tup ys)) (h : SqT K H a xs) : SqT K (upd H l o) a xs := by
  rcases h with h | h
  · have ne : a ≠ l := fun e => by subst e; exact hl _ h
    rcases h with h | ⟨o', h⟩
    · exact .inl (.inl (by rw [upd_ne ne]; exact h))
    · exact .inl (.inr ⟨o', by rw [upd_ne ne]; exact h⟩)
  · exact .inr h
theorem upd_ts {K : PySem.W.Frag} {H : Hp} {l : Addr} {o u : HO} (hl : H l = some o) (hn : ∀ ys, o ≠ .tup ys) (hf : ∀ ob ys, o ≠ .frz ob (.tup ys)) : Tps K H (upd H l u) := fun a xs h => by
  refine upd_sqT (fun ys r => ?_) h
  rcases r with r | ⟨ob, r⟩
  · rw [hl] at r; exact hn ys (Option.some.inj r)
  · rw [hl] at r; exact hf ob ys (Option.some.inj r)
theorem lst_ts {K : PySem.W.Frag} {H : Hp} {l : Addr} {xs : List V} {u : HO} (hl : H l = some (.lst xs)) : Tps K H (upd H l u) := upd_ts hl (fun _ e => by cases e) fun _ _ e => by cases e
mutual
theorem Rp.mono {K : PySem.W.Frag} {H H' : Hp} (t : Tps K H H') : ∀ {d : D} {v : V}, Rp K H d v → Rp K H' d v
  | .non, _, h => h
  | .bl _, _, h => h
  | .int _, _, h => h
  | .str _, _, h => h
  | .tup _, _, h => by
    obtain ⟨a, xs, e, s, r⟩ := h
    exact ⟨a, xs, e, t a xs s, RpAll.mono t r⟩
theorem RpAll.mono {K : PySem.W.Frag} {H H' : Hp} (t : Tps K H H') : ∀ {ds : List D} {vs : List V}, RpAll K H ds vs → RpAll K H' ds vs
  | [], _, h => h
  | _ :: _, _, h => by
    obtain ⟨x, r, e, h1, h2⟩ := h
    exact ⟨x, r, e, Rp.mono t h1, RpAll.mono t h2⟩
end
theorem RpAll.length {K : PySem.W.Frag} {H : Hp} : ∀ {ds : List D} {vs : List V}, RpAll K H ds vs → vs.length = ds.length
  | [], _, h => by cases h; rfl
  | _ :: _, _, h => by
    obtain ⟨x, r, rfl, _, h2⟩ := h
    exact congrArg Nat.succ (RpAll.length h2)
theorem RpAll.get {K : PySem.W.Frag} {H : Hp} : ∀ {ds : List D} {vs : List V} {i : Nat} {d : D}, RpAll K H ds vs → ds[i]? = some d → ∃ v, vs[i]? = some v ∧ Rp K H d v
  | [], _, _, _, _, e => by simp at e
  | _ :: _, _, 0, _, h, e => by
    obtain ⟨x, r, rfl, h1, _⟩ := h
    have e' := Option.some.inj e
    subst e'
    exact ⟨x, rfl, h1⟩
  | _ :: ds, _, i + 1, d, h, e => by
    obtain ⟨x, r, rfl, _, h2⟩ := h
    obtain ⟨v, e1, e2⟩ := RpAll.get (i := i) (d := d) h2 (by simpa using e)
    exact ⟨v, by simpa using e1, e2⟩
theorem RpAll.get' {K : PySem.W.Frag} {H : Hp} {ds : List D} {vs : List V} {i : Nat} {v : V} (h : RpAll K H ds vs) (e : vs[i]? = some v) : ∃ d, ds[i]? = some d ∧ Rp K H d v := by
  have hi : i < ds.length := by rw [← h.length]; exact (List.getElem?_eq_some_iff.mp e).1
  obtain ⟨v', e1, e2⟩ := h.get (i := i) (d := ds[i]) (List.getElem?_eq_getElem hi)
  rw [e] at e1; cases e1
  exact ⟨ds[i], List.getElem?_eq_getElem hi, e2⟩
theorem RpAll.append {K : PySem.W.Frag} {H : Hp} {es : List D} {ws : List V} (h2 : RpAll K H es ws) : ∀ {ds : List D} {vs : List V}, RpAll K H ds vs → RpAll K H (ds ++ es) (vs ++ ws)
  | [], _, h => by cases h; exact h2
  | _ :: _, _, h => by
    obtain ⟨x, r, rfl, h1, h3⟩ := h
    exact ⟨x, r ++ ws, rfl, h1, RpAll.append h2 h3⟩
theorem RpAll.one {K : PySem.W.Frag} {H : Hp} {d : D} {v : V} (h : Rp K H d v) : RpAll K H [d] [v] := ⟨v, [], rfl, h, rfl⟩
theorem RpAll.snoc {K : PySem.W.Frag} {H : Hp} {ds : List D} {vs : List V} {d : D} {v : V} (h : RpAll K H ds vs) (h2 : Rp K H d v) : RpAll K H (ds ++ [d]) (vs ++ [v]) := RpAll.append (RpAll.one h2) h
theorem RpAll.take {K : PySem.W.Frag} {H : Hp} : ∀ (n : Nat) {ds : List D} {vs : List V}, RpAll K H ds vs → RpAll K H (ds.take n) (vs.take n)
  | 0, _, _, _ => rfl
  | _ + 1, [], _, h => by cases h; rfl
  | n + 1, _ :: _, _, h => by
    obtain ⟨x, r, rfl, h1, h3⟩ := h
    exact ⟨x, r.take n, rfl, h1, RpAll.take n h3⟩
theorem RpAll.drop {K : PySem.W.Frag} {H : Hp} : ∀ (n : Nat) {ds : List D} {vs : List V}, RpAll K H ds vs → RpAll K H (ds.drop n) (vs.drop n)
  | 0, _, _, h => h
  | _ + 1, [], _, h => by cases h; rfl
  | n + 1, _ :: _, _, h => by
    obtain ⟨x, r, rfl, _, h3⟩ := h
    exact RpAll.drop n h3
theorem RpAll.ints {K : PySem.W.Frag} {H : Hp} : ∀ {ns : List Int} {vs : List V}, RpAll K H (ns.map D.int) vs → vs = ns.map V.int
  | [], _, h => h
  | _ :: _, _, h => by
    obtain ⟨x, r, rfl, h1, h3⟩ := h
    have e : x = V.int _ := h1
    rw [e, RpAll.ints h3]; rfl
theorem RpAll.of_ints {K : PySem.W.Frag} {H : Hp} : ∀ (ns : List Int), RpAll K H (ns.map D.int) (ns.map V.int)
  | [] => rfl
  | n :: ns => ⟨_, _, rfl, rfl, RpAll.of_ints ns⟩
theorem RpAll.bls {K : PySem.W.Frag} {H : Hp} : ∀ {ns : List Bool} {vs : List V}, RpAll K H (ns.map D.bl) vs → vs = ns.map V.bl
  | [], _, h => h
  | _ :: _, _, h => by
    obtain ⟨x, r, rfl, h1, h3⟩ := h
    have e : x = V.bl _ := h1
    rw [e, RpAll.bls h3]; rfl
mutual
theorem Rp.dp {K : PySem.W.Frag} {H : Hp} : ∀ {d : D} {v : V}, Rp K H d v → Dp K H v d.data
  | .non, _, h => by cases h; exact .non
  | .bl _, _, h => by cases h; exact .bl _
  | .int _, _, h => by cases h; exact .int _
  | .str _, _, h => by cases h; exact .str _
  | .tup _, _, h => by
    obtain ⟨a, xs, rfl, s, r⟩ := h
    exact .tup s (RpAll.dp r)
theorem RpAll.dp {K : PySem.W.Frag} {H : Hp} : ∀ {ds : List D} {vs : List V}, RpAll K H ds vs → DpAll K H vs (D.datas ds)
  | [], _, h => by cases h; exact .nil
  | _ :: _, _, h => by
    obtain ⟨x, r, rfl, h1, h3⟩ := h
    exact .cons (Rp.dp h1) (RpAll.dp h3)
end

/-! ### judgements by the state -/
def ER (X : Cx) (e : Expr) (σ : L2.St) (H : Hp) (Q : VK) : Prop := ∀ (pins : List (Addr × Obj)) (s : Shared), Inv X pins σ H s → wpAny (model X.prog X.w) X.A (eval e X.env) (EP X pins σ Q) X.xe s
def TR (X : Cx) (e : Expr) (σ : L2.St) (H : Hp) (Q : Bool → Hp → Prop) : Prop := ∀ (pins : List (Addr × Obj)) (s : Shared), Inv X pins σ H s → wpAny (model X.prog X.w) X.A (isTrue e X.env (eval e X.env)) (TP X pins σ Q) X.xe s
def WR (X : Cx) (e : Expr) (σ : L2.St) (H : Hp) (Q : Bool → Hp → Prop) : Prop := ∀ (whole : Sem Value) (pins : List (Addr × Obj)) (s : Shared), Inv X pins σ H s → wpAny (model X.prog X.w) X.A (isTrue e X.env whole) (TP X pins σ Q) X.xe s
def AR (X : Cx) (es : List Expr) (σ : L2.St) (H : Hp) (Q : List V → Hp → Prop) : Prop := ∀ (pos : Pos) (pins : List (Addr × Obj)) (s : Shared), Inv X pins σ H s → wpAny (model X.prog X.w) X.A (spliced (backTo pos (starEach es X.env))) (AP X pins σ Q) X.xe s
def S1 (X : Cx) (st : Stmt) (D : Ends) (σ : L2.St) (H : Hp) : Prop := ∀ (pins : List (Addr × Obj)) (s : Shared), Inv X pins σ H s → wpAny (model X.prog X.w) X.A (exec st X.env) (SP X pins D) X.xe s
def SR (X : Cx) (sts : List Stmt) (D : Ends) (σ : L2.St) (H : Hp) : Prop := ∀ (pins : List (Addr × Obj)) (s : Shared), Inv X pins σ H s → wpAny (model X.prog X.w) X.A (execs sts X.env) (SP X pins D) X.xe s
def GR (X : Cx) (tg : Expr) (v : V) (σ : L2.St) (H : Hp) (Q : L2.St → Hp → Prop) : Prop := ∀ (pins : List (Addr × Obj)) (s : Shared) (u : Value), Inv X pins σ H s → RelV v u → wpAny (model X.prog X.w) X.A (assign tg X.env u) (fun _ s' => ∃ σ' H', Inv X pins σ' H' s' ∧ Q σ' H') X.xe s
section
variable {X : Cx} {e : Expr} {es : List Expr} {st : Stmt} {sts : List Stmt} {σ : L2.St} {H : Hp}
theorem pe_self : PE X e (fun σ H Q => ER X e σ H Q) := ⟨fun pins s _ _ _ I h => h pins s I⟩
theorem pt_self : PT X e (fun σ H Q => TR X e σ H Q) := ⟨fun pins s _ _ _ I h => h pins s I⟩
theorem pw_self : PW X e (fun σ H Q => WR X e σ H Q) := ⟨fun wh pins s _ _ _ I h => h wh pins s I⟩
theorem pa_self : PA X es (fun σ H Q => AR X es σ H Q) := ⟨fun pos pins s _ _ _ I h => h pos pins s I⟩
theorem ps_self : PS X st (fun D σ H => S1 X st D σ H) := ⟨fun pins s _ _ _ I h => h pins s I⟩
theorem pss_self : PSs X sts (fun D σ H => SR X sts D σ H) := ⟨fun pins s _ _ _ I h => h pins s I⟩
theorem pg_self {tg : Expr} : PG X tg (fun v σ H Q => GR X tg v σ H Q) := ⟨fun pins s _ _ _ u _ I r h => h pins s u I r⟩
theorem er_of {t : TE} (h : PE X e t) {Q : VK} (q : t σ H Q) : ER X e σ H Q := fun pins s I => h.run pins s σ H Q I q
theorem tr_of {t : TT} (h : PT X e t) {Q : Bool → Hp → Prop} (q : t σ H Q) : TR X e σ H Q := fun pins s I => h.run pins s σ H Q I q
theorem wr_of {t : TT} (h : PW X e t) {Q : Bool → Hp → Prop} (q : t σ H Q) : WR X e σ H Q := fun wh pins s I => h.run wh pins s σ H Q I q
theorem ar_of {t : TA} (h : PA X es t) {Q : List V → Hp → Prop} (q : t σ H Q) : AR X es σ H Q := fun pos pins s I => h.run pos pins s σ H Q I q
theorem s1_of {t : TS} (h : PS X st t) {D : Ends} (q : t D σ H) : S1 X st D σ H := fun pins s I => h.run pins s σ H D I q
theorem sr_of {t : TS} (h : PSs X sts t) {D : Ends} (q : t D σ H) : SR X sts D σ H := fun pins s I => h.run pins s σ H D I q
theorem gr_of {tg : Expr} {t : TG} {v : V} (h : PG X tg t) {Q : L2.St → Hp → Prop} (q : t v σ H Q) : GR X tg v σ H Q := fun pins s u I r => h.run pins s σ H v u Q I r q
theorem ER.imp {Q Q' : VK} (h : ER X e σ H Q) (hq : ∀ v H', Q v H' → Q' v H') : ER X e σ H Q' := fun pins s I => thn (h pins s I) fun u s' ⟨v, H', I', r, q⟩ => ⟨v, H', I', r, hq v H' q⟩
theorem TR.imp {Q Q' : Bool → Hp → Prop} (h : TR X e σ H Q) (hq : ∀ v H', Q v H' → Q' v H') : TR X e σ H Q' := fun pins s I => thn (h pins s I) fun u s' ⟨H', I', q⟩ => ⟨H', I', hq _ H' q⟩
theorem sr_cons {D : Ends} (h : S1 X st { D with nx := fun σ' H' => SR X sts D σ' H' } σ H) : SR X (st :: sts) D σ H := sr_of (pss_cons ps_self pss_self) h
theorem sr_nil {D : Ends} (h : D.nx σ H) : SR X [] D σ H := sr_of pss_nil h
end
end WB
namespace WB
open PySem PySem.Spec PyProof.Rows L2

/-! ### what the slots hold, told as data -/
inductive AV where
  | no
  | d (x : D)
  /-- a list that stands in the ground H0 -/
  | bw (xs : List D)
  /-- a list of one's own, above the ground -/
  | own (xs : List D)
  /-- a value known as it is -/
  | v (x : V)
def SlotOk (K : PySem.W.Frag) (H0 H : Hp) : AV → Option V → Prop
  | .no, _ => True
  | .d x, o => ∃ v, o = some v ∧ Rp K H x v
  | .bw xs, o => ∃ l vs, o = some (.ref l) ∧ SqL K H0 l vs ∧ RpAll K H xs vs
  | .own xs, o => ∃ l vs, o = some (.ref l) ∧ H0 l = none ∧ H l = some (.lst vs) ∧ RpAll K H xs vs
  | .v x, o => o = some x
structure Fm (K : PySem.W.Frag) (H0 : Hp) (σ : L2.St) (Γ : List AV) (H : Hp) : Prop where
  ex : Same H0 H
  len : σ.length = Γ.length
  at_ : ∀ (i : Nat) (a : AV), Γ[i]? = some a → ∃ o, σ[i]? = some o ∧ SlotOk K H0 H a o
  dis : ∀ (i j : Nat) (xs ys : List D) (l : Addr), i ≠ j → Γ[i]? = some (.own xs) → Γ[j]? = some (.own ys) → σ[i]? = some (some (.ref l)) → σ[j]? ≠ some (some (.ref l))
theorem SlotOk.same {K : PySem.W.Frag} {H0 H H' : Hp} (e : Same H H') : ∀ {a : AV} {o : Option V}, SlotOk K H0 H a o → SlotOk K H0 H' a o
  | .no, _, _ => trivial
  | .d _, _, ⟨v, h1, h2⟩ => ⟨v, h1, h2.mono (Same.tup e)⟩
  | .bw _, _, ⟨l, vs, h1, h2, h3⟩ => ⟨l, vs, h1, h2, h3.mono (Same.tup e)⟩
  | .own _, _, ⟨l, vs, h1, h2, h3, h4⟩ => ⟨l, vs, h1, h2, e _ _ h3, h4.mono (Same.tup e)⟩
  | .v _, _, h => h
theorem SlotOk.ground {K : PySem.W.Frag} {H0 H0' H : Hp} (e : Same H0 H0') : ∀ {a : AV} {o : Option V}, (∀ xs l, a = .own xs → o = some (.ref l) → H0' l = none) → SlotOk K H0 H a o → SlotOk K H0' H a o
  | .no, _, _, _ => trivial
  | .d _, _, _, h => h
  | .bw _, _, _, ⟨l, vs, h1, h2, h3⟩ => ⟨l, vs, h1, e.seq h2, h3⟩
  | .own xs, _, n, ⟨l, vs, h1, _, h3, h4⟩ => ⟨l, vs, h1, n xs l rfl h1, h3, h4⟩
  | .v _, _, _, h => h
section
variable {K : PySem.W.Frag} {H0 H H' : Hp} {σ : L2.St} {Γ : List AV}
theorem Fm.same (F : Fm K H0 σ Γ H) (e : Same H H') : Fm K H0 σ Γ H' :=
  ⟨F.ex.trans e, F.len, fun i a h => let ⟨o, h1, h2⟩ := F.at_ i a h; ⟨o, h1, h2.same e⟩, F.dis⟩
theorem Fm.d (F : Fm K H0 σ Γ H) {i : Nat} {x : D} (h : Γ[i]? = some (.d x)) : ∃ v, σ[i]? = some (some v) ∧ Rp K H x v := by
  obtain ⟨o, h1, v, rfl, h3⟩ := F.at_ i _ h
  exact ⟨v, h1, h3⟩
theorem Fm.vl (F : Fm K H0 σ Γ H) {i : Nat} {x : V} (h : Γ[i]? = some (.v x)) : σ[i]? = some (some x) := by
  obtain ⟨o, h1, h2⟩ := F.at_ i _ h
  rw [h1, show o = some x from h2]
theorem Fm.own (F : Fm K H0 σ Γ H) {i : Nat} {xs : List D} (h : Γ[i]? = some (.own xs)) : ∃ l vs, σ[i]? = some (some (.ref l)) ∧ H0 l = none ∧ H l = some (.lst vs) ∧ RpAll K H xs vs := by
  obtain ⟨o, h1, l, vs, rfl, h2⟩ := F.at_ i _ h
  exact ⟨l, vs, h1, h2⟩
theorem Fm.bw (F : Fm K H0 σ Γ H) {i : Nat} {xs : List D} (h : Γ[i]? = some (.bw xs)) : ∃ l vs, σ[i]? = some (some (.ref l)) ∧ SqL K H0 l vs ∧ RpAll K H xs vs := by
  obtain ⟨o, h1, l, vs, rfl, h2⟩ := F.at_ i _ h
  exact ⟨l, vs, h1, h2⟩
/-- a slot is stored -/
theorem Fm.set (F : Fm K H0 σ Γ H) {i : Nat} {a : AV} {v : V} (ho : SlotOk K H0 H a (some v)) (hn : ∀ xs l, a = .own xs → v = .ref l → ∀ (j : Nat) ys, j ≠ i → Γ[j]? = some (.own ys) → σ[j]? ≠ some (some (.ref l))) : Fm K H0 (σ.set i (some v)) (Γ.set i a) H := by
  refine ⟨F.ex, by rw [List.length_set, List.length_set]; exact F.len, fun j b hb => ?_, fun j k xs ys l hjk h1 h2 h3 h4 => ?_⟩
  · by_cases hj : j = i
    · subst hj
      have hl : j < Γ.length := by
        have := (List.getElem?_eq_some_iff.mp hb).1
        rwa [List.length_set] at this
      rw [List.getElem?_set_self hl] at hb
      cases hb
      exact ⟨some v, List.getElem?_set_self (by rw [F.len]; exact hl), ho⟩
    · rw [List.getElem?_set_ne (Ne.symm hj)] at hb
      obtain ⟨o, e1, e2⟩ := F.at_ j b hb
      exact ⟨o, by rw [List.getElem?_set_ne (Ne.symm hj)]; exact e1, e2⟩
  · have il : ∀ {m : Nat} {zs : List D}, (Γ.set i a)[m]? = some (.own zs) → m = i → i < Γ.length ∧ a = .own zs := fun {m zs} e em => by
      subst em
      have hl : m < Γ.length := by
        have := (List.getElem?_eq_some_iff.mp e).1
        rwa [List.length_set] at this
      rw [List.getElem?_set_self hl] at e
      exact ⟨hl, Option.some.inj e⟩
    by_cases hj : j = i
    · obtain ⟨hl, ea⟩ := il h1 hj
      have hk : k ≠ i := fun e => hjk (hj.trans e.symm)
      rw [List.getElem?_set_ne (Ne.symm hk)] at h2 h4
      subst hj
      rw [List.getElem?_set_self (by rw [F.len]; exact hl)] at h3
      have ev : v = .ref l := Option.some.inj (Option.some.inj h3)
      exact hn xs l ea ev k ys hk h2 h4
    · rw [List.getElem?_set_ne (Ne.symm hj)] at h1 h3
      by_cases hk : k = i
      · obtain ⟨hl, ea⟩ := il h2 hk
        subst hk
        rw [List.getElem?_set_self (by rw [F.len]; exact hl)] at h4
        have ev : v = .ref l := Option.some.inj (Option.some.inj h4)
        exact hn ys l ea ev j xs hj h1 h3
      · rw [List.getElem?_set_ne (Ne.symm hk)] at h2 h4
        exact F.dis j k xs ys l hjk h1 h2 h3 h4
theorem Fm.set_d (F : Fm K H0 σ Γ H) {i : Nat} {x : D} {v : V} (h : Rp K H x v) : Fm K H0 (σ.set i (some v)) (Γ.set i (.d x)) H :=
  F.set ⟨v, rfl, h⟩ fun _ _ e => by cases e
theorem Fm.set_v (F : Fm K H0 σ Γ H) {i : Nat} {x : V} : Fm K H0 (σ.set i (some x)) (Γ.set i (.v x)) H :=
  F.set rfl fun _ _ e => by cases e
theorem Fm.set_no (F : Fm K H0 σ Γ H) {i : Nat} {v : V} : Fm K H0 (σ.set i (some v)) (Γ.set i .no) H :=
  F.set trivial fun _ _ e => by cases e
theorem Fm.own_ne (F : Fm K H0 σ Γ H) {l : Addr} (hl : H l = none) (j : Nat) (ys : List D) (h : Γ[j]? = some (.own ys)) : σ[j]? ≠ some (some (.ref l)) := fun e => by
  obtain ⟨l', vs, e1, _, e2, _⟩ := F.own h
  rw [e] at e1
  have el : l = l' := by injection (Option.some.inj (Option.some.inj e1))
  rw [el, e2] at hl; cases hl
/-- a new list is stored -/
theorem Fm.set_own (F : Fm K H0 σ Γ H) {i : Nat} {xs : List D} {l : Addr} {vs : List V} (hl : H l = none) (e : Same H H') (h1 : H' l = some (.lst vs)) (h2 : RpAll K H' xs vs) : Fm K H0 (σ.set i (some (.ref l))) (Γ.set i (.own xs)) H' := by
  refine (F.same e).set ⟨l, vs, rfl, F.ex.free hl, h1, h2⟩ fun zs l' _ ev j ys _ hj => ?_
  injection ev with ev
  subst ev
  exact F.own_ne hl j ys hj
/-- slots forgotten -/
def wipeA (Γ : List AV) : List Nat → List AV
  | [] => Γ
  | v :: vs => (wipeA Γ vs).set v .no
theorem Fm.forget (F : Fm K H0 σ Γ H) (i : Nat) : Fm K H0 (σ.set i none) (Γ.set i .no) H := by
  refine ⟨F.ex, by rw [List.length_set, List.length_set]; exact F.len, fun j b hb => ?_, fun j k xs ys l hjk h1 h2 h3 h4 => ?_⟩
  · by_cases hj : j = i
    · subst hj
      have hl : j < Γ.length := by
        have := (List.getElem?_eq_some_iff.mp hb).1
        rwa [List.length_set] at this
      rw [List.getElem?_set_self hl] at hb
      cases hb
      exact ⟨none, List.getElem?_set_self (by rw [F.len]; exact hl), trivial⟩
    · rw [List.getElem?_set_ne (Ne.symm hj)] at hb
      obtain ⟨o, e1, e2⟩ := F.at_ j b hb
      exact ⟨o, by rw [List.getElem?_set_ne (Ne.symm hj)]; exact e1, e2⟩
  · have ne : ∀ {m : Nat} {zs : List D}, (Γ.set i .no)[m]? = some (.own zs) → m ≠ i := fun {m zs} e em => by
      subst em
      have hl : m < Γ.length := by
        have := (List.getElem?_eq_some_iff.mp e).1
        rwa [List.length_set] at this
      rw [List.getElem?_set_self hl] at e
      cases e
    have hj := ne h1
    have hk := ne h2
    rw [List.getElem?_set_ne (Ne.symm hj)] at h1 h3
    rw [List.getElem?_set_ne (Ne.symm hk)] at h2 h4
    exact F.dis j k xs ys l hjk h1 h2 h3 h4
theorem Fm.wipe (F : Fm K H0 σ Γ H) : ∀ vs : List Nat, Fm K H0 (L2.wipe σ vs) (wipeA Γ vs) H
  | [] => F
  | v :: vs => (F.wipe vs).forget v
/-- a list that no slot owns changes -/
theorem Fm.other (F : Fm K H0 σ Γ H) {l : Addr} {vs : List V} {u : HO} (h0 : H0 l = none) (hl : H l = some (.lst vs)) (hn : ∀ (j : Nat) ys, Γ[j]? = some (.own ys) → σ[j]? ≠ some (some (.ref l))) : Fm K H0 σ Γ (upd H l u) := by
  have ts : Tps K H (upd H l u) := lst_ts hl
  refine ⟨fun a o e => ?_, F.len, fun i a h => ?_, F.dis⟩
  · rw [upd_ne (ne_of_none e h0)]
    exact F.ex a o e
  · obtain ⟨o, e1, e2⟩ := F.at_ i a h
    refine ⟨o, e1, ?_⟩
    cases a with
    | no => trivial
    | d x => obtain ⟨v, r1, r2⟩ := e2; exact ⟨v, r1, r2.mono ts⟩
    | bw xs => obtain ⟨l', ws, r1, r2, r3⟩ := e2; exact ⟨l', ws, r1, r2, r3.mono ts⟩
    | own xs =>
      obtain ⟨l', ws, r1, r2, r3, r4⟩ := e2
      have ne : l' ≠ l := fun q => hn i xs h (by rw [e1, r1, q])
      exact ⟨l', ws, r1, r2, by rw [upd_ne ne]; exact r3, r4.mono ts⟩
    | v b => exact e2
/-- one's own list takes an item -/
theorem Fm.append (F : Fm K H0 σ Γ H) {i : Nat} {xs : List D} {l : Addr} {vs : List V} {x : D} {v : V} (hi : Γ[i]? = some (.own xs)) (hs : σ[i]? = some (some (.ref l))) (hl : H l = some (.lst vs)) (hr : Rp K H x v) : Fm K H0 σ (Γ.set i (.own (xs ++ [x]))) (upd H l (.lst (vs ++ [v]))) := by
  have ts : Tps K H (upd H l (.lst (vs ++ [v]))) := lst_ts hl
  obtain ⟨l', vs', e1, h0, e2, e3⟩ := F.own hi
  rw [hs] at e1
  have el : l = l' := by injection (Option.some.inj (Option.some.inj e1))
  subst el
  rw [hl] at e2
  have ev : vs = vs' := by injection (Option.some.inj e2)
  subst ev
  have hlt : i < Γ.length := (List.getElem?_eq_some_iff.mp hi).1
  refine ⟨fun a o e => ?_, by rw [List.length_set]; exact F.len, fun j a h => ?_, fun j k ys zs l2 hjk h1 h2 h3 h4 => ?_⟩
  · rw [upd_ne (ne_of_none e h0)]
    exact F.ex a o e
  · by_cases hj : j = i
    · subst hj
      rw [List.getElem?_set_self hlt] at h
      cases h
      exact ⟨_, hs, l, _, rfl, h0, upd_same, (e3.mono ts).snoc (hr.mono ts)⟩
    · rw [List.getElem?_set_ne (Ne.symm hj)] at h
      obtain ⟨o, r1, r2⟩ := F.at_ j a h
      refine ⟨o, r1, ?_⟩
      cases a with
      | no => trivial
      | d x => obtain ⟨v, q1, q2⟩ := r2; exact ⟨v, q1, q2.mono ts⟩
      | bw xs => obtain ⟨l', ws, q1, q2, q3⟩ := r2; exact ⟨l', ws, q1, q2, q3.mono ts⟩
      | own ys =>
        obtain ⟨l', ws, q1, q2, q3, q4⟩ := r2
        have ne : l' ≠ l := fun q => F.dis i j xs ys l (Ne.symm hj) hi h hs (by rw [r1, q1, q])
        exact ⟨l', ws, q1, q2, by rw [upd_ne ne]; exact q3, q4.mono ts⟩
      | v b => exact r2
  · have un : ∀ {m : Nat} {zs : List D}, (Γ.set i (.own (xs ++ [x])))[m]? = some (.own zs) → ∃ zs', Γ[m]? = some (.own zs') := fun {m zs} e => by
      by_cases hm : m = i
      · exact ⟨xs, by rw [hm]; exact hi⟩
      · rw [List.getElem?_set_ne (Ne.symm hm)] at e
        exact ⟨zs, e⟩
    obtain ⟨_, g1⟩ := un h1
    obtain ⟨_, g2⟩ := un h2
    exact F.dis j k _ _ l2 hjk g1 g2 h3 h4
/-- the ground is widened to all but one's own lists -/
def ownAt (σ : L2.St) (Γ : List AV) (a : Addr) : Prop := ∃ (i : Nat) (xs : List D), Γ[i]? = some (.own xs) ∧ σ[i]? = some (some (.ref a))
theorem Fm.rebase (F : Fm K H0 σ Γ H) : ∃ H1 : Hp, Same H0 H1 ∧ Same H1 H ∧ Fm K H1 σ Γ H ∧ (∀ a o, H a = some o → ¬ ownAt σ Γ a → H1 a = some o) ∧ (∀ a, ownAt σ Γ a → H1 a = none) ∧ ∀ a, H a = none → H1 a = none := by
  classical
  refine ⟨fun a => if ownAt σ Γ a then none else H a, fun a o e => ?_, fun a o e => ?_, ?_, fun a o e n => ?_, fun a n => if_pos n, fun a e => ?_⟩
  · have n : ¬ ownAt σ Γ a := fun ⟨i, xs, h1, h2⟩ => by
      obtain ⟨l, vs, e1, e2, _⟩ := F.own h1
      rw [h2] at e1
      have el : a = l := by injection (Option.some.inj (Option.some.inj e1))
      rw [el, e2] at e; cases e
    show (if ownAt σ Γ a then none else H a) = some o
    rw [if_neg n]
    exact F.ex a o e
  · have e' : (if ownAt σ Γ a then none else H a) = some o := e
    split at e'
    · cases e'
    · exact e'
  · have sm : Same H0 (fun a => if ownAt σ Γ a then none else H a) := fun a o e => by
      have n : ¬ ownAt σ Γ a := fun ⟨i, xs, h1, h2⟩ => by
        obtain ⟨l, vs, e1, e2, _⟩ := F.own h1
        rw [h2] at e1
        have el : a = l := by injection (Option.some.inj (Option.some.inj e1))
        rw [el, e2] at e; cases e
      show (if ownAt σ Γ a then none else H a) = some o
      rw [if_neg n]
      exact F.ex a o e
    refine ⟨fun a o e => ?_, F.len, fun i a h => ?_, F.dis⟩
    · have e' : (if ownAt σ Γ a then none else H a) = some o := e
      split at e'
      · cases e'
      · exact e'
    · obtain ⟨o, e1, e2⟩ := F.at_ i a h
      exact ⟨o, e1, e2.ground sm fun xs l ea eo => if_pos ⟨i, xs, by rw [h, ea], by rw [e1, eo]⟩⟩
  · show (if ownAt σ Γ a then none else H a) = some o
    rw [if_neg n]; exact e
  · show (if ownAt σ Γ a then none else H a) = none
    split
    · rfl
    · exact e
/-- one's own list is laid to the ground -/
theorem Fm.freeze (F : Fm K H0 σ Γ H) {i : Nat} {xs : List D} (hi : Γ[i]? = some (.own xs)) : ∃ H1 : Hp, Same H0 H1 ∧ Same H1 H ∧ Fm K H1 σ (Γ.set i (.bw xs)) H := by
  obtain ⟨l, vs, e1, e0, e2, e3⟩ := F.own hi
  have sm : Same H0 (upd H0 l (.lst vs)) := fun a o e => by rw [upd_ne (ne_of_none e e0)]; exact e
  have hlt : i < Γ.length := (List.getElem?_eq_some_iff.mp hi).1
  have sm2 : Same (upd H0 l (.lst vs)) H := fun a o e => by
    by_cases ha : a = l
    · subst ha
      rw [upd_same] at e
      rw [e2]; exact e
    · rw [upd_ne ha] at e
      exact F.ex a o e
  refine ⟨upd H0 l (.lst vs), sm, sm2, ⟨sm2, by rw [List.length_set]; exact F.len, fun j a h => ?_, fun j k ys zs l2 hjk h1 h2 h3 h4 => ?_⟩⟩
  · by_cases hj : j = i
    · subst hj
      rw [List.getElem?_set_self hlt] at h
      cases h
      exact ⟨_, e1, l, vs, rfl, SqL.of upd_same, e3⟩
    · rw [List.getElem?_set_ne (Ne.symm hj)] at h
      obtain ⟨o, r1, r2⟩ := F.at_ j a h
      refine ⟨o, r1, r2.ground sm fun ys l' ea eo => ?_⟩
      subst ea
      obtain ⟨l'', ws, q1, q2, _⟩ := r2
      rw [eo] at q1
      have el : l' = l'' := by injection (Option.some.inj q1)
      have ne : l' ≠ l := fun q => F.dis i j xs ys l (Ne.symm hj) hi h e1 (by rw [r1, eo, q])
      rw [upd_ne ne, el]
      exact q2
  · have un : ∀ {m : Nat} {zs : List D}, (Γ.set i (.bw xs))[m]? = some (.own zs) → Γ[m]? = some (.own zs) := fun {m zs} e => by
      by_cases hm : m = i
      · subst hm
        rw [List.getElem?_set_self hlt] at e
        cases e
      · rw [List.getElem?_set_ne (Ne.symm hm)] at e
        exact e
    exact F.dis j k _ _ l2 hjk (un h1) (un h2) h3 h4
end
end WB
namespace WB
open PySem PySem.Spec PyProof.Rows L2

/-! ### shapes that == takes -/
def Sh (d : D) : Prop := SeqAt.shaped d.data = true
mutual
/-- texts are plain -/
def D.sok : D → Bool
  | .str x => PyData.strOk x
  | .tup ds => D.soks ds
  | _ => true
def D.soks : List D → Bool
  | [] => true
  | d :: ds => D.sok d && D.soks ds
end
mutual
def D.dep : D → Nat
  | .tup ds => D.deps ds + 1
  | _ => 0
def D.deps : List D → Nat
  | [] => 0
  | d :: ds => max (D.dep d) (D.deps ds)
end
mutual
theorem lay_data : ∀ d : D, PyData.canLay0 d.data = d.sok
  | .non => by simp [D.data, PyData.canLay0, D.sok]
  | .bl _ => by simp [D.data, PyData.canLay0, D.sok]
  | .int _ => by simp [D.data, PyData.canLay0, D.sok]
  | .str _ => by simp [D.data, PyData.canLay0, D.sok]
  | .tup ds => by simp only [D.data, PyData.canLay0, D.sok]; exact lays_data ds
theorem lays_data : ∀ ds : List D, PyData.canLayAll0 (D.datas ds) = D.soks ds
  | [] => by simp [D.datas, PyData.canLayAll0, D.soks]
  | d :: ds => by simp only [D.datas, PyData.canLayAll0, D.soks]; rw [lay_data d, lays_data ds]
end
mutual
theorem dep_data : ∀ d : D, PyData.depth d.data = d.dep
  | .non => by simp [D.data, PyData.depth, D.dep]
  | .bl _ => by simp [D.data, PyData.depth, D.dep]
  | .int _ => by simp [D.data, PyData.depth, D.dep]
  | .str _ => by simp [D.data, PyData.depth, D.dep]
  | .tup ds => by simp only [D.data, PyData.depth, D.dep]; rw [deps_data ds]
theorem deps_data : ∀ ds : List D, PyData.depthAll (D.datas ds) = D.deps ds
  | [] => by simp [D.datas, PyData.depthAll, D.deps]
  | d :: ds => by simp only [D.datas, PyData.depthAll, D.deps]; rw [dep_data d, deps_data ds]
end
theorem sh_of {d : D} (h1 : d.sok = true) (h2 : d.dep ≤ 60) : Sh d := by
  unfold Sh SeqAt.shaped
  rw [lay_data, dep_data, h1, Bool.true_and]
  exact decide_eq_true (by omega)
theorem Sh.sok {d : D} (h : Sh d) : d.sok = true := by
  have h' : (PyData.canLay0 d.data && decide (d.data.depth ≤ 64)) = true := h
  rw [lay_data, Bool.and_eq_true] at h'
  exact h'.1
theorem Sh.dep {d : D} (h : Sh d) : d.dep ≤ 64 := by
  have h' : (PyData.canLay0 d.data && decide (d.data.depth ≤ 64)) = true := h
  rw [dep_data, Bool.and_eq_true] at h'
  exact of_decide_eq_true h'.2
/-- a tuple of whole numbers -/
def ti (ns : List Int) : D := .tup (ns.map D.int)
theorem soks_ints : ∀ ns : List Int, D.soks (ns.map D.int) = true
  | [] => rfl
  | _ :: ns => by rw [List.map_cons, D.soks, soks_ints ns]; rfl
theorem deps_ints : ∀ ns : List Int, D.deps (ns.map D.int) = 0
  | [] => rfl
  | _ :: ns => by rw [List.map_cons, D.deps, deps_ints ns]; rfl
theorem ti_sok (ns : List Int) : (ti ns).sok = true := by unfold ti D.sok; exact soks_ints ns
theorem ti_dep (ns : List Int) : (ti ns).dep = 1 := by unfold ti D.dep; rw [deps_ints]
theorem ti_sh (ns : List Int) : Sh (ti ns) := sh_of (ti_sok ns) (by rw [ti_dep]; decide)
theorem keys_ints : ∀ ns : List Int, D.keys (ns.map D.int) = ns.map NestedKey.num
  | [] => rfl
  | _ :: ns => by rw [List.map_cons, D.keys, keys_ints ns]; rfl
theorem ti_key (ns : List Int) : (ti ns).key = .tup (ns.map NestedKey.num) := by unfold ti D.key; rw [keys_ints]
theorem map_num_inj : ∀ {ns ms : List Int}, ns.map NestedKey.num = ms.map NestedKey.num → ns = ms
  | [], [], _ => rfl
  | [], _ :: _, h => by simp at h
  | _ :: _, [], h => by simp at h
  | n :: ns, m :: ms, h => by
    rw [List.map_cons, List.map_cons] at h
    injection h with h1 h2
    injection h1 with h1
    rw [h1, map_num_inj h2]
theorem ti_eqv (ns ms : List Int) : D.eqv (ti ns) (ti ms) = decide (ns = ms) := by
  rw [D.eqv_iff, ti_key, ti_key]
  by_cases h : ns = ms
  · rw [h, decide_eq_true rfl, decide_eq_true rfl]
  · rw [decide_eq_false h, decide_eq_false]
    intro q
    injection q with q
    exact h (map_num_inj q)
theorem int_eqv (i j : Int) : D.eqv (.int i) (.int j) = decide (i = j) := by
  rw [D.eqv_iff]
  by_cases h : i = j
  · rw [h, decide_eq_true rfl, decide_eq_true rfl]
  · rw [decide_eq_false h, decide_eq_false]
    intro q
    exact h (by injection q)
theorem str_eqv (i j : Str) : D.eqv (.str i) (.str j) = decide (i = j) := by
  rw [D.eqv_iff]
  by_cases h : i = j
  · rw [h, decide_eq_true rfl, decide_eq_true rfl]
  · rw [decide_eq_false h, decide_eq_false]
    intro q
    exact h (by injection q)

/-! ### judgements over what is known -/
def ArgOk (K : PySem.W.Frag) (H : Hp) : AV → V → Prop
  | .no, _ => True
  | .d x, v => Rp K H x v
  | .bw xs, v => ∃ l vs, v = .ref l ∧ SqL K H l vs ∧ RpAll K H xs vs
  | .own xs, v => ∃ l vs, v = .ref l ∧ SqL K H l vs ∧ RpAll K H xs vs
  | .v x, v => v = x
def ArgsOk (K : PySem.W.Frag) (H : Hp) : List AV → List V → Prop
  | [], vs => vs = []
  | a :: as, vs => ∃ v r, vs = v :: r ∧ ArgOk K H a v ∧ ArgsOk K H as r
def ResOk (K : PySem.W.Frag) (H H' : Hp) : AV → V → Prop
  | .no, _ => True
  | .d x, v => Rp K H' x v
  | .bw xs, v => ∃ l vs, v = .ref l ∧ SqL K H' l vs ∧ RpAll K H' xs vs
  | .own xs, v => ∃ l vs, v = .ref l ∧ H l = none ∧ H' l = some (.lst vs) ∧ RpAll K H' xs vs
  | .v x, v => v = x
def spP (K : PySem.W.Frag) (dom : List AV → AV → Prop) : Sp := fun vs H Q _ => ∃ as r, ArgsOk K H as vs ∧ dom as r ∧ ∀ v H', Same H H' → ResOk K H H' r v → Q v H'
theorem ArgOk.same {K : PySem.W.Frag} {H H' : Hp} (e : Same H H') : ∀ {a : AV} {v : V}, ArgOk K H a v → ArgOk K H' a v
  | .no, _, _ => trivial
  | .d _, _, h => Rp.mono (Same.tup e) h
  | .bw _, _, ⟨l, vs, h1, h2, h3⟩ => ⟨l, vs, h1, e.seq h2, h3.mono (Same.tup e)⟩
  | .own _, _, ⟨l, vs, h1, h2, h3⟩ => ⟨l, vs, h1, e.seq h2, h3.mono (Same.tup e)⟩
  | .v _, _, h => h
theorem ArgsOk.length {K : PySem.W.Frag} {H : Hp} : ∀ {as : List AV} {vs : List V}, ArgsOk K H as vs → vs.length = as.length
  | [], _, h => by cases h; rfl
  | _ :: _, _, ⟨v, r, e, _, h2⟩ => by rw [e]; exact congrArg Nat.succ (ArgsOk.length h2)
theorem ArgsOk.same {K : PySem.W.Frag} {H H' : Hp} (e : Same H H') : ∀ {as : List AV} {vs : List V}, ArgsOk K H as vs → ArgsOk K H' as vs
  | [], _, h => h
  | _ :: _, _, ⟨v, r, e1, h1, h2⟩ => ⟨v, r, e1, h1.same e, h2.same e⟩

def GE (X : Cx) (H0 : Hp) (Γ : List AV) (e : Expr) (d : D) : Prop := ∀ (σ : L2.St) (H : Hp) (Q : VK), Fm X.K H0 σ Γ H → (∀ v H', Same H H' → Rp X.K H' d v → Q v H') → ER X e σ H Q
def GT (X : Cx) (H0 : Hp) (Γ : List AV) (e : Expr) (b : Bool) : Prop := ∀ (σ : L2.St) (H : Hp) (Q : Bool → Hp → Prop), Fm X.K H0 σ Γ H → (∀ H', Same H H' → Q b H') → TR X e σ H Q
def GW (X : Cx) (H0 : Hp) (Γ : List AV) (e : Expr) (b : Bool) : Prop := ∀ (σ : L2.St) (H : Hp) (Q : Bool → Hp → Prop), Fm X.K H0 σ Γ H → (∀ H', Same H H' → Q b H') → WR X e σ H Q
def GA (X : Cx) (H0 : Hp) (Γ : List AV) (es : List Expr) (as : List AV) : Prop := ∀ (σ : L2.St) (H : Hp) (Q : List V → Hp → Prop), Fm X.K H0 σ Γ H → (∀ vs H', Same H H' → ArgsOk X.K H' as vs → Q vs H') → AR X es σ H Q
/-- an expression that is told by what it stands for: data, a list that is read -/
def GV (X : Cx) (H0 : Hp) (Γ : List AV) (e : Expr) (a : AV) : Prop := ∀ (σ : L2.St) (H : Hp) (Q : VK), Fm X.K H0 σ Γ H → (∀ v H', Same H H' → ArgOk X.K H' a v → Q v H') → ER X e σ H Q
/-- a new list -/
def GL (X : Cx) (H0 : Hp) (Γ : List AV) (e : Expr) (xs : List D) : Prop := ∀ (σ : L2.St) (H : Hp) (Q : VK), Fm X.K H0 σ Γ H → (∀ l vs H', H l = none → Same H H' → H' l = some (.lst vs) → RpAll X.K H' xs vs → Q (.ref l) H') → ER X e σ H Q
/-- a slice's part -/
def GO (X : Cx) (H0 : Hp) (Γ : List AV) (e : Option Expr) (o : Option Int) : Prop := match e with
  | none => o = none
  | some e => ∃ i, o = some i ∧ GE X H0 Γ e (.int i)
/-- a two-place operation by values, over data -/
def R2D (K : PySem.W.Frag) (r : R2) (x y : AV) (z : D) : Prop := ∀ (H : Hp) (v u : V) (Q : VK), ArgOk K H x v → ArgOk K H y u → (∀ w H', Same H H' → Rp K H' z w → Q w H') → r v u H Q
section
variable {X : Cx} {H0 : Hp} {Γ : List AV} {a b c e : Expr} {es : List Expr} {pos : Pos} {x y z d : D} {xs ys : List D} {p q r : AV}
theorem GE.val (h : GE X H0 Γ e d) : GV X H0 Γ e (.d d) := h
theorem GV.exp (h : GV X H0 Γ e (.d d)) : GE X H0 Γ e d := h
theorem GL.rd (h : GL X H0 Γ e xs) : GV X H0 Γ e (.bw xs) := fun σ H Q F q => h σ H Q F fun l vs H' _ e hl hr => q _ H' e ⟨l, vs, rfl, SqL.of hl, hr⟩
theorem gv_var (i : Nat) {n : Str} {pos : Pos} (h : Γ[i]? = some p) (hp : p ≠ .no) (hN : X.N[i]? = some n := by rfl) (hv : Vis X.env.scope n := by first | exact Or.inl rfl | exact Or.inr (Or.inl rfl) | exact Or.inr (Or.inr rfl)) (hd : (n == ("__debug__" : Str)) = false := by decide) (hcd : (n == ("__classdict__" : Str)) = false := by decide) : GV X H0 Γ (.Name n pos) p := fun σ H Q F k => by
  obtain ⟨o, e1, e2⟩ := F.at_ i p h
  cases p with
  | no => exact absurd rfl hp
  | d x => obtain ⟨v, rfl, r⟩ := e2; exact er_of (pe_var hN hv hd hcd) ⟨v, e1, k v H (Same.refl H) r⟩
  | bw xs => obtain ⟨l, vs, rfl, s, r⟩ := e2; exact er_of (pe_var hN hv hd hcd) ⟨_, e1, k _ H (Same.refl H) ⟨l, vs, rfl, F.ex.seq s, r⟩⟩
  | own xs => obtain ⟨l, vs, rfl, _, s, r⟩ := e2; exact er_of (pe_var hN hv hd hcd) ⟨_, e1, k _ H (Same.refl H) ⟨l, vs, rfl, SqL.of s, r⟩⟩
  | v a =>
    have eo : o = some a := e2
    subst eo
    exact er_of (pe_var hN hv hd hcd) ⟨_, e1, k _ H (Same.refl H) rfl⟩
theorem ge_var (i : Nat) {n : Str} {pos : Pos} (h : Γ[i]? = some (.d x) := by rfl) (hN : X.N[i]? = some n := by rfl) (hv : Vis X.env.scope n := by first | exact Or.inl rfl | exact Or.inr (Or.inl rfl) | exact Or.inr (Or.inr rfl)) (hd : (n == ("__debug__" : Str)) = false := by decide) (hcd : (n == ("__classdict__" : Str)) = false := by decide) : GE X H0 Γ (.Name n pos) x := gv_var i h (fun q => by cases q) hN hv hd hcd
theorem gb_var (i : Nat) {n : Str} {pos : Pos} (h : Γ[i]? = some (.bw xs) := by rfl) (hN : X.N[i]? = some n := by rfl) (hv : Vis X.env.scope n := by first | exact Or.inl rfl | exact Or.inr (Or.inl rfl) | exact Or.inr (Or.inr rfl)) (hd : (n == ("__debug__" : Str)) = false := by decide) (hcd : (n == ("__classdict__" : Str)) = false := by decide) : GV X H0 Γ (.Name n pos) (.bw xs) := gv_var i h (fun q => by cases q) hN hv hd hcd
theorem go_var (i : Nat) {n : Str} {pos : Pos} (h : Γ[i]? = some (.own xs) := by rfl) (hN : X.N[i]? = some n := by rfl) (hv : Vis X.env.scope n := by first | exact Or.inl rfl | exact Or.inr (Or.inl rfl) | exact Or.inr (Or.inr rfl)) (hd : (n == ("__debug__" : Str)) = false := by decide) (hcd : (n == ("__classdict__" : Str)) = false := by decide) : GV X H0 Γ (.Name n pos) (.bw xs) := fun σ H Q F k => gv_var (p := .own xs) i h (fun q => by cases q) hN hv hd hcd σ H Q F k
theorem ge_int {i : Int} {j : Nat} : GE X H0 Γ (.Constant (.int i) j pos) (.int i) := fun σ H Q F k => er_of pe_int (k _ H (Same.refl H) rfl)
theorem ge_bl {i : Bool} {j : Nat} : GE X H0 Γ (.Constant (.bool i) j pos) (.bl i) := fun σ H Q F k => er_of pe_bl (k _ H (Same.refl H) rfl)
theorem ge_non {j : Nat} : GE X H0 Γ (.Constant .none j pos) .non := fun σ H Q F k => er_of pe_non (k _ H (Same.refl H) rfl)
theorem ge_str {i : Str} {j : Nat} : GE X H0 Γ (.Constant (.str i) j pos) (.str i) := fun σ H Q F k => er_of pe_str (k _ H (Same.refl H) rfl)
theorem ge_glob {n : Str} {i : Int} (hm : ∃ t, X.mg n = some (.int i t)) (hg : Gl X n := by rfl) (hd : (n == ("__debug__" : Str)) = false := by decide) : GE X H0 Γ (.Name n pos) (.int i) := fun σ H Q F k => by
  obtain ⟨t, e⟩ := hm
  exact er_of (pe_glob (v := .int i) hg e ⟨t, rfl⟩ hd) (k _ H (Same.refl H) rfl)
theorem ga_nil : GA X H0 Γ [] [] := fun σ H Q F k => ar_of pa_nil (k [] H (Same.refl H) rfl)
theorem ga_cons {as : List AV} (h : GV X H0 Γ e p) (hr : GA X H0 Γ es as) (hs : starEach (e :: es) X.env = (false, eval e X.env) :: starEach es X.env := by rfl) : GA X H0 Γ (e :: es) (p :: as) := fun σ H Q F k => by
  refine ar_of (pa_cons pe_self pa_self hs) ?_
  refine h σ H _ F fun v H1 e1 r1 => ?_
  refine hr σ H1 _ (F.same e1) fun vs H2 e2 r2 => ?_
  exact k _ H2 (e1.trans e2) ⟨v, vs, rfl, r1.same e2, r2⟩
theorem argsOk_rp {K : PySem.W.Frag} {H : Hp} : ∀ {ds : List D} {vs : List V}, ArgsOk K H (ds.map AV.d) vs → RpAll K H ds vs
  | [], _, h => h
  | _ :: _, _, ⟨v, r, e, h1, h2⟩ => ⟨v, r, e, h1, argsOk_rp h2⟩
theorem ge_tup {x1 : Nat} {ds : List D} {as : List AV} (h : GA X H0 Γ es as) (he : as = ds.map AV.d := by rfl) (hl : ds.length ≤ 1000 := by exact Nat.le_of_ble_eq_true rfl) : GE X H0 Γ (.Tuple es x1 pos) (.tup ds) := fun σ H Q F k => by
  subst he
  refine er_of (pe_tup pa_self) ?_
  refine h σ H _ F fun vs H1 e1 r1 => ?_
  have r2 := argsOk_rp r1
  refine ⟨by rw [r2.length]; exact Nat.le_of_lt (small1000 hl), fun t ht => ?_⟩
  have e2 : Same H1 (upd H1 t (.tup vs)) := fun b o q => by rw [upd_ne (ne_of_none q ht)]; exact q
  exact k _ _ (e1.trans e2) ⟨t, vs, rfl, SqT.of upd_same, r2.mono (Same.tup e2)⟩
theorem gl_lst {ds : List D} {as : List AV} (h : GA X H0 Γ es as) (he : as = ds.map AV.d := by rfl) (hl : ds.length ≤ 1000 := by exact Nat.le_of_ble_eq_true rfl) : GL X H0 Γ (.List es pos) ds := fun σ H Q F k => by
  subst he
  refine er_of (pe_lst pa_self) ?_
  refine h σ H _ F fun vs H1 e1 r1 => ?_
  have r2 := argsOk_rp r1
  refine ⟨by rw [r2.length]; exact Nat.le_of_lt (small1000 hl), fun t ht => ?_⟩
  have e2 : Same H1 (upd H1 t (.lst vs)) := fun b o q => by rw [upd_ne (ne_of_none q ht)]; exact q
  exact k _ _ _ (e1.free ht) (e1.trans e2) upd_same (r2.mono (Same.tup e2))
/-! operators -/
theorem ge_op {op : Operator} {r : R2} (ho : OpR X (binaryOp op) r) (hr : R2D X.K r p q z) (ha : GV X H0 Γ a p) (hb : GV X H0 Γ b q) : GE X H0 Γ (.BinOp a op b pos) z := fun σ H Q F k => by
  refine er_of (pe_op ho pe_self pe_self) ?_
  refine ha σ H _ F fun v H1 e1 r1 => ?_
  refine hb σ H1 _ (F.same e1) fun u H2 e2 r2 => ?_
  exact hr H2 v u Q (r1.same e2) r2 fun w H3 e3 r3 => k w H3 (e1.trans (e2.trans e3)) r3
theorem ge_cmp {op : CmpOp} {r : R2} (ho : OpR X (compareOp op) r) (hr : R2D X.K r p q z) (ha : GV X H0 Γ a p) (hb : GV X H0 Γ b q) (hm : behindInMarks op b = false := by first | exact nomark _ | rfl) : GE X H0 Γ (.Compare a [op] [b] pos) z := fun σ H Q F k => by
  refine er_of (pe_cmpR ho pe_self pe_self hm) ?_
  refine ha σ H _ F fun v H1 e1 r1 => ?_
  refine hb σ H1 _ (F.same e1) fun u H2 e2 r2 => ?_
  exact hr H2 v u Q (r1.same e2) r2 fun w H3 e3 r3 => k w H3 (e1.trans (e2.trans e3)) r3
theorem gt_cmp {op : CmpOp} {r : R2} {k0 : Bool} (ho : OpR X (compareOp op) r) (hr : R2D X.K r p q (.bl k0)) (ha : GV X H0 Γ a p) (hb : GV X H0 Γ b q) (hm : behindInMarks op b = false := by first | exact nomark _ | rfl) : GT X H0 Γ (.Compare a [op] [b] pos) k0 := fun σ H Q F k => by
  refine tr_of (pt_cmpR ho pe_self pe_self hm) ?_
  refine ha σ H _ F fun v H1 e1 r1 => ?_
  refine hb σ H1 _ (F.same e1) fun u H2 e2 r2 => ?_
  exact hr H2 v u _ (r1.same e2) r2 fun w H3 e3 r3 => ⟨k0, r3, k H3 (e1.trans (e2.trans e3))⟩
theorem ge_chain {op op' : CmpOp} {r r' : R2} {p' : AV} {k1 k2 : Bool} (ho : OpR X (compareOp op) r) (ho' : OpR X (compareOp op') r') (hr : R2D X.K r p q (.bl k1)) (hr' : R2D X.K r' q p' (.bl k2)) (ha : GV X H0 Γ a p) (hb : GV X H0 Γ b q) (hc : GV X H0 Γ c p')
    (hm : lastMarks [op, op'] [b, c] = false := by with_unfolding_all rfl) : GE X H0 Γ (.Compare a [op, op'] [b, c] pos) (.bl (k1 && k2)) := fun σ H Q F k => by
  refine er_of (pe_chain ho ho' pe_self pe_self pe_self hm) ?_
  refine ha σ H _ F fun v H1 e1 r1 => ?_
  refine hb σ H1 _ (F.same e1) fun u H2 e2 r2 => ?_
  refine hr H2 v u _ (r1.same e2) r2 fun w H3 e3 r3 => ⟨k1, r3, ?_⟩
  cases k1 with
  | false => exact k _ H3 (e1.trans (e2.trans e3)) rfl
  | true =>
    refine hc σ H3 _ (F.same (e1.trans (e2.trans e3))) fun t H4 e4 r4 => ?_
    exact hr' H4 u t Q (r2.same (e3.trans e4)) r4 fun w' H5 e5 r5 => k w' H5 (e1.trans (e2.trans (e3.trans (e4.trans e5)))) (by simpa using r5)
theorem gt_chain {op op' : CmpOp} {r r' : R2} {p' : AV} {k1 k2 : Bool} (ho : OpR X (compareOp op) r) (ho' : OpR X (compareOp op') r') (hr : R2D X.K r p q (.bl k1)) (hr' : R2D X.K r' q p' (.bl k2)) (ha : GV X H0 Γ a p) (hb : GV X H0 Γ b q) (hc : GV X H0 Γ c p')
    (hm : lastMarks [op, op'] [b, c] = false := by with_unfolding_all rfl) : GT X H0 Γ (.Compare a [op, op'] [b, c] pos) (k1 && k2) := fun σ H Q F k => by
  refine tr_of (pt_chain ho ho' pe_self pe_self pe_self hm) ?_
  refine ha σ H _ F fun v H1 e1 r1 => ?_
  refine hb σ H1 _ (F.same e1) fun u H2 e2 r2 => ?_
  refine hr H2 v u _ (r1.same e2) r2 fun w H3 e3 r3 => ⟨k1, r3, ?_⟩
  cases k1 with
  | false => exact ⟨false, rfl, k H3 (e1.trans (e2.trans e3))⟩
  | true =>
    refine hc σ H3 _ (F.same (e1.trans (e2.trans e3))) fun t H4 e4 r4 => ?_
    refine hr' H4 u t _ (r2.same (e3.trans e4)) r4 fun w' H5 e5 r5 => ⟨k2, r5, ?_⟩
    rw [Bool.true_and] at k
    exact k H5 (e1.trans (e2.trans (e3.trans (e4.trans e5))))
/-- an expression that gives True or False, as a test -/
theorem gt_val {k0 : Bool} (h : GE X H0 Γ e (.bl k0)) (he : ∀ whole, isTrue e X.env whole = (do let v ← whole; standAt e.pos; holding [v] (truthy v)) := by intro _; rfl) : GT X H0 Γ e k0 := fun σ H Q F k => by
  refine tr_of (pt_val pe_self he) ?_
  exact h σ H _ F fun v H' e' r => ⟨k0, r, k H' e'⟩
theorem gt_not {k0 : Bool} (h : GT X H0 Γ e k0) : GT X H0 Γ (.UnaryOp .Not e pos) (!k0) := fun σ H Q F k => tr_of (pt_not pt_self) (h σ H _ F fun H' e' => k H' e')
theorem gw_and1 {k0 : Bool} (h : GT X H0 Γ e k0) : GW X H0 Γ (.BoolOp .And [e] pos) k0 := fun σ H Q F k => wr_of (pw_and1 pt_self) (h σ H _ F fun H' e' => k H' e')
theorem gw_or1 {k0 : Bool} (h : GT X H0 Γ e k0) : GW X H0 Γ (.BoolOp .Or [e] pos) k0 := fun σ H Q F k => wr_of (pw_or1 pt_self) (h σ H _ F fun H' e' => k H' e')
theorem gw_and {k1 k2 : Bool} (h : GT X H0 Γ a k1) (hr : k1 = true → GW X H0 Γ (.BoolOp .And (b :: es) pos) k2) : GW X H0 Γ (.BoolOp .And (a :: b :: es) pos) (k1 && k2) := fun σ H Q F k => by
  refine wr_of (pw_and pt_self pw_self) ?_
  refine h σ H _ F fun H1 e1 => ?_
  cases k1 with
  | false => exact k H1 e1
  | true => exact hr rfl σ H1 _ (F.same e1) fun H2 e2 => (by rw [Bool.true_and] at k; exact k H2 (e1.trans e2))
theorem gw_or {k1 k2 : Bool} (h : GT X H0 Γ a k1) (hr : k1 = false → GW X H0 Γ (.BoolOp .Or (b :: es) pos) k2) : GW X H0 Γ (.BoolOp .Or (a :: b :: es) pos) (k1 || k2) := fun σ H Q F k => by
  refine wr_of (pw_or pt_self pw_self) ?_
  refine h σ H _ F fun H1 e1 => ?_
  cases k1 with
  | true => exact k H1 e1
  | false => exact hr rfl σ H1 _ (F.same e1) fun H2 e2 => (by rw [Bool.false_or] at k; exact k H2 (e1.trans e2))
theorem GW.t {k0 : Bool} (h : GW X H0 Γ e k0) : GT X H0 Γ e k0 := fun σ H Q F k => by
  have w := h σ H Q F k
  exact fun pins s I => w _ pins s I
/-- and, or as values -/
theorem ge_one {op : BoolOp} (h : GE X H0 Γ a d) : GE X H0 Γ (.BoolOp op [a] pos) d := fun σ H Q F k => er_of (pe_one pe_self) (h σ H _ F k)
theorem ge_and {k1 k2 : Bool} (h : GE X H0 Γ a (.bl k1)) (hr : k1 = true → GE X H0 Γ (.BoolOp .And (b :: es) pos) (.bl k2)) : GE X H0 Γ (.BoolOp .And (a :: b :: es) pos) (.bl (k1 && k2)) := fun σ H Q F k => by
  refine er_of (pe_and pe_self pe_self) ?_
  refine h σ H _ F fun v H1 e1 r1 => ⟨k1, r1, ?_⟩
  cases k1 with
  | false => exact k _ H1 e1 rfl
  | true => exact hr rfl σ H1 _ (F.same e1) fun w H2 e2 r2 => k w H2 (e1.trans e2) (by simpa using r2)
theorem ge_or {k1 k2 : Bool} (h : GE X H0 Γ a (.bl k1)) (hr : k1 = false → GE X H0 Γ (.BoolOp .Or (b :: es) pos) (.bl k2)) : GE X H0 Γ (.BoolOp .Or (a :: b :: es) pos) (.bl (k1 || k2)) := fun σ H Q F k => by
  refine er_of (pe_or pe_self pe_self) ?_
  refine h σ H _ F fun v H1 e1 r1 => ⟨k1, r1, ?_⟩
  cases k1 with
  | true => exact k _ H1 e1 rfl
  | false => exact hr rfl σ H1 _ (F.same e1) fun w H2 e2 r2 => k w H2 (e1.trans e2) (by simpa using r2)
theorem ge_not {k0 : Bool} (h : GE X H0 Γ a (.bl k0)) : GE X H0 Γ (.UnaryOp .Not a pos) (.bl (!k0)) := fun σ H Q F k => er_of (pe_not pe_self) (h σ H _ F fun v H1 e1 r1 => ⟨k0, r1, k _ H1 e1 rfl⟩)
theorem gv_if {k0 : Bool} (h : GT X H0 Γ c k0) (h1 : k0 = true → GV X H0 Γ a p) (h2 : k0 = false → GV X H0 Γ b p) : GV X H0 Γ (.IfExp c a b pos) p := fun σ H Q F k => by
  refine er_of (pe_ifExp pt_self pe_self pe_self) ?_
  refine h σ H _ F fun H1 e1 => ?_
  cases k0 with
  | true => exact h1 rfl σ H1 _ (F.same e1) fun v H2 e2 r => k v H2 (e1.trans e2) r
  | false => exact h2 rfl σ H1 _ (F.same e1) fun v H2 e2 r => k v H2 (e1.trans e2) r
end

/-! ### operations over data -/
section
variable {K : PySem.W.Frag} {X : Cx} {x y : D} {xs ys : List D} {i j : Int}
theorem d_int0 {g : Int → Int → V} {z : D} (hz : ∀ H, Rp K H z (g i j)) : R2D K (rI0 g) (.d (.int i)) (.d (.int j)) z := fun H v u Q h1 h2 k => by
  cases h1; cases h2
  exact ⟨i, j, rfl, rfl, k _ H (Same.refl H) (hz H)⟩
theorem d_int {C : Int → Int → Prop} {g : Int → Int → V} {z : D} (hc : C i j) (hz : ∀ H, Rp K H z (g i j)) : R2D K (rI C g) (.d (.int i)) (.d (.int j)) z := fun H v u Q h1 h2 k => by
  cases h1; cases h2
  exact ⟨i, j, rfl, rfl, hc, k _ H (Same.refl H) (hz H)⟩
theorem d_eq (hx : Sh x) (hy : Sh y) : R2D K (rEqD K) (.d x) (.d y) (.bl (D.eqv x y)) := fun H v u Q h1 h2 k => by
  refine ⟨_, _, Rp.dp h1, Rp.dp h2, hx, hy, ?_⟩
  rw [eqv_data]
  exact k _ H (Same.refl H) rfl
theorem d_ne (hx : Sh x) (hy : Sh y) : R2D K (rNeD K) (.d x) (.d y) (.bl (!D.eqv x y)) := fun H v u Q h1 h2 k => by
  refine ⟨_, _, Rp.dp h1, Rp.dp h2, hx, hy, ?_⟩
  rw [eqv_data]
  exact k _ H (Same.refl H) rfl
/-- lists of data -/
theorem shL {xs : List D} (h : Sh (.tup xs)) : SeqAt.shaped (.list (D.datas xs)) = true := by
  have h' : SeqAt.shaped (.tuple (D.datas xs)) = true := h
  unfold SeqAt.shaped at h' ⊢
  simp only [PyData.canLay0, PyData.depth] at h' ⊢
  exact h'
theorem d_eqL (hx : Sh (.tup xs)) (hy : Sh (.tup ys)) : R2D K (rEqD K) (.bw xs) (.bw ys) (.bl (D.eqv (.tup xs) (.tup ys))) := fun H v u Q ⟨l, vs, e1, s1, r1⟩ ⟨m, ws, e2, s2, r2⟩ k => by
  subst e1; subst e2
  refine ⟨.list (D.datas xs), .list (D.datas ys), .lst s1 (RpAll.dp r1), .lst s2 (RpAll.dp r2), shL hx, shL hy, ?_⟩
  have e : PyData.eqv (.list (D.datas xs)) (.list (D.datas ys)) = D.eqv (.tup xs) (.tup ys) := by
    unfold D.eqv
    rw [D.key, D.key, NestedKey.beq, PyData.eqv]
    exact eqvAll_data xs ys
  rw [e]
  exact k _ H (Same.refl H) rfl
theorem d_neL (hx : Sh (.tup xs)) (hy : Sh (.tup ys)) : R2D K (rNeD K) (.bw xs) (.bw ys) (.bl (!D.eqv (.tup xs) (.tup ys))) := fun H v u Q ⟨l, vs, e1, s1, r1⟩ ⟨m, ws, e2, s2, r2⟩ k => by
  subst e1; subst e2
  refine ⟨.list (D.datas xs), .list (D.datas ys), .lst s1 (RpAll.dp r1), .lst s2 (RpAll.dp r2), shL hx, shL hy, ?_⟩
  have e : PyData.eqv (.list (D.datas xs)) (.list (D.datas ys)) = D.eqv (.tup xs) (.tup ys) := by
    unfold D.eqv
    rw [D.key, D.key, NestedKey.beq, PyData.eqv]
    exact eqvAll_data xs ys
  rw [e]
  exact k _ H (Same.refl H) rfl
theorem any_data (d : D) : ∀ ds : List D, (D.datas ds).any (fun z => PyData.eqv z d.data) = ds.any fun z => D.eqv z d
  | [] => rfl
  | e :: ds => by rw [D.datas, List.any_cons, List.any_cons, any_data d ds, eqv_data]; rfl
theorem d_inL (hx : Sh x) (hy : Sh (.tup ys)) : R2D K (rInD K) (.d x) (.bw ys) (.bl (ys.any fun z => D.eqv z x)) := fun H v u Q h1 ⟨m, ws, e2, s2, r2⟩ k => by
  subst e2
  refine ⟨x.data, D.datas ys, Rp.dp h1, .lst s2 (RpAll.dp r2), hx, shL hy, ?_⟩
  rw [any_data]
  exact k _ H (Same.refl H) rfl
theorem d_ninL (hx : Sh x) (hy : Sh (.tup ys)) : R2D K (rNotInD K) (.d x) (.bw ys) (.bl (!ys.any fun z => D.eqv z x)) := fun H v u Q h1 ⟨m, ws, e2, s2, r2⟩ k => by
  subst e2
  refine ⟨x.data, D.datas ys, Rp.dp h1, .lst s2 (RpAll.dp r2), hx, shL hy, ?_⟩
  rw [any_data]
  exact k _ H (Same.refl H) rfl
/-- x in a tuple of data -/
def rInT (K : PySem.W.Frag) : R2 := fun v u H Q => ∃ (x : D) (ys : List D), Rp K H x v ∧ Rp K H (.tup ys) u ∧ Sh x ∧ Sh (.tup ys) ∧ Q (.bl (ys.any fun z => D.eqv z x)) H
theorem room_in {A : Around} {d : PyData} {ds : List PyData} (h : SeqAt.shaped d = true) (hu : A.units + 65 < cLine) : A.units + 1 + min (PyData.depthAll ds) d.depth < cLine := by
  have h1 := SeqAt.depth_of_shaped h
  have h2 : min (PyData.depthAll ds) d.depth ≤ d.depth := Nat.min_le_right _ _
  omega
theorem op_inT (hu : X.A.units + 65 < cLine) : OpR X (compareOp .In) (rInT X.K) := by
  intro pins s σ H v u a b Q I r1 r2 h
  obtain ⟨x, ys, h1, h2, sx, sy, q⟩ := h
  obtain ⟨as, g1⟩ := Dp.reads I _ v a (Rp.dp h1) r1
  obtain ⟨bs, g2⟩ := Dp.reads I _ u b (Rp.dp h2) r2
  refine SeqAt.in_tuple_reads g2 g1 (SeqAt.canLay_of_shaped (shL sy)) (SeqAt.canLay_of_shaped sx) (room_in sx hu) ⟨.bl _, H, I, ?_, q⟩
  show Value.bool _ = Value.bool _
  rw [any_data]
theorem d_inT (hx : Sh x) (hy : Sh (.tup ys)) : R2D K (rInT K) (.d x) (.d (.tup ys)) (.bl (ys.any fun z => D.eqv z x)) := fun H v u Q h1 h2 k => ⟨x, ys, h1, h2, hx, hy, k _ H (Same.refl H) rfl⟩
theorem d_cat (hl : xs.length + ys.length ≤ 100000) : R2D K (rCatA K) (.d (.tup xs)) (.d (.tup ys)) (.tup (xs ++ ys)) := fun H v u Q ⟨a, vs, e1, s1, r1⟩ ⟨b, ws, e2, s2, r2⟩ k => by
  subst e1; subst e2
  have l1 := r1.length
  have l2 := r2.length
  refine ⟨a, b, vs, ws, rfl, rfl, s1, s2, by rw [l1, l2]; exact Nat.le_trans hl (by decide), fun e => ?_, fun n e => ?_, fun n1 n2 t ht => ?_⟩
  · subst e
    have ex : xs = [] := List.eq_nil_of_length_eq_zero l1.symm
    subst ex
    exact k _ H (Same.refl H) ⟨b, ws, rfl, s2, r2⟩
  · subst e
    have ey : ys = [] := List.eq_nil_of_length_eq_zero l2.symm
    subst ey
    rw [List.append_nil] at k
    exact k _ H (Same.refl H) ⟨a, vs, rfl, s1, r1⟩
  · have e2 : Same H (upd H t (.tup (vs ++ ws))) := fun b o q => by rw [upd_ne (ne_of_none q ht)]; exact q
    exact k _ _ e2 ⟨t, _, rfl, SqT.of upd_same, RpAll.append (r2.mono (Same.tup e2)) (r1.mono (Same.tup e2))⟩
theorem d_isN : R2D K (fun x y H Q => y = .non ∧ Q (.bl (decide (x = .non))) H) (.d x) (.d .non) (.bl (D.eqv x .non)) := fun H v u Q h1 h2 k => by
  cases h2
  refine ⟨rfl, k _ H (Same.refl H) ?_⟩
  cases x with
  | non => cases h1; rfl
  | bl b => cases h1; rfl
  | int i => cases h1; rfl
  | str i => cases h1; rfl
  | tup ds => obtain ⟨a, vs, rfl, _⟩ := h1; rfl
theorem d_notN : R2D K (fun x y H Q => y = .non ∧ Q (.bl (!decide (x = .non))) H) (.d x) (.d .non) (.bl (!D.eqv x .non)) := fun H v u Q h1 h2 k => by
  cases h2
  refine ⟨rfl, k _ H (Same.refl H) ?_⟩
  cases x with
  | non => cases h1; rfl
  | bl b => cases h1; rfl
  | int i => cases h1; rfl
  | str i => cases h1; rfl
  | tup ds => obtain ⟨a, vs, rfl, _⟩ := h1; rfl
/-- < of tuples of whole numbers -/
theorem d_ltT {ns ms : List Int} : R2D K (rLtT K) (.d (ti ns)) (.d (ti ms)) (.bl (HT.lexLt ns ms)) := fun H v u Q ⟨a, vs, e1, s1, r1⟩ ⟨b, ws, e2, s2, r2⟩ k => by
  subst e1; subst e2
  rw [RpAll.ints r1] at s1
  rw [RpAll.ints r2] at s2
  exact ⟨a, b, ns, ms, rfl, rfl, s1, s2, k _ H (Same.refl H) rfl⟩
end
end WB
namespace WB
open PySem PySem.Spec PyProof.Rows L2

/-! ### subscripts, slices -/
theorem atI_rp {K : PySem.W.Frag} {H : Hp} {ds : List D} {vs : List V} {i : Int} {d : D} (r : RpAll K H ds vs) (h : atI ds i = some d) : ∃ v, atI vs i = some v ∧ Rp K H d v := by
  unfold atI at h ⊢
  rw [r.length]
  cases e : ixN ds.length i with
  | none => rw [e] at h; cases h
  | some j =>
    rw [e] at h
    exact r.get (i := j) (d := d) h
def cutD (xs : List D) (lo hi : Option Int) : List D := (xs.drop (HT.sIx xs.length 0 lo)).take (HT.sIx xs.length xs.length hi - HT.sIx xs.length 0 lo)
theorem RpAll.cut {K : PySem.W.Frag} {H : Hp} {ds : List D} {vs : List V} (r : RpAll K H ds vs) (lo hi : Option Int) : RpAll K H (cutD ds lo hi) (cutV vs lo hi) := by
  unfold cutD cutV
  rw [r.length]
  exact (r.drop _).take _
/-- a slice's part -/
def GP (X : Cx) (H0 : Hp) (Γ : List AV) (e : Option Expr) (o : Option Int) : Prop := ∀ (σ : L2.St) (H : Hp) (Q : Option Int → Hp → Prop), Fm X.K H0 σ Γ H → (∀ H', Same H H' → Q o H') → ∀ (pins : List (Addr × Obj)) (s : Shared), Inv X pins σ H s →
    wpAny (model X.prog X.w) X.A (evalPart e X.env) (fun u s' => ∃ o H', Inv X pins σ H' s' ∧ IsPart u o ∧ Q o H') X.xe s
def PR (X : Cx) (e : Option Expr) : TO := fun σ H Q => ∀ (pins : List (Addr × Obj)) (s : Shared), Inv X pins σ H s → wpAny (model X.prog X.w) X.A (evalPart e X.env) (fun u s' => ∃ o H', Inv X pins σ H' s' ∧ IsPart u o ∧ Q o H') X.xe s
theorem po_self {X : Cx} {e : Option Expr} : PO X e (PR X e) := ⟨fun pins s _ _ _ I h => h pins s I⟩
section
variable {X : Cx} {H0 : Hp} {Γ : List AV} {a b c e : Expr} {es : List Expr} {pos p2 : Pos} {x y z d : D} {ds xs ys : List D} {p q r : AV} {lo hi : Option Expr} {l u : Option Int} {i : Int}
theorem gp_none : GP X H0 Γ none none := fun σ H Q F k pins s I => po_none.run pins s σ H Q I (k H (Same.refl H))
theorem gp_some (h : GE X H0 Γ e (.int i)) : GP X H0 Γ (some e) (some i) := fun σ H Q F k pins s I => (po_some pe_self).run pins s σ H Q I (h σ H _ F fun v H1 e1 r1 => ⟨i, r1, k H1 e1⟩)
theorem ge_ixT (ha : GE X H0 Γ a (.tup ds)) (hb : GE X H0 Γ b (.int i)) (h : atI ds i = some d := by rfl) (hs : PlainIx b := by exact fun _ _ => rfl) : GE X H0 Γ (.Subscript a b pos) d := fun σ H Q F k => by
  refine er_of (pe_ix ix_tup pe_self pe_self hs) ?_
  refine ha σ H _ F fun v H1 e1 ⟨t, vs, ev, s1, r1⟩ => ?_
  refine hb σ H1 _ (F.same e1) fun w H2 e2 r2 => ?_
  obtain ⟨g, g1, g2⟩ := atI_rp (r1.mono (Same.tup e2)) h
  subst ev
  exact ⟨t, vs, i, g, rfl, r2, Same.tup e2 _ _ s1, g1, k g H2 (e1.trans e2) g2⟩
theorem ge_ixL (ha : GV X H0 Γ a (.bw ds)) (hb : GE X H0 Γ b (.int i)) (h : atI ds i = some d := by rfl) (hs : PlainIx b := by exact fun _ _ => rfl) : GE X H0 Γ (.Subscript a b pos) d := fun σ H Q F k => by
  refine er_of (pe_ix ix_list pe_self pe_self hs) ?_
  refine ha σ H _ F fun v H1 e1 ⟨t, vs, ev, s1, r1⟩ => ?_
  refine hb σ H1 _ (F.same e1) fun w H2 e2 r2 => ?_
  obtain ⟨g, g1, g2⟩ := atI_rp (r1.mono (Same.tup e2)) h
  subst ev
  exact ⟨t, vs, i, g, rfl, r2, e2.seq s1, g1, k g H2 (e1.trans e2) g2⟩
theorem ge_slT (ha : GE X H0 Γ a (.tup ds)) (hl : GP X H0 Γ lo l) (hu : GP X H0 Γ hi u) : GE X H0 Γ (.Subscript a (.Slice lo hi none p2) pos) (.tup (cutD ds l u)) := fun σ H Q F k => by
  refine er_of (pe_slice sl_tupA pe_self po_self po_self) ?_
  refine ha σ H _ F fun v H1 e1 ⟨t, vs, ev, s1, r1⟩ => ?_
  refine hl σ H1 _ (F.same e1) fun H2 e2 => ?_
  refine hu σ H2 _ (F.same (e1.trans e2)) fun H3 e3 => ?_
  subst ev
  have s3 := Same.tup (e2.trans e3) _ _ s1
  have r3 := r1.mono (Same.tup (K := X.K) (e2.trans e3))
  refine ⟨t, vs, rfl, s3, fun w => ?_, fun n p hp => ?_⟩
  · refine k _ H3 (e1.trans (e2.trans e3)) ⟨t, cutV vs l u, rfl, ?_, r3.cut l u⟩
    have ec : cutV vs l u = vs := by
      unfold cutV
      rw [w.1, w.2]
      simp
    rw [ec]; exact s3
  · have e4 : Same H3 (upd H3 p (.tup (cutV vs l u))) := fun b o q => by rw [upd_ne (ne_of_none q hp)]; exact q
    exact k _ _ (e1.trans (e2.trans (e3.trans e4))) ⟨p, _, rfl, SqT.of upd_same, (r3.cut l u).mono (Same.tup e4)⟩
theorem gl_sl (ha : GV X H0 Γ a (.bw ds)) (hl : GP X H0 Γ lo l) (hu : GP X H0 Γ hi u) : GL X H0 Γ (.Subscript a (.Slice lo hi none p2) pos) (cutD ds l u) := fun σ H Q F k => by
  refine er_of (pe_slice sl_list pe_self po_self po_self) ?_
  refine ha σ H _ F fun v H1 e1 ⟨t, vs, ev, s1, r1⟩ => ?_
  refine hl σ H1 _ (F.same e1) fun H2 e2 => ?_
  refine hu σ H2 _ (F.same (e1.trans e2)) fun H3 e3 => ?_
  subst ev
  have r3 := r1.mono (Same.tup (K := X.K) (e2.trans e3))
  refine ⟨t, vs, rfl, (e2.trans e3).seq s1, fun p hp => ?_⟩
  have e4 : Same H3 (upd H3 p (.lst (cutV vs l u))) := fun b o q => by rw [upd_ne (ne_of_none q hp)]; exact q
  exact k p _ _ ((e1.trans (e2.trans e3)).free hp) (e1.trans (e2.trans (e3.trans e4))) upd_same ((r3.cut l u).mono (Same.tup e4))

/-! ### built-ins by values -/
def R1D (K : PySem.W.Frag) (r : List V → Hp → VK → Prop) (as : List AV) (z : D) : Prop := ∀ (H : Hp) (vs : List V) (Q : VK), ArgsOk K H as vs → (∀ w H', Same H H' → Rp K H' z w → Q w H') → r vs H Q
def R1L (K : PySem.W.Frag) (r : List V → Hp → VK → Prop) (as : List AV) (xs : List D) : Prop := ∀ (H : Hp) (vs : List V) (Q : VK), ArgsOk K H as vs → (∀ l ws H', H l = none → Same H H' → H' l = some (.lst ws) → RpAll K H' xs ws → Q (.ref l) H') → r vs H Q
variable {id T : String} {n : Str} {as : List AV} {rr : List V → Hp → VK → Prop} {np : Pos}
theorem ge_callB (hc : CallR X (.builtin id) rr) (hr : R1D X.K rr as z) (hm : X.mg n = none) (ha : GA X H0 Γ (e :: es) as) (hg : Gl X n := by rfl) (hv : bootBuiltins n = some (.builtin id) := by decide +kernel) (hn : n ≠ "__name__" := by decide) (hdb : (n == ("__debug__" : Str)) = false := by decide)
    (he : starEach (e :: es) X.env = (false, eval e X.env) :: starEach es X.env := by rfl) (hpl : (backTo pos (starEach es X.env)).any (·.1) = false := by rfl) : GE X H0 Γ (.Call (.Name n np) (e :: es) [] pos) z := fun σ H Q F k => by
  refine er_of (pe_callB hc hg hm hv pa_self hn hdb he hpl) ?_
  exact ha σ H _ F fun vs H1 e1 r1 => hr H1 vs Q r1 fun w H2 e2 r2 => k w H2 (e1.trans e2) r2
theorem ge_callTy (hc : CallR X (.type T) rr) (hr : R1D X.K rr as z) (hm : X.mg n = none) (ha : GA X H0 Γ (e :: es) as) (hg : Gl X n := by rfl) (hv : bootBuiltins n = some (.type T) := by decide +kernel) (hn : n ≠ "__name__" := by decide) (hdb : (n == ("__debug__" : Str)) = false := by decide)
    (he : starEach (e :: es) X.env = (false, eval e X.env) :: starEach es X.env := by rfl) (hpl : (backTo pos (starEach es X.env)).any (·.1) = false := by rfl) : GE X H0 Γ (.Call (.Name n np) (e :: es) [] pos) z := fun σ H Q F k => by
  refine er_of (pe_callTy hc hg hm hv pa_self hn hdb he hpl) ?_
  exact ha σ H _ F fun vs H1 e1 r1 => hr H1 vs Q r1 fun w H2 e2 r2 => k w H2 (e1.trans e2) r2
theorem gl_callB (hc : CallR X (.builtin id) rr) (hr : R1L X.K rr as xs) (hm : X.mg n = none) (ha : GA X H0 Γ (e :: es) as) (hg : Gl X n := by rfl) (hv : bootBuiltins n = some (.builtin id) := by decide +kernel) (hn : n ≠ "__name__" := by decide) (hdb : (n == ("__debug__" : Str)) = false := by decide)
    (he : starEach (e :: es) X.env = (false, eval e X.env) :: starEach es X.env := by rfl) (hpl : (backTo pos (starEach es X.env)).any (·.1) = false := by rfl) : GL X H0 Γ (.Call (.Name n np) (e :: es) [] pos) xs := fun σ H Q F k => by
  refine er_of (pe_callB hc hg hm hv pa_self hn hdb he hpl) ?_
  exact ha σ H _ F fun vs H1 e1 r1 => hr H1 vs Q r1 fun l ws H2 hl e2 h2 r2 => k l ws H2 (e1.free hl) (e1.trans e2) h2 r2
theorem gl_callTy (hc : CallR X (.type T) rr) (hr : R1L X.K rr as xs) (hm : X.mg n = none) (ha : GA X H0 Γ (e :: es) as) (hg : Gl X n := by rfl) (hv : bootBuiltins n = some (.type T) := by decide +kernel) (hn : n ≠ "__name__" := by decide) (hdb : (n == ("__debug__" : Str)) = false := by decide)
    (he : starEach (e :: es) X.env = (false, eval e X.env) :: starEach es X.env := by rfl) (hpl : (backTo pos (starEach es X.env)).any (·.1) = false := by rfl) : GL X H0 Γ (.Call (.Name n np) (e :: es) [] pos) xs := fun σ H Q F k => by
  refine er_of (pe_callTy hc hg hm hv pa_self hn hdb he hpl) ?_
  exact ha σ H _ F fun vs H1 e1 r1 => hr H1 vs Q r1 fun l ws H2 hl e2 h2 r2 => k l ws H2 (e1.free hl) (e1.trans e2) h2 r2
theorem ga1 (h : GV X H0 Γ e p) (hs : starEach [e] X.env = (false, eval e X.env) :: starEach [] X.env := by rfl) : GA X H0 Γ [e] [p] := ga_cons h ga_nil hs
theorem gac {ad : List AV} (h : GE X H0 Γ e d) (hr : GA X H0 Γ es ad) (hs : starEach (e :: es) X.env = (false, eval e X.env) :: starEach es X.env := by rfl) : GA X H0 Γ (e :: es) (.d d :: ad) := ga_cons h hr hs
theorem gac1 (h : GE X H0 Γ e d) (hs : starEach [e] X.env = (false, eval e X.env) :: starEach [] X.env := by rfl) : GA X H0 Γ [e] [.d d] := ga_cons h ga_nil hs
theorem ge_lenT (ha : GE X H0 Γ e (.tup ds)) (hm : X.mg "len" = none) (hg : Gl X "len" := by rfl) (he : starEach [e] X.env = (false, eval e X.env) :: starEach [] X.env := by rfl) (hpl : (backTo pos (starEach [] X.env)).any (·.1) = false := by rfl) : GE X H0 Γ (.Call (.Name "len" np) [e] [] pos) (.int ds.length) :=
  ge_callB (as := [.d (.tup ds)]) call_len_seq (fun H vs Q ⟨v, r, ev, ⟨t, ws, ew, s, rp⟩, er⟩ k => by
    subst ev; subst ew; cases er
    exact ⟨t, ws, rfl, .inr s, k _ H (Same.refl H) (by rw [rp.length]; rfl)⟩) hm (ga1 ha he) hg PySem.boot_len (by decide) (by decide) he hpl
theorem ge_lenL (ha : GV X H0 Γ e (.bw ds)) (hm : X.mg "len" = none) (hg : Gl X "len" := by rfl) (he : starEach [e] X.env = (false, eval e X.env) :: starEach [] X.env := by rfl) (hpl : (backTo pos (starEach [] X.env)).any (·.1) = false := by rfl) : GE X H0 Γ (.Call (.Name "len" np) [e] [] pos) (.int ds.length) :=
  ge_callB (as := [.bw ds]) call_len_seq (fun H vs Q ⟨v, r, ev, ⟨t, ws, ew, s, rp⟩, er⟩ k => by
    subst ev; subst ew; cases er
    exact ⟨t, ws, rfl, .inl s, k _ H (Same.refl H) (by rw [rp.length]; rfl)⟩) hm (ga1 ha he) hg PySem.boot_len (by decide) (by decide) he hpl
theorem boot_all : bootBuiltins "all" = some (.builtin "all") := by decide +kernel
theorem boot_sum : bootBuiltins "sum" = some (.builtin "sum") := by decide +kernel
theorem boot_tuple : bootBuiltins "tuple" = some (.type "tuple") := by decide +kernel
theorem boot_list : bootBuiltins "list" = some (.type "list") := by decide +kernel
theorem boot_isi : bootBuiltins "isinstance" = some (.builtin "isinstance") := by decide +kernel
theorem boot_int' : bootBuiltins "int" = some (.type "int") := by decide +kernel
theorem boot_bool' : bootBuiltins "bool" = some (.type "bool") := by decide +kernel
theorem boot_abs : bootBuiltins "abs" = some (.builtin "abs") := by decide +kernel
theorem boot_sorted : bootBuiltins "sorted" = some (.builtin "sorted") := by decide +kernel
theorem boot_set : bootBuiltins "set" = some (.type "set") := by decide +kernel
theorem boot_VE : bootBuiltins "ValueError" = some (.type "ValueError") := by decide +kernel
theorem ge_all {bs : List Bool} (ha : GV X H0 Γ e (.bw (bs.map D.bl))) (hm : X.mg "all" = none) (hc : X.calm = true) (hg : Gl X "all" := by rfl) (he : starEach [e] X.env = (false, eval e X.env) :: starEach [] X.env := by rfl) (hpl : (backTo pos (starEach [] X.env)).any (·.1) = false := by rfl) : GE X H0 Γ (.Call (.Name "all" np) [e] [] pos) (.bl (bs.all _root_.id)) :=
  ge_callB (as := [.bw (bs.map D.bl)]) (cr_all hc) (fun H vs Q ⟨v, r, ev, ⟨t, ws, ew, s, rp⟩, er⟩ k => by
    subst ev; subst ew; cases er
    rw [rp.bls] at s
    exact ⟨t, bs, rfl, s, k _ H (Same.refl H) rfl⟩) hm (ga1 ha he) hg boot_all (by decide) (by decide) he hpl
theorem ge_sum {ns : List Int} (ha : GV X H0 Γ e (.bw (ns.map D.int))) (hm : X.mg "sum" = none) (hc : X.calm = true) (hg : Gl X "sum" := by rfl) (he : starEach [e] X.env = (false, eval e X.env) :: starEach [] X.env := by rfl) (hpl : (backTo pos (starEach [] X.env)).any (·.1) = false := by rfl) : GE X H0 Γ (.Call (.Name "sum" np) [e] [] pos) (.int ns.sum) :=
  ge_callB (as := [.bw (ns.map D.int)]) (cr_sum hc) (fun H vs Q ⟨v, r, ev, ⟨t, ws, ew, s, rp⟩, er⟩ k => by
    subst ev; subst ew; cases er
    rw [rp.ints] at s
    exact ⟨t, ns, rfl, s, k _ H (Same.refl H) rfl⟩) hm (ga1 ha he) hg boot_sum (by decide) (by decide) he hpl
/-- tuple(a list) -/
theorem ge_tuple (ha : GV X H0 Γ e (.bw ds)) (hm : X.mg "tuple" = none) (hg : Gl X "tuple" := by rfl) (he : starEach [e] X.env = (false, eval e X.env) :: starEach [] X.env := by rfl) (hpl : (backTo pos (starEach [] X.env)).any (·.1) = false := by rfl) : GE X H0 Γ (.Call (.Name "tuple" np) [e] [] pos) (.tup ds) :=
  ge_callTy (as := [.bw ds]) call_tuple_of (fun H vs Q ⟨v, r, ev, ⟨t, ws, ew, s, rp⟩, er⟩ k => by
    subst ev; subst ew; cases er
    refine ⟨t, ws, rfl, .inl ⟨s, fun l hl => ?_⟩⟩
    have e4 : Same H (upd H l (.tup ws)) := fun b o q => by rw [upd_ne (ne_of_none q hl)]; exact q
    exact k _ _ e4 ⟨l, ws, rfl, SqT.of upd_same, rp.mono (Same.tup e4)⟩) hm (ga1 ha he) hg boot_tuple (by decide) (by decide) he hpl
/-- list(a list) -/
theorem gl_list (ha : GV X H0 Γ e (.bw ds)) (hm : X.mg "list" = none) (hg : Gl X "list" := by rfl) (he : starEach [e] X.env = (false, eval e X.env) :: starEach [] X.env := by rfl) (hpl : (backTo pos (starEach [] X.env)).any (·.1) = false := by rfl) : GL X H0 Γ (.Call (.Name "list" np) [e] [] pos) ds :=
  gl_callTy (as := [.bw ds]) call_list_of (fun H vs Q ⟨v, r, ev, ⟨t, ws, ew, s, rp⟩, er⟩ k => by
    subst ev; subst ew; cases er
    refine ⟨t, ws, rfl, .inl s, fun l hl => ?_⟩
    have e4 : Same H (upd H l (.lst ws)) := fun b o q => by rw [upd_ne (ne_of_none q hl)]; exact q
    exact k l ws _ hl e4 upd_same (rp.mono (Same.tup e4))) hm (ga1 ha he) hg boot_list (by decide) (by decide) he hpl
theorem ge_intb {k0 : Bool} (ha : GE X H0 Γ e (.bl k0)) (hm : X.mg "int" = none) (hg : Gl X "int" := by rfl) (he : starEach [e] X.env = (false, eval e X.env) :: starEach [] X.env := by rfl) (hpl : (backTo pos (starEach [] X.env)).any (·.1) = false := by rfl) : GE X H0 Γ (.Call (.Name "int" np) [e] [] pos) (.int (if k0 then 1 else 0)) :=
  ge_callTy (as := [.d (.bl k0)]) call_int1 (fun H vs Q ⟨v, r, ev, rv, er⟩ k => by
    subst ev; cases er; cases rv
    exact .inr ⟨k0, rfl, k _ H (Same.refl H) rfl⟩) hm (ga1 ha he) hg boot_int' (by decide) (by decide) he hpl
theorem ge_abs (ha : GE X H0 Γ e (.int i)) (hm : X.mg "abs" = none) (hg : Gl X "abs" := by rfl) (he : starEach [e] X.env = (false, eval e X.env) :: starEach [] X.env := by rfl) (hpl : (backTo pos (starEach [] X.env)).any (·.1) = false := by rfl) : GE X H0 Γ (.Call (.Name "abs" np) [e] [] pos) (.int (if i < 0 then -i else i)) :=
  ge_callB (as := [.d (.int i)]) call_abs (fun H vs Q ⟨v, r, ev, rv, er⟩ k => by
    subst ev; cases er; cases rv
    exact ⟨i, rfl, k _ H (Same.refl H) rfl⟩) hm (ga1 ha he) hg boot_abs (by decide) (by decide) he hpl
/-! isinstance -/
def tyOf : AV → String
  | .d .non => "NoneType"
  | .d (.bl _) => "bool"
  | .d (.int _) => "int"
  | .d (.str _) => "str"
  | .d (.tup _) => "tuple"
  | .bw _ => "list"
  | _ => "?"
theorem tyX_of {K : PySem.W.Frag} {H : Hp} {v : V} : ∀ {a : AV}, tyOf a ≠ "?" → ArgOk K H a v → TyX K H v (.type (tyOf a))
  | .d .non, _, h => by cases h; exact .base .non
  | .d (.bl _), _, h => by cases h; exact .base (.bl _)
  | .d (.int _), _, h => by cases h; exact .base (.int _)
  | .d (.str _), _, h => by cases h; exact .base (.str _)
  | .d (.tup _), _, ⟨t, vs, e, s, _⟩ => by
    subst e
    rcases s with (s | ⟨o, s⟩) | ⟨o, its, m, h1, h2, _⟩
    · exact .base (.tup s)
    · exact .fTuple s
    · exact .kTuple h1 h2
  | .bw _, _, ⟨t, vs, e, s, _⟩ => by
    subst e
    rcases s with (s | ⟨o, s⟩) | ⟨o, its, m, h1, h2, _⟩
    · exact .base (.lst s)
    · exact .base (.frz s)
    · exact .kList h1 h2
  | .no, n, _ => absurd rfl n
  | .own _, n, _ => absurd rfl n
  | .v _, n, _ => absurd rfl n
theorem gv_ty (hm : X.mg n = none) (hv : bootBuiltins n = some (.type T)) (hg : Gl X n := by rfl) (hn : n ≠ "__name__" := by decide) (hdb : (n == ("__debug__" : Str)) = false := by decide) : GV X H0 Γ (.Name n np) (.v (.ty T)) := fun σ H Q F k =>
  er_of (pe_bltn (v := .ty T) hg hm hv rfl hn hdb) (k _ H (Same.refl H) rfl)
theorem ge_isi {k0 : Bool} {tn : Str} {tp : Pos} (ha : GV X H0 Γ e p) (hm : X.mg "isinstance" = none) (hmt : X.mg tn = none) (hvt : bootBuiltins tn = some (.type T)) (hk : kitB (tyOf p) T = some k0) (hp : tyOf p ≠ "?" := by first | exact (fun q => by cases q) | decide) (hg : Gl X "isinstance" := by rfl) (hgt : Gl X tn := by rfl) (hnt : tn ≠ "__name__" := by decide) (hdt : (tn == ("__debug__" : Str)) = false := by decide)
    (he : starEach [e, .Name tn tp] X.env = (false, eval e X.env) :: starEach [.Name tn tp] X.env := by rfl) (he2 : starEach [.Name tn tp] X.env = (false, eval (.Name tn tp) X.env) :: starEach [] X.env := by rfl) (hpl : (backTo pos (starEach [.Name tn tp] X.env)).any (·.1) = false := by rfl) : GE X H0 Γ (.Call (.Name "isinstance" np) [e, .Name tn tp] [] pos) (.bl k0) :=
  ge_callB (as := [p, .v (.ty T)]) call_isi (fun H vs Q ⟨v, r, ev, rv, w, r', ew, rw', er⟩ k => by
    subst ev; subst ew; cases er; cases rw'
    exact ⟨v, .ty T, _, .type T, k0, rfl, .ty T, tyX_of hp rv, kit_ty hk, k _ H (Same.refl H) rfl⟩) hm (ga_cons ha (ga1 (gv_ty hmt hvt hgt hnt hdt) he2) he) hg boot_isi (by decide) (by decide) he hpl
end

/-! ### calls of defs -/
structure Cal (P : Program) (w : World) (K : PySem.W.Frag) (mg : Str → Option Value) (base : Heap) (x : Str) (ps : List Str) (k : Nat) (sp : Sp) : Prop where
  ex : ∃ f fd, FnOk P w K mg base CX0 k f fd ps sp ∧ mg x = some (.ref f) ∧ PySem.W.keepIn K (.ref f) = true ∧ Binds K fd ps []
section
variable {X : Cx} {H0 : Hp} {Γ : List AV} {a b c e : Expr} {es : List Expr} {pos np : Pos} {x y z d : D} {xs ys : List D} {p q r : AV} {n : Str} {ps : List Str} {k : Nat} {as : List AV} {dom : List AV → AV → Prop}
theorem ge_call (C : Cal X.prog X.w X.K X.mg X.base n ps k (spP X.K dom)) (hr : Room k X.A) (ha : GA X H0 Γ (e :: es) as) (hd : dom as (.d d)) (hg : Gl X n := by rfl) (hdb : (n == ("__debug__" : Str)) = false := by decide)
    (he : starEach (e :: es) X.env = (false, eval e X.env) :: starEach es X.env := by rfl) (hpl : (backTo pos (starEach es X.env)).any (·.1) = false := by rfl) : GE X H0 Γ (.Call (.Name n np) (e :: es) [] pos) d := fun σ H Q F kq => by
  obtain ⟨f, fd, G, hm, hk, hb⟩ := C.ex
  refine er_of (pe_call G hr hg hm hk hb .nil pass0 pa_self hdb he hpl) ?_
  refine ha σ H _ F fun vs H1 e1 r1 => ?_
  show spP X.K dom (vs ++ []) H1 Q E0
  rw [List.append_nil]
  exact ⟨as, .d d, r1, hd, fun v H2 e2 r2 => kq v H2 (e1.trans e2) r2⟩
theorem gl_call (C : Cal X.prog X.w X.K X.mg X.base n ps k (spP X.K dom)) (hr : Room k X.A) (ha : GA X H0 Γ (e :: es) as) (hd : dom as (.own xs)) (hg : Gl X n := by rfl) (hdb : (n == ("__debug__" : Str)) = false := by decide)
    (he : starEach (e :: es) X.env = (false, eval e X.env) :: starEach es X.env := by rfl) (hpl : (backTo pos (starEach es X.env)).any (·.1) = false := by rfl) : GL X H0 Γ (.Call (.Name n np) (e :: es) [] pos) xs := fun σ H Q F kq => by
  obtain ⟨f, fd, G, hm, hk, hb⟩ := C.ex
  refine er_of (pe_call G hr hg hm hk hb .nil pass0 pa_self hdb he hpl) ?_
  refine ha σ H _ F fun vs H1 e1 r1 => ?_
  show spP X.K dom (vs ++ []) H1 Q E0
  rw [List.append_nil]
  exact ⟨as, .own xs, r1, hd, fun v H2 e2 ⟨l, ws, ev, hl, h2, r2⟩ => by subst ev; exact kq l ws H2 (e1.free hl) (e1.trans e2) h2 r2⟩
end
end WB
namespace WB
open PySem PySem.Spec PyProof.Rows L2

/-! ### statements -/
structure Cok (X : Cx) (k : Nat) : Prop where
  hp : PassesOwn (model X.prog X.w) X.A X.env X.xe
  hc : X.calm = true
  nd : X.N.Nodup
  hr : Room k X.A
theorem Cok.mono {X : Cx} {j k : Nat} (C : Cok X k) (h : j ≤ k) : Cok X j := ⟨C.hp, C.hc, C.nd, C.hr.mono h⟩
theorem Cok.hu {X : Cx} {k : Nat} (C : Cok X k) : X.A.units + 65 < cLine := by have := C.hr.un; omega
theorem Cok.blk {X : Cx} {k : Nat} (C : Cok X k) {s : Shared} {H : Hp} {scope : Scope} {ce : Env} {fp : List Addr} : Cok (X.blk s H scope ce fp) k := ⟨PassesOwn.never, C.hc, C.nd, C.hr⟩
def GS (X : Cx) (H0 : Hp) (Γ : List AV) (sts : List Stmt) (E : Ends) : Prop := ∀ (σ : L2.St) (H : Hp), Fm X.K H0 σ Γ H → SR X sts E σ H
/-- what is wanted of the def's answer r, from the ground H0 -/
def RetOk (K : PySem.W.Frag) (H0 : Hp) (r : AV) (Q : VK) : Prop := ∀ v H', Same H0 H' → ResOk K H0 H' r v → Q v H'
theorem RetOk.up {K : PySem.W.Frag} {H0 H1 : Hp} {r : AV} {Q : VK} (h : RetOk K H0 r Q) (e : Same H0 H1) : RetOk K H1 r Q := fun v H' e1 r1 => by
  refine h v H' (e.trans e1) ?_
  cases r with
  | no => trivial
  | d x => exact r1
  | bw xs => exact r1
  | own xs => obtain ⟨l, vs, a, b, c⟩ := r1; exact ⟨l, vs, a, e.free b, c⟩
  | v x => exact r1
/-- the next statements from here -/
abbrev thenE (X : Cx) (sts : List Stmt) (E : Ends) : Ends := { E with nx := fun σ H => SR X sts E σ H }
section
variable {X : Cx} {H0 : Hp} {Γ : List AV} {a b c e : Expr} {es : List Expr} {pos p1 p2 : Pos} {x y z d : D} {ds xs ys : List D} {p q r : AV} {n : Str} {sts sa sb : List Stmt} {E : Ends} {k : Nat}
theorem gs_nil (h : ∀ σ H, Fm X.K H0 σ Γ H → E.nx σ H) : GS X H0 Γ [] E := fun σ H F => sr_nil (h σ H F)
theorem gs_end (h : GS X H0 Γ sts E) : GS X H0 Γ [] (thenE X sts E) := fun σ H F => sr_nil (h σ H F)
theorem gs_set (C : Cok X k) (i : Nat) (he : GE X H0 Γ e d) (h : GS X H0 (Γ.set i (.d d)) sts E) (hi : X.N[i]? = some n := by rfl) (hx : Loc X.env.scope n := by first | exact Or.inl rfl | exact Or.inr rfl) (hs : swapsWith e (some (.Name n p1)) pos.line X.env = pure false := by rfl)
    (hf : X.fn n = true ∨ X.env.scope.names.lookup n = some .local := by first | exact .inl rfl | exact .inr rfl) : GS X H0 Γ (.Assign [.Name n p1] e pos :: sts) E := fun σ H F => by
  refine sr_cons (s1_of (ps_set C.nd hi hx pe_self hs hf) ?_)
  exact he σ H _ F fun v H1 e1 r1 => h _ _ ((F.same e1).set_d r1)
theorem gs_setV (C : Cok X k) (i : Nat) {w : V} (he : GV X H0 Γ e (.v w)) (h : GS X H0 (Γ.set i (.v w)) sts E) (hi : X.N[i]? = some n := by rfl) (hx : Loc X.env.scope n := by first | exact Or.inl rfl | exact Or.inr rfl) (hs : swapsWith e (some (.Name n p1)) pos.line X.env = pure false := by rfl)
    (hf : X.fn n = true ∨ X.env.scope.names.lookup n = some .local := by first | exact .inl rfl | exact .inr rfl) : GS X H0 Γ (.Assign [.Name n p1] e pos :: sts) E := fun σ H F => by
  refine sr_cons (s1_of (ps_set C.nd hi hx pe_self hs hf) ?_)
  refine he σ H _ F fun v H1 e1 r1 => ?_
  have e2 : v = w := r1
  subst e2
  exact h _ _ (F.same e1).set_v
theorem gs_setL (C : Cok X k) (i : Nat) (he : GL X H0 Γ e xs) (h : GS X H0 (Γ.set i (.own xs)) sts E) (hi : X.N[i]? = some n := by rfl) (hx : Loc X.env.scope n := by first | exact Or.inl rfl | exact Or.inr rfl) (hs : swapsWith e (some (.Name n p1)) pos.line X.env = pure false := by rfl)
    (hf : X.fn n = true ∨ X.env.scope.names.lookup n = some .local := by first | exact .inl rfl | exact .inr rfl) : GS X H0 Γ (.Assign [.Name n p1] e pos :: sts) E := fun σ H F => by
  refine sr_cons (s1_of (ps_set C.nd hi hx pe_self hs hf) ?_)
  exact he σ H _ F fun l vs H1 hl e1 h1 r1 => h _ _ (F.set_own hl e1 h1 r1)
/-- a, b = e1, e2 with plain names -/
theorem gs_par (C : Cok X k) (i j : Nat) {n1 n2 : Str} {q1 q2 q3 q4 : Pos} {k1 k2 : Nat} (ha : GE X H0 Γ a x) (hb : GE X H0 Γ b y) (h : GS X H0 ((Γ.set i (.d x)).set j (.d y)) sts E) (hi : X.N[i]? = some n1 := by rfl) (hj : X.N[j]? = some n2 := by rfl) (hij : i ≠ j := by decide)
    (hx : X.env.scope.names.lookup n1 = some .local := by rfl) (hy : X.env.scope.names.lookup n2 = some .local := by rfl) (hsa : starEach [a, b] X.env = (false, eval a X.env) :: starEach [b] X.env := by rfl) (hsb : starEach [b] X.env = (false, eval b X.env) :: starEach [] X.env := by rfl)
    (hw : swappedStores [.Tuple [.Name n1 q1, .Name n2 q2] k1 q3] (.Tuple [a, b] k2 q4) X.env = pure (some [n1, n2]) := by rfl)
    (hs : swapsWithSole [.Tuple [.Name n1 q1, .Name n2 q2] k1 q3] (.Tuple [a, b] k2 q4) pos.line X.env = pure false := by rfl) :
    GS X H0 Γ (.Assign [.Tuple [.Name n1 q1, .Name n2 q2] k1 q3] (.Tuple [a, b] k2 q4) pos :: sts) E := fun σ H F => by
  refine sr_cons (s1_of (ps_par C.hc C.nd hi hj hij hx hy (pa_cons pe_self (pa_cons pe_self pa_nil hsb) hsa) hw hs) ?_)
  refine ha σ H _ F fun v H1 e1 r1 => ?_
  refine hb σ H1 _ (F.same e1) fun w H2 e2 r2 => ⟨v, w, rfl, ?_⟩
  exact h _ _ (((F.same (e1.trans e2)).set_d (r1.mono (Same.tup e2))).set_d r2)
theorem gs_par3 (C : Cok X k) (i j l : Nat) {n1 n2 n3 : Str} {q1 q2 q5 q3 q4 : Pos} {k1 k2 : Nat} (ha : GE X H0 Γ a x) (hb : GE X H0 Γ b y) (hcc : GE X H0 Γ c z) (h : GS X H0 (((Γ.set i (.d x)).set j (.d y)).set l (.d z)) sts E) (hi : X.N[i]? = some n1 := by rfl) (hj : X.N[j]? = some n2 := by rfl) (hl : X.N[l]? = some n3 := by rfl) (hij : i ≠ j := by decide) (hil : i ≠ l := by decide) (hjl : j ≠ l := by decide)
    (hx : X.env.scope.names.lookup n1 = some .local := by rfl) (hy : X.env.scope.names.lookup n2 = some .local := by rfl) (hz : X.env.scope.names.lookup n3 = some .local := by rfl) (hsa : starEach [a, b, c] X.env = (false, eval a X.env) :: starEach [b, c] X.env := by rfl) (hsb : starEach [b, c] X.env = (false, eval b X.env) :: starEach [c] X.env := by rfl) (hsc : starEach [c] X.env = (false, eval c X.env) :: starEach [] X.env := by rfl)
    (hw : swappedStores [.Tuple [.Name n1 q1, .Name n2 q2, .Name n3 q5] k1 q3] (.Tuple [a, b, c] k2 q4) X.env = pure (some [n1, n2, n3]) := by rfl)
    (hs : swapsWithSole [.Tuple [.Name n1 q1, .Name n2 q2, .Name n3 q5] k1 q3] (.Tuple [a, b, c] k2 q4) pos.line X.env = pure false := by rfl) :
    GS X H0 Γ (.Assign [.Tuple [.Name n1 q1, .Name n2 q2, .Name n3 q5] k1 q3] (.Tuple [a, b, c] k2 q4) pos :: sts) E := fun σ H F => by
  refine sr_cons (s1_of (ps_par3 C.hc C.nd hi hj hl hij hil hjl hx hy hz (pa_cons pe_self (pa_cons pe_self (pa_cons pe_self pa_nil hsc) hsb) hsa) hw hs) ?_)
  refine ha σ H _ F fun v H1 e1 r1 => ?_
  refine hb σ H1 _ (F.same e1) fun w H2 e2 r2 => ?_
  refine hcc σ H2 _ (F.same (e1.trans e2)) fun u H3 e3 r3 => ⟨v, w, u, rfl, ?_⟩
  exact h _ _ ((((F.same (e1.trans (e2.trans e3))).set_d (r1.mono (Same.tup (e2.trans e3)))).set_d (r2.mono (Same.tup e3))).set_d r3)
/-! targets -/
def TgOk (X : Cx) (tg : Expr) (js : List Nat) (d : D) (u : List AV → List AV) : Prop := ∀ (H0 : Hp) (Γ : List AV) (σ : L2.St) (H : Hp) (v : V) (Q : L2.St → Hp → Prop), Fm X.K H0 σ Γ H → Rp X.K H d v →
  (∀ σ', σ'.length = σ.length → (∀ vs : List Nat, (∀ j ∈ js, j ∈ vs) → wipe σ' vs = wipe σ vs) → Fm X.K H0 σ' (u Γ) H → Q σ' H) → GR X tg v σ H Q
def TgsR (X : Cx) (tgs : List Expr) : TGs := fun vs σ H Q => ∀ (pins : List (Addr × Obj)) (s : Shared) (us : List Value), Inv X pins σ H s → Vals vs us →
    wpAny (model X.prog X.w) X.A (assignInOrder ((assignEach tgs X.env).map (·.2)) us) (fun _ s' => ∃ σ' H', Inv X pins σ' H' s' ∧ Q σ' H') X.xe s
theorem pgs_self {tgs : List Expr} : PGs X tgs (TgsR X tgs) := ⟨fun pins s _ _ _ us _ I r h => h pins s us I r⟩
def TgsOk (X : Cx) (tgs : List Expr) (js : List Nat) (ds : List D) (u : List AV → List AV) : Prop := ∀ (H0 : Hp) (Γ : List AV) (σ : L2.St) (H : Hp) (vs : List V) (Q : L2.St → Hp → Prop), Fm X.K H0 σ Γ H → RpAll X.K H ds vs →
  (∀ σ', σ'.length = σ.length → (∀ vs : List Nat, (∀ j ∈ js, j ∈ vs) → wipe σ' vs = wipe σ vs) → Fm X.K H0 σ' (u Γ) H → Q σ' H) → TgsR X tgs vs σ H Q
theorem wipe_set {σ : L2.St} {i : Nat} {o : Option V} : ∀ {vs : List Nat}, i ∈ vs → wipe (σ.set i o) vs = wipe σ vs
  | [], h => by cases h
  | v :: vs, h => by
    unfold wipe
    by_cases hv : v = i
    · subst hv
      by_cases hm : v ∈ vs
      · rw [wipe_set hm]
      · have e : ∀ (vs : List Nat), v ∉ vs → wipe (σ.set v o) vs = (wipe σ vs).set v o := by
          intro vs
          induction vs with
          | nil => intro _; rfl
          | cons w vs ih =>
            intro hn
            unfold wipe
            rw [ih fun z => hn (List.mem_cons_of_mem _ z), List.set_comm _ _ (fun z => hn (by rw [z]; exact List.mem_cons_self))]
        rw [e vs hm, List.set_set]
    · rcases List.mem_cons.mp h with z | z
      · exact absurd z.symm hv
      · rw [wipe_set z]
theorem tg_name (C : Cok X k) (i : Nat) (hi : X.N[i]? = some n := by rfl) (hx : Loc X.env.scope n := by first | exact Or.inl rfl | exact Or.inr rfl) (hf : X.fn n = true ∨ X.env.scope.names.lookup n = some .local := by first | exact .inl rfl | exact .inr rfl) : TgOk X (.Name n p1) [i] d (fun Γ => Γ.set i (.d d)) := fun H0 Γ σ H v Q F r h =>
  gr_of (pg_name C.nd hi hx hf) (h _ (by rw [List.length_set]) (fun vs hv => wipe_set (hv i (by simp))) (F.set_d r))
theorem tgs_nil : TgsOk X [] [] [] (fun Γ => Γ) := fun H0 Γ σ H vs Q F r h pins s us I rv => by
  have e : vs = [] := r
  subst e
  exact pgs_nil.run pins s σ H [] us Q I rv ⟨rfl, h σ rfl (fun _ _ => rfl) F⟩
theorem tgs_cons {js1 js2 : List Nat} {u1 u2 : List AV → List AV} (h1 : TgOk X e js1 d u1) (h2 : TgsOk X es js2 ds u2) (hs : (assignEach (e :: es) X.env).map (·.2) = assign e X.env :: (assignEach es X.env).map (·.2) := by rfl) : TgsOk X (e :: es) (js1 ++ js2) (d :: ds) (fun Γ => u2 (u1 Γ)) := fun H0 Γ σ H vs Q F r h pins s us I rv => by
  obtain ⟨v, r', ev, ra, rb⟩ := r
  subst ev
  refine (pgs_cons pg_self pgs_self hs).run pins s σ H _ us Q I rv ⟨v, r', rfl, ?_⟩
  refine h1 H0 Γ σ H v _ F ra fun σ1 l1 w1 F1 => ?_
  refine h2 H0 (u1 Γ) σ1 H r' _ F1 rb fun σ2 l2 w2 F2 => ?_
  exact h σ2 (l2.trans l1) (fun vs hv => (w2 vs fun j hj => hv j (List.mem_append_right _ hj)).trans (w1 vs fun j hj => hv j (List.mem_append_left _ hj))) F2
theorem tg_tup (C : Cok X k) {js : List Nat} {u : List AV → List AV} {k1 : Nat} (h : TgsOk X es js ds u) (hn : (assignEach es X.env).length = ds.length := by rfl) (hst : (assignEach es X.env).findIdx? (·.1) = none := by rfl) : TgOk X (.Tuple es k1 p1) js (.tup ds) u := fun H0 Γ σ H v Q F r hq => by
  obtain ⟨t, vs, ev, s1, r1⟩ := r
  subst ev
  refine gr_of (pg_tup (n := ds.length) C.hc pgs_self hn hst) ⟨t, vs, rfl, s1, r1.length, ?_⟩
  exact h H0 Γ σ H vs Q F r1 hq
/-- target = data (a tuple unpacked) -/
theorem gs_unp (C : Cok X k) {tg : Expr} {js : List Nat} {u : List AV → List AV} (he : GE X H0 Γ e d) (ht : TgOk X tg js d u) (h : GS X H0 (u Γ) sts E) (hs : swapsWithSole [tg] e pos.line X.env = pure false := by rfl) (hw : swappedStores [tg] e X.env = pure none := by rfl)
    (h1 : (assignEach [tg] X.env).map (·.2) = [assign tg X.env] := by rfl) : GS X H0 Γ (.Assign [tg] e pos :: sts) E := fun σ H F => by
  refine sr_cons (s1_of (ps_asg pe_self pg_self hs hw h1) ?_)
  refine he σ H _ F fun v H1 e1 r1 => ?_
  exact ht H0 Γ σ H1 v _ (F.same e1) r1 fun σ' _ _ F' => h σ' H1 F'
/-! if, return, append -/
theorem gs_if {k0 : Bool} (hc : GT X H0 Γ c k0) (h1 : k0 = true → GS X H0 Γ sa (thenE X sts E)) (h2 : k0 = false → GS X H0 Γ sb (thenE X sts E)) : GS X H0 Γ (.If c sa sb pos :: sts) E := fun σ H F => by
  refine sr_cons (s1_of (ps_if pt_self pss_self pss_self) ?_)
  refine hc σ H _ F fun H1 e1 => ?_
  cases k0 with
  | true => exact h1 rfl σ H1 (F.same e1)
  | false => exact h2 rfl σ H1 (F.same e1)
theorem gs_when (hc : GT X H0 Γ c true) (h1 : GS X H0 Γ sa (thenE X sts E)) : GS X H0 Γ (.If c sa sb pos :: sts) E := gs_if hc (fun _ => h1) fun q => by cases q
theorem gs_unless (hc : GT X H0 Γ c false) (h1 : GS X H0 Γ sts E) : GS X H0 Γ (.If c sa [] pos :: sts) E := gs_if hc (fun q => by cases q) fun _ => gs_end h1
theorem gs_else (hc : GT X H0 Γ c false) (h1 : GS X H0 Γ sb (thenE X sts E)) : GS X H0 Γ (.If c sa sb pos :: sts) E := gs_if hc (fun q => by cases q) fun _ => h1
theorem gs_ret (he : GE X H0 Γ e d) (hq : RetOk X.K H0 (.d d) E.rt) : GS X H0 Γ (.Return (some e) pos :: sts) E := fun σ H F => by
  refine sr_cons (s1_of (ps_ret pe_self) ?_)
  exact he σ H _ F fun v H1 e1 r1 => hq v H1 (F.ex.trans e1) r1
theorem gs_retL (he : GL X H0 Γ e xs) (hq : RetOk X.K H0 (.own xs) E.rt) : GS X H0 Γ (.Return (some e) pos :: sts) E := fun σ H F => by
  refine sr_cons (s1_of (ps_ret pe_self) ?_)
  exact he σ H _ F fun l vs H1 hl e1 h1 r1 => hq _ H1 (F.ex.trans e1) ⟨l, vs, rfl, F.ex.free hl, h1, r1⟩
/-- return of one's own list -/
theorem gs_retO (i : Nat) (h : Γ[i]? = some (.own xs) := by rfl) (hq : RetOk X.K H0 (.own xs) E.rt) (hN : X.N[i]? = some n := by rfl) (hv : Vis X.env.scope n := by first | exact Or.inl rfl | exact Or.inr (Or.inl rfl) | exact Or.inr (Or.inr rfl)) (hd : (n == ("__debug__" : Str)) = false := by decide) (hcd : (n == ("__classdict__" : Str)) = false := by decide) : GS X H0 Γ (.Return (some (.Name n p1)) pos :: sts) E := fun σ H F => by
  refine sr_cons (s1_of (ps_ret (pe_var hN hv hd hcd)) ?_)
  obtain ⟨l, vs, e1, e0, e2, e3⟩ := F.own h
  exact ⟨_, e1, hq _ H F.ex ⟨l, vs, rfl, e0, e2, e3⟩⟩
theorem gs_append (i : Nat) {cpos : Pos} (he : GE X H0 Γ e d) (h : GS X H0 (Γ.set i (.own (xs ++ [d]))) sts E) (hl : xs.length < 100000) (hi : Γ[i]? = some (.own xs) := by rfl)
    (hpe : PE X (.Call (.Attribute (.Name n p1) "append" p2) [e] [] cpos) (tBM X.K "list" rAppend (tVar i) (tCons (fun σ H Q => ER X e σ H Q) tNil)) := by exact pe_bm PySem.F.plainAttrs_list PySem.F.slot_list_append PySem.F.type_list_append mt_append (pv _) (pa_cons pe_self pa_nil))
    (hsw : swapsWith (.Call (.Attribute (.Name n p1) "append" p2) [e] [] cpos) none pos.line X.env = pure false := by rfl) :
    GS X H0 Γ (.Expr (.Call (.Attribute (.Name n p1) "append" p2) [e] [] cpos) pos :: sts) E := fun σ H F => by
  refine sr_cons (s1_of (ps_expr hpe hsw) ?_)
  obtain ⟨l, vs, e1, e0, e2, e3⟩ := F.own hi
  refine ⟨_, e1, .inl ⟨rfl, vs, SqL.of e2⟩, ?_⟩
  refine he σ H _ F fun v H1 e4 r1 => ?_
  refine ⟨l, vs, v, rfl, rfl, e4 _ _ e2, by rw [e3.length]; exact Nat.lt_of_lt_of_le hl (by decide), ?_⟩
  exact h _ _ ((F.same e4).append hi e1 (e4 _ _ e2) r1)
end
end WB
namespace WB
open PySem PySem.Spec PyProof.Rows L2

/-! ### what is walked, told as data -/
structure ItOk (K : PySem.W.Frag) (Hb : Hp) (J : It) (els : List D) : Prop where
  go : ∀ (i : Nat) (H : Hp), i < els.length → Same Hb H → J.go i H
  stop : ∀ H : Hp, Same Hb H → J.stop els.length H
  yld : ∀ (i : Nat) (x : V) (H H' : Hp), i < els.length → Same Hb H → J.yld i H x H' → Same H H' ∧ ∃ d, els[i]? = some d ∧ Rp K H' d x
/-- addresses that a loop's body may change: no tuples, no list that is walked -/
def ExOk (H0 H : Hp) (σ : L2.St) (Γ : List AV) (Ex : Addr → Prop) : Prop := ∀ a, Ex a → (∃ o, H a = some o ∧ (∀ xs, o ≠ .tup xs) ∧ ∀ ob u, o ≠ .frz ob u) ∧ ∀ (i : Nat) (xs : List D), Γ[i]? = some (.bw xs) → σ[i]? = some (some (.ref a)) → H0 a = none
def GI (X : Cx) (H0 : Hp) (Γ : List AV) (tg iter : Expr) (els : List D) : Prop := ∃ wi : TI, PI X tg iter wi ∧ ∀ (σ : L2.St) (H : Hp) (R : It → Hp → Prop), Fm X.K H0 σ Γ H →
  (∀ J H1, Same H H1 → (∀ (Ex : Addr → Prop) (Hb : Hp), ExOk H0 H σ Γ Ex → Same Hb H1 → (∀ a o, H1 a = some o → ¬ Ex a → Hb a = some o) → ItOk X.K Hb J els) → R J H1) → wi σ H R
section
variable {K : PySem.W.Frag} {H0 H H1 Hb : Hp} {σ : L2.St} {Γ : List AV}
theorem ExOk.notTup {Ex : Addr → Prop} (x : ExOk H0 H σ Γ Ex) {a : Addr} {xs : List V} (e : Same H H1) (h : Rd H1 a (.tup xs)) : ¬ Ex a := fun h1 => by
  obtain ⟨⟨o, e1, n1, n2⟩, _⟩ := x a h1
  rcases h with h | ⟨ob, h⟩
  · have := e a o e1; rw [h] at this; exact n1 xs (Option.some.inj this).symm
  · have := e a o e1; rw [h] at this; exact n2 ob _ (Option.some.inj this).symm
theorem ExOk.notNew {Ex : Addr → Prop} (x : ExOk H0 H σ Γ Ex) {a : Addr} (h : H a = none) : ¬ Ex a := fun h1 => by
  obtain ⟨⟨o, e1, _⟩, _⟩ := x a h1
  rw [h] at e1; cases e1
theorem ExOk.notBw {Ex : Addr → Prop} (x : ExOk H0 H σ Γ Ex) {a : Addr} {o : HO} {i : Nat} {xs : List D} (h1 : Γ[i]? = some (.bw xs)) (h2 : σ[i]? = some (some (.ref a))) (h : H0 a = some o) : ¬ Ex a := fun h3 => by
  have := (x a h3).2 i xs h1 h2
  rw [h] at this; cases this
theorem Fm.exOwn (F : Fm K H0 σ Γ H) : ExOk H0 H σ Γ (ownAt σ Γ) := fun a ⟨i, xs, h1, h2⟩ => by
  obtain ⟨l, vs, e1, e0, e2, _⟩ := F.own h1
  rw [h2] at e1
  have el : a = l := by injection (Option.some.inj (Option.some.inj e1))
  subst el
  exact ⟨⟨_, e2, fun _ q => (by cases q), fun _ _ q => (by cases q)⟩, fun _ _ _ _ => e0⟩
theorem ExOk.baseTup {Ex : Addr → Prop} (x : ExOk H0 H σ Γ Ex) (e : Same H H1) (hb : ∀ a o, H1 a = some o → ¬ Ex a → Hb a = some o) : Tps K H1 Hb := fun a xs h => by
  rcases h with (h | ⟨o, h⟩) | h
  · exact .inl (.inl (hb _ _ h (x.notTup e (.inl h))))
  · exact .inl (.inr ⟨o, hb _ _ h (x.notTup e (.inr ⟨o, h⟩))⟩)
  · exact .inr h
end
/-- the data of a range -/
def rng (lo : Int) (n : Nat) : List D := (List.range n).map fun i => D.int (lo + (i : Nat))
theorem rng_len (lo : Int) (n : Nat) : (rng lo n).length = n := by simp [rng]
theorem rng_get {lo : Int} {n i : Nat} (h : i < n) : (rng lo n)[i]? = some (.int (lo + (i : Nat))) := by simp [rng, h]
section
variable {X : Cx} {H0 : Hp} {Γ : List AV} {a b c e e2 tg : Expr} {es : List Expr} {pos p1 p2 np : Pos} {x y z d : D} {ds xs ys : List D} {n : Str} {k : Nat} {lo hi : Int}
/-- a list that stands in the ground -/
theorem gi_var (i : Nat) (h : Γ[i]? = some (.bw xs) := by rfl) (hN : X.N[i]? = some n := by rfl) (hv : Vis X.env.scope n := by first | exact Or.inl rfl | exact Or.inr (Or.inl rfl) | exact Or.inr (Or.inr rfl)) (hd : (n == ("__debug__" : Str)) = false := by decide) (hcd : (n == ("__classdict__" : Str)) = false := by decide) : GI X H0 Γ tg (.Name n p1) xs := by
  refine ⟨_, pi_list (pe_var hN hv hd hcd), fun σ H R F k => ?_⟩
  obtain ⟨l, vs, e1, s, r⟩ := F.bw h
  refine ⟨_, e1, l, rfl, ⟨vs, F.ex.seq s⟩, k _ H (Same.refl H) fun Ex Hb xo eb hb => ?_⟩
  have sb : SqL X.K Hb l vs := by
    rcases s with (s | ⟨o, s⟩) | s
    · exact .inl (.inl (hb _ _ (F.ex _ _ s) (xo.notBw h e1 s)))
    · exact .inl (.inr ⟨o, hb _ _ (F.ex _ _ s) (xo.notBw h e1 s)⟩)
    · exact .inr s
  have rb := r.mono (xo.baseTup (Same.refl H) hb)
  have hl := r.length
  refine ⟨fun i H' hi e' => ⟨vs, vs[i]'(by omega), e'.seq sb, List.getElem?_eq_getElem (by omega)⟩, fun H' e' => ⟨vs, e'.seq sb, by omega⟩, fun i x H' H'' hi e' hy => ?_⟩
  obtain ⟨e3, hy⟩ := hy
  subst e3
  obtain ⟨d, hd, hr⟩ := rb.get' (hy vs (e'.seq sb))
  exact ⟨Same.refl _, d, hd, hr.mono (Same.tup e')⟩
/-- a new list -/
theorem gi_new (h : GL X H0 Γ e xs) : GI X H0 Γ tg e xs := by
  refine ⟨_, pi_list pe_self, fun σ H R F k => ?_⟩
  refine h σ H _ F fun l vs H1 hl e1 h1 r => ?_
  refine ⟨l, rfl, ⟨vs, SqL.of h1⟩, k _ H1 e1 fun Ex Hb xo eb hb => ?_⟩
  have sb : Hb l = some (.lst vs) := hb _ _ h1 (xo.notNew hl)
  have rb := r.mono (xo.baseTup e1 hb)
  have hl := r.length
  refine ⟨fun i H' hi e' => ⟨vs, vs[i]'(by omega), SqL.of (e' _ _ sb), List.getElem?_eq_getElem (by omega)⟩, fun H' e' => ⟨vs, SqL.of (e' _ _ sb), by omega⟩, fun i x H' H'' hi e' hy => ?_⟩
  obtain ⟨e3, hy⟩ := hy
  subst e3
  obtain ⟨d, hd, hr⟩ := rb.get' (hy vs (SqL.of (e' _ _ sb)))
  exact ⟨Same.refl _, d, hd, hr.mono (Same.tup e')⟩
theorem gi_tup (h : GE X H0 Γ e (.tup ds)) : GI X H0 Γ tg e ds := by
  refine ⟨_, pi_tup pe_self, fun σ H R F k => ?_⟩
  refine h σ H _ F fun v H1 e1 ⟨t, vs, ev, s, r⟩ => ?_
  refine ⟨t, ev, ⟨vs, s⟩, k _ H1 e1 fun Ex Hb xo eb hb => ?_⟩
  have sb := xo.baseTup e1 hb _ _ s
  have rb := r.mono (xo.baseTup e1 hb)
  have hl := r.length
  refine ⟨fun i H' hi e' => ⟨vs, vs[i]'(by omega), Same.tup e' _ _ sb, List.getElem?_eq_getElem (by omega)⟩, fun H' e' => ⟨vs, Same.tup e' _ _ sb, by omega⟩, fun i x H' H'' hi e' hy => ?_⟩
  obtain ⟨e3, hy⟩ := hy
  subst e3
  obtain ⟨d, hd, hr⟩ := rb.get' (hy vs (Same.tup e' _ _ sb))
  exact ⟨Same.refl _, d, hd, hr.mono (Same.tup e')⟩
theorem itr_ok {K : PySem.W.Frag} {Hb : Hp} {lo : Int} {n : Nat} : ItOk K Hb (Itr lo n) (rng lo n) where
  go := fun i H hi _ => by rw [rng_len] at hi; exact hi
  stop := fun H _ => by rw [rng_len]; exact Nat.le_refl _
  yld := fun i x H H' hi _ hy => by
    rw [rng_len] at hi
    obtain ⟨e1, e2⟩ := hy
    subst e1 e2
    exact ⟨Same.refl _, _, rng_get hi, rfl⟩
theorem gi_range1 (ha : GE X H0 Γ a (.int hi)) (hm : X.mg "range" = none) (h1 : -1000000 ≤ hi) (h2 : hi ≤ 1000000) (hg : Gl X "range" := by rfl) (hs : starEach [a] X.env = [(false, eval a X.env)] := by rfl) (hs2 : starEach [a] X.env = (false, eval a X.env) :: starEach [] X.env := by rfl) : GI X H0 Γ tg (.Call (.Name "range" np) [a] [] pos) (rng 0 hi.toNat) := by
  refine ⟨_, pi_range1 hg hm (pa_cons pe_self pa_nil hs2) hs, fun σ H R F k => ?_⟩
  refine ha σ H _ F fun v H1 e1 r1 => ?_
  have ev : v = .int hi := r1
  subst ev
  exact ⟨hi, rfl, by omega, by omega, k _ H1 e1 fun _ _ _ _ _ => itr_ok⟩
theorem gi_range2 (ha : GE X H0 Γ a (.int lo)) (hb : GE X H0 Γ b (.int hi)) (hm : X.mg "range" = none) (h1 : -1000000 ≤ hi) (h2 : hi ≤ 1000000) (h3 : -1000000 ≤ lo) (h4 : lo ≤ 1000000) (hg : Gl X "range" := by rfl) (hs : starEach [a, b] X.env = [(false, eval a X.env), (false, eval b X.env)] := by rfl) (hs1 : starEach [b] X.env = [(false, eval b X.env)] := by rfl) (hs2 : starEach [a, b] X.env = (false, eval a X.env) :: starEach [b] X.env := by rfl) (hs3 : starEach [b] X.env = (false, eval b X.env) :: starEach [] X.env := by rfl) :
    GI X H0 Γ tg (.Call (.Name "range" np) [a, b] [] pos) (rng lo (hi - lo).toNat) := by
  refine ⟨_, pi_range2 hg hm (pa_cons pe_self (pa_cons pe_self pa_nil hs3) hs2) hs hs1, fun σ H R F k => ?_⟩
  refine ha σ H _ F fun v H1 e1 r1 => ?_
  refine hb σ H1 _ (F.same e1) fun w H2 e2 r2 => ?_
  have ev : v = .int lo := r1
  have ew : w = .int hi := r2
  subst ev; subst ew
  exact ⟨lo, hi, rfl, ⟨by omega, by omega, by omega, by omega⟩, k _ H2 (e1.trans e2) fun _ _ _ _ _ => itr_ok⟩
/-- lo, lo - 1, .. down to hi + 1 -/
def rngD (lo : Int) (n : Nat) : List D := (List.range n).map fun i => D.int (lo - (i : Nat))
theorem rngD_len (lo : Int) (n : Nat) : (rngD lo n).length = n := by simp [rngD]
theorem gi_range3 (ha : GE X H0 Γ a (.int lo)) (hb : GE X H0 Γ b (.int hi)) (hcc : GE X H0 Γ c (.int (-1))) (hm : X.mg "range" = none) (h1 : -1000000 ≤ hi) (h2 : hi ≤ 1000000) (h3 : -1000000 ≤ lo) (h4 : lo ≤ 1000000) (hg : Gl X "range" := by rfl) (hs : starEach [a, b, c] X.env = (false, eval a X.env) :: starEach [b, c] X.env := by rfl) (hs2 : starEach [b, c] X.env = (false, eval b X.env) :: starEach [c] X.env := by rfl) (hs3 : starEach [c] X.env = (false, eval c X.env) :: starEach [] X.env := by rfl) (hpl : (backTo pos (starEach [b, c] X.env)).any (·.1) = false := by rfl) :
    GI X H0 Γ tg (.Call (.Name "range" np) [a, b, c] [] pos) (rngD lo (lo - hi).toNat) := by
  refine ⟨_, pi_range3 hg hm (pa_cons pe_self (pa_cons pe_self (pa_cons pe_self pa_nil hs3) hs2) hs) hs hpl, fun σ H R F k => ?_⟩
  refine ha σ H _ F fun v H1 e1 r1 => ?_
  refine hb σ H1 _ (F.same e1) fun w H2 e2 r2 => ?_
  refine hcc σ H2 _ (F.same (e1.trans e2)) fun u H3 e3 r3 => ?_
  have ev : v = .int lo := r1
  have ew : w = .int hi := r2
  have eu : u = .int (-1) := r3
  subst ev; subst ew; subst eu
  refine ⟨lo, hi, -1, (lo - hi).toNat, rfl, RgC.neg (by omega) (by omega) (by omega) (by omega), k _ H3 (e1.trans (e2.trans e3)) fun _ Hb _ _ _ => ⟨fun i H hi' _ => ?_, fun H _ => ?_, fun i x H H' hi' _ hy => ?_⟩⟩
  · rw [rngD_len] at hi'; exact hi'
  · rw [rngD_len]; exact Nat.le_refl _
  · obtain ⟨q1, q2⟩ := hy
    subst q1 q2
    have hi2 : i < (lo - hi).toNat := by rw [rngD_len] at hi'; exact hi'
    refine ⟨Same.refl _, .int (lo - (i : Nat)), by unfold rngD; rw [List.getElem?_map, List.getElem?_range hi2]; rfl, ?_⟩
    show V.int _ = V.int _
    congr 1
    omega
/-- zip of two tuples -/
def zipD (xs ys : List D) : List D := List.zipWith (fun a b => D.tup [a, b]) xs ys
theorem gi_zipT {elts : List Expr} {kk : Nat} {tp : Pos} (ha : GE X H0 Γ a (.tup xs)) (hb : GE X H0 Γ b (.tup ys)) (hm : X.mg "zip" = none) (hg : Gl X "zip" := by rfl) (hs : starEach [a, b] X.env = (false, eval a X.env) :: starEach [b] X.env := by rfl) (hs2 : starEach [b] X.env = (false, eval b X.env) :: starEach [] X.env := by rfl) (hpl : (backTo pos (starEach [b] X.env)).any (·.1) = false := by rfl) :
    GI X H0 Γ (.Tuple elts kk tp) (.Call (.Name "zip" np) [a, b] [] pos) (zipD xs ys) := by
  refine ⟨_, RZ.pi_zipA hg hm (pa_cons pe_self (pa_cons pe_self pa_nil hs2) hs) hs hpl, fun σ H R F k => ?_⟩
  refine ha σ H _ F fun v H1 e1 ⟨t, vs, ev, s1, r1⟩ => ?_
  refine hb σ H1 _ (F.same e1) fun w H2 e2 ⟨t2, ws, ew, s2, r2⟩ => ?_
  subst ev; subst ew
  have e12 := e1.trans e2
  refine ⟨t, t2, vs, ws, rfl, .inr ⟨Same.tup e2 _ _ s1, s2, k _ H2 e12 fun Ex Hb xo eb hb => ?_⟩⟩
  have sb1 := xo.baseTup e12 hb _ _ (Same.tup e2 _ _ s1)
  have sb2 := xo.baseTup e12 hb _ _ s2
  have rb1 := (r1.mono (Same.tup e2)).mono (xo.baseTup e12 hb)
  have rb2 := r2.mono (xo.baseTup e12 hb)
  have hl1 := r1.length
  have hl2 := r2.length
  have hzl : (zipD xs ys).length = min xs.length ys.length := by simp [zipD]
  refine ⟨fun i H' hi e' => ?_, fun H' e' => ⟨vs, ws, Same.tup e' _ _ sb1, Same.tup e' _ _ sb2, by omega⟩, fun i x H' H'' hi e' hy => ?_⟩
  · rw [hzl] at hi
    exact ⟨vs, ws, vs[i]'(by omega), ws[i]'(by omega), Same.tup e' _ _ sb1, Same.tup e' _ _ sb2, List.getElem?_eq_getElem (by omega), List.getElem?_eq_getElem (by omega)⟩
  · rw [hzl] at hi
    obtain ⟨T, x1, y1, q1, q2, q3, q4, q5⟩ := hy
    subst q1 q3
    obtain ⟨d1, g1, f1⟩ := rb1.get' (q4 vs (Same.tup e' _ _ sb1))
    obtain ⟨d2, g2, f2⟩ := rb2.get' (q5 ws (Same.tup e' _ _ sb2))
    have e4 : Same H' (upd H' T (.tup [x1, y1])) := fun b o q => by rw [upd_ne (ne_of_none q q2)]; exact q
    refine ⟨e4, .tup [d1, d2], by simp [zipD, List.getElem?_zipWith, g1, g2], T, [x1, y1], rfl, SqT.of upd_same, x1, [y1], rfl, ?_, y1, [], rfl, ?_, rfl⟩
    · exact f1.mono (Same.tup (e'.trans e4))
    · exact f2.mono (Same.tup (e'.trans e4))
/-- enumerate(..): the data -/
def enuD (xs : List D) : List D := xs.zipIdx.map fun p => D.tup [.int (p.2 : Nat), p.1]
theorem enuD_len (xs : List D) : (enuD xs).length = xs.length := by simp [enuD]
theorem enuD_get {xs : List D} {i : Nat} {d : D} (h : xs[i]? = some d) : (enuD xs)[i]? = some (.tup [.int (i : Nat), d]) := by
  simp [enuD, List.getElem?_zipIdx, h]
theorem gi_enumL_of {elts : List Expr} {kk : Nat} {tp : Pos} {Hx : Hp → Prop} (hm : X.mg "enumerate" = none) (hread : ∀ (σ : L2.St) (H : Hp) (Q : VK), Fm X.K H0 σ Γ H → (∀ l vs H1, Same H H1 → SqL X.K H1 l vs → RpAll X.K H1 xs vs → (∀ (Ex : Addr → Prop) (Hb : Hp), ExOk H0 H σ Γ Ex → Same Hb H1 → (∀ a o, H1 a = some o → ¬ Ex a → Hb a = some o) → SqL X.K Hb l vs) → Q (.ref l) H1) → ER X e σ H Q)
    (hg : Gl X "enumerate" := by rfl) (hs : starEach [e] X.env = [(false, eval e X.env)] := by rfl) (hs2 : starEach [e] X.env = (false, eval e X.env) :: starEach [] X.env := by rfl) : GI X H0 Γ (.Tuple elts kk tp) (.Call (.Name "enumerate" np) [e] [] pos) (enuD xs) := by
  refine ⟨_, pi_enum hg hm (pa_cons pe_self pa_nil hs2) hs, fun σ H R F k => ?_⟩
  refine hread σ H _ F fun l vs H1 e1 s r hbase => ?_
  refine ⟨l, vs, rfl, s, k _ H1 e1 fun Ex Hb xo eb hb => ?_⟩
  have sb := hbase Ex Hb xo eb hb
  have rb := r.mono (xo.baseTup e1 hb)
  have hl := r.length
  refine ⟨fun i H' hi e' => ?_, fun H' e' => ⟨vs, e'.seq sb, by rw [enuD_len]; omega⟩, fun i x H' H'' hi e' hy => ?_⟩
  · rw [enuD_len] at hi
    exact ⟨vs, vs[i]'(by omega), e'.seq sb, List.getElem?_eq_getElem (by omega)⟩
  · obtain ⟨T, x1, q1, q2, q3, q4⟩ := hy
    subst q1 q3
    obtain ⟨d, g1, f1⟩ := rb.get' (q4 vs (e'.seq sb))
    have e4 : Same H' (upd H' T (.tup [.int (i : Nat), x1])) := fun b o q => by rw [upd_ne (ne_of_none q q2)]; exact q
    exact ⟨e4, _, enuD_get g1, T, _, rfl, SqT.of upd_same, _, _, rfl, rfl, x1, [], rfl, f1.mono (Same.tup (e'.trans e4)), rfl⟩
/-- enumerate(xs), xs a list of the ground -/
theorem gi_enumV {elts : List Expr} {kk : Nat} {tp : Pos} (i : Nat) (hm : X.mg "enumerate" = none) (h : Γ[i]? = some (.bw xs) := by rfl) (hN : X.N[i]? = some n := by rfl) (hv : Vis X.env.scope n := by first | exact Or.inl rfl | exact Or.inr (Or.inl rfl) | exact Or.inr (Or.inr rfl)) (hd : (n == ("__debug__" : Str)) = false := by decide) (hcd : (n == ("__classdict__" : Str)) = false := by decide)
    (hg : Gl X "enumerate" := by rfl) (hs : starEach [.Name n p1] X.env = [(false, eval (.Name n p1) X.env)] := by rfl) (hs2 : starEach [.Name n p1] X.env = (false, eval (.Name n p1) X.env) :: starEach [] X.env := by rfl) : GI X H0 Γ (.Tuple elts kk tp) (.Call (.Name "enumerate" np) [.Name n p1] [] pos) (enuD xs) :=
  gi_enumL_of (Hx := fun _ => True) hm (fun σ H Q F k => by
    obtain ⟨l, vs, e1, s, r⟩ := F.bw h
    refine er_of (pe_var hN hv hd hcd) ⟨_, e1, k l vs H (Same.refl H) (F.ex.seq s) r fun Ex Hb xo eb hb => ?_⟩
    rcases s with (s | ⟨o, s⟩) | s
    · exact .inl (.inl (hb _ _ (F.ex _ _ s) (xo.notBw h e1 s)))
    · exact .inl (.inr ⟨o, hb _ _ (F.ex _ _ s) (xo.notBw h e1 s)⟩)
    · exact .inr s) hg hs hs2
/-! ### the loop -/
variable {iter elt : Expr} {sts body : List Stmt} {E : Ends} {els : List D}
theorem gs_for (C : Cok X k) {js : List Nat} (u : D → List AV → List AV) (Γi : Nat → List AV) (hi : GI X H0 Γ tg iter els) (ht : ∀ (i : Nat) (d : D), els[i]? = some d → TgOk X tg js d (u d)) (h0 : Γi 0 = Γ)
    (hb : ∀ Hb, Same H0 Hb → ∀ (i : Nat) (d : D), els[i]? = some d → GS X Hb (u d (Γi i)) body { E with nx := fun σ H => Fm X.K Hb σ (Γi (i + 1)) H, ct := fun σ H => Fm X.K Hb σ (Γi (i + 1)) H, bk := fun σ H => SR X sts E σ H })
    (hr : ∀ Hb, Same H0 Hb → GS X Hb (Γi els.length) sts E) (hs : ∀ x, foldedSetIterable iter X.env x = pure x := by intro _; rfl) : GS X H0 Γ (.For tg iter body [] pos :: sts) E := fun σ H F => by
  obtain ⟨wi, hpi, hread⟩ := hi
  refine sr_cons (s1_of (ps_for C.hp C.hc hpi pg_self pss_self hs) ?_)
  refine hread σ H _ F fun J H1 e1 hit => ?_
  obtain ⟨Hb, s0, sb, Fb, hall, _, _⟩ := (F.same e1).rebase
  have ok := hit _ Hb F.exOwn sb hall
  refine ⟨fun i m σ' H' => m = els.length - i ∧ i ≤ els.length ∧ Fm X.K Hb σ' (Γi i) H', ⟨els.length, by simp, Nat.zero_le _, by rw [h0]; exact Fb⟩, ?_⟩
  rintro i m σ' H' ⟨rfl, hi, F'⟩
  by_cases hlt : i < els.length
  · refine .inr ⟨ok.go i H' hlt F'.ex, fun σ2 H2 => Fm X.K Hb σ2 (Γi (i + 1)) H2, fun σ2 H2 p => ⟨els.length - (i + 1), by omega, rfl, hlt, p⟩, fun x H'' hy => ?_⟩
    obtain ⟨e2, d, hd, hr'⟩ := ok.yld i x H' H'' hlt F'.ex hy
    exact ht i d hd Hb (Γi i) σ' H'' x _ (F'.same e2) hr' fun σ2 _ _ F2 => hb Hb s0 i d hd σ2 H'' F2
  · have ei : i = els.length := by omega
    subst ei
    exact .inl ⟨ok.stop H' F'.ex, hr Hb s0 σ' H' F'⟩
/-! ### comprehensions of one clause -/
/-- a judgement in every block of the comprehension -/
def InBlk (X : Cx) (scope : Scope) (J : Cx → Prop) : Prop := ∀ (s : Shared) (H : Hp) (C : Addr) (cl : List (Str × Addr)) (fp : List Addr), J (X.blk s H scope (compEnvC scope cl C X.env) fp)
def tgB (X : Cx) (scope : Scope) (tg : Expr) : TG := fun v σ H Q => ∀ (s : Shared) (H' : Hp) (C : Addr) (cl : List (Str × Addr)) (fp : List Addr), GR (X.blk s H' scope (compEnvC scope cl C X.env) fp) tg v σ H Q
def teB (X : Cx) (scope : Scope) (e : Expr) : TE := fun σ H Q => ∀ (s : Shared) (H' : Hp) (C : Addr) (cl : List (Str × Addr)) (fp : List Addr), ER (X.blk s H' scope (compEnvC scope cl C X.env) fp) e σ H Q
def ttB (X : Cx) (scope : Scope) (e : Expr) : TT := fun σ H Q => ∀ (s : Shared) (H' : Hp) (C : Addr) (cl : List (Str × Addr)) (fp : List Addr), TR (X.blk s H' scope (compEnvC scope cl C X.env) fp) e σ H Q
theorem pg_blk {scope : Scope} (s : Shared) (H : Hp) (C : Addr) (cl : List (Str × Addr)) (fp : List Addr) : PG (X.blk s H scope (compEnvC scope cl C X.env) fp) tg (tgB X scope tg) := ⟨fun pins s' σ H' v u Q I r h => h s H C cl fp pins s' u I r⟩
theorem pe_blk {scope : Scope} (s : Shared) (H : Hp) (C : Addr) (cl : List (Str × Addr)) (fp : List Addr) : PE (X.blk s H scope (compEnvC scope cl C X.env) fp) e (teB X scope e) := ⟨fun pins s' σ H' Q I h => h s H C cl fp pins s' I⟩
theorem pt_blk {scope : Scope} (s : Shared) (H : Hp) (C : Addr) (cl : List (Str × Addr)) (fp : List Addr) : PT (X.blk s H scope (compEnvC scope cl C X.env) fp) e (ttB X scope e) := ⟨fun pins s' σ H' Q I h => h s H C cl fp pins s' I⟩
/-- the reading of a comprehension of one clause over data -/
theorem lc_read {scope : Scope} {vs : List Nat} {wi : TI} {tt : TT} {js : List Nat} {u : D → List AV → List AV} {f : D → D} {p : D → Bool} (hjs : ∀ j ∈ js, j ∈ vs)
    (hread : ∀ (σ : L2.St) (H : Hp) (R : It → Hp → Prop), Fm X.K H0 σ Γ H → (∀ J H1, Same H H1 → (∀ (Ex : Addr → Prop) (Hb : Hp), ExOk H0 H σ Γ Ex → Same Hb H1 → (∀ a o, H1 a = some o → ¬ Ex a → Hb a = some o) → ItOk X.K Hb J els) → R J H1) → wi σ H R) (hlen : els.length < 100000)
    (ht : ∀ d ∈ els, InBlk X scope fun Y => TgOk Y tg js d (u d))
    (hc : ∀ Hb, Same H0 Hb → ∀ d ∈ els, ∀ (σ : L2.St) (H : Hp) (Q : Bool → Hp → Prop), Fm X.K Hb σ (u d (wipeA Γ vs)) H → (∀ H', Same H H' → Q (p d) H') → tt σ H Q)
    (he : ∀ Hb, Same H0 Hb → ∀ d ∈ els, p d = true → InBlk X scope fun Y => GE Y Hb (u d (wipeA Γ vs)) elt (f d))
    {σ : L2.St} {H : Hp} (F : Fm X.K H0 σ Γ H) {Q : VK} (kq : ∀ l ws H', H l = none → Same H H' → H' l = some (.lst ws) → RpAll X.K H' ((els.filter p).map f) ws → Q (.ref l) H') :
    tLc wi (tgB X scope tg) tt (teB X scope elt) vs σ H Q := by
  refine hread σ H _ F fun J H1 e1 hit => ?_
  obtain ⟨Hb, s0, sb, Fb, hall, _, _⟩ := (F.same e1).rebase
  have ok := hit _ Hb F.exOwn sb hall
  intro D hD
  have eD : Same H1 (upd H1 D (.lst [])) := fun b o q => by rw [upd_ne (ne_of_none q hD)]; exact q
  refine ⟨fun i m H' => m = els.length - i ∧ i ≤ els.length ∧ Same H1 H' ∧ ∃ acc, H' D = some (.lst acc) ∧ RpAll X.K H' (((els.take i).filter p).map f) acc, ⟨els.length, by simp, Nat.zero_le _, eD, [], upd_same, by rw [List.take_zero]; rfl⟩, ?_⟩
  rintro i m H' ⟨rfl, hi, e', acc, hacc, hr⟩
  by_cases hlt : i < els.length
  · refine .inr ⟨ok.go i H' hlt (sb.trans e'), fun H2 => Same H1 H2 ∧ ∃ acc, H2 D = some (.lst acc) ∧ RpAll X.K H2 (((els.take (i + 1)).filter p).map f) acc, fun H2 q => ⟨els.length - (i + 1), by omega, rfl, hlt, q⟩, fun x H'' hy => ?_⟩
    obtain ⟨e2, d, hd, hrd⟩ := ok.yld i x H' H'' hlt (sb.trans e') hy
    have hm : d ∈ els := List.mem_of_getElem? hd
    have etk : els.take (i + 1) = els.take i ++ [d] := by rw [List.take_add_one, hd]; rfl
    intro s1 H3 C1 cl1 fp1
    refine ht d hm s1 H3 C1 cl1 fp1 Hb (wipeA Γ vs) (wipe σ vs) H'' x _ ((Fb.same (e'.trans e2)).wipe vs) hrd fun σ2 l2 w2 F2 => ⟨?_, ?_⟩
    · rw [w2 vs hjs]
      have ww : ∀ us : List Nat, (∀ j ∈ us, j ∈ vs) → wipe (wipe σ vs) us = wipe σ vs := by
        intro us
        induction us with
        | nil => intro _; rfl
        | cons w us ih =>
          intro hw
          show (wipe (wipe σ vs) us).set w none = wipe σ vs
          rw [ih fun j hj => hw j (List.mem_cons_of_mem _ hj)]
          have hw0 := hw w List.mem_cons_self
          have : ∀ ts : List Nat, w ∈ ts → (wipe σ ts).set w none = wipe σ ts := by
            intro ts
            induction ts with
            | nil => intro h; cases h
            | cons t ts ih2 =>
              intro h
              show ((wipe σ ts).set t none).set w none = (wipe σ ts).set t none
              by_cases htw : t = w
              · subst htw; rw [List.set_set]
              · rcases List.mem_cons.mp h with z | z
                · exact absurd z.symm htw
                · rw [List.set_comm _ _ htw, ih2 z]
          exact this vs hw0
      exact ww vs fun _ h => h
    · refine hc Hb s0 d hm σ2 H'' _ F2 fun H4 e4 => ?_
      cases hp : p d with
      | false =>
        show Same H1 H4 ∧ _
        refine ⟨e'.trans (e2.trans e4), acc, (e2.trans e4) _ _ hacc, ?_⟩
        rw [etk, List.filter_append, List.filter_cons_of_neg (by rw [hp]; decide), List.filter_nil, List.append_nil]
        exact hr.mono (Same.tup (e2.trans e4))
      | true =>
        show teB X scope elt σ2 H4 _
        intro s5 H5 C5 cl5 fp5
        refine he Hb s0 d hm hp s5 H5 C5 cl5 fp5 σ2 H4 _ (F2.same e4) fun w H6 e6 r6 => ?_
        have e46 := e2.trans (e4.trans e6)
        refine ⟨acc, e46 _ _ hacc, ?_, ?_⟩
        · rw [hr.length, List.length_map]
          have h1 := List.length_filter_le p (els.take i)
          have h2 : (els.take i).length ≤ els.length := by rw [List.length_take]; omega
          exact Nat.lt_of_le_of_lt (Nat.le_trans h1 h2) (Nat.lt_of_lt_of_le hlen (by decide))
        · have hDn : H1 D = none := hD
          have ts : Tps X.K H6 (upd H6 D (.lst (acc ++ [w]))) := lst_ts (e46 _ _ hacc)
          refine ⟨fun b o q => by rw [upd_ne (ne_of_none q hDn)]; exact (e'.trans e46) _ _ q, _, upd_same, ?_⟩
          rw [etk, List.filter_append, List.filter_cons_of_pos hp, List.filter_nil, List.map_append]
          exact ((hr.mono (Same.tup e46)).mono ts).snoc (r6.mono ts)
  · have ei : i = els.length := by omega
    subst ei
    rw [List.take_length] at hr
    exact .inl ⟨ok.stop H' (sb.trans e'), kq D acc H' (e1.free hD) (e1.trans e') hacc hr⟩
/-- [f for .. in ..] -/
theorem gl_lc0 (C : Cok X k) {scope : Scope} (own : List (Str × Nat)) {js : List Nat} (u : D → List AV → List AV) (f : D → D) (hi : GI X H0 Γ tg iter els) (ht : ∀ d ∈ els, InBlk X scope fun Y => TgOk Y tg js d (u d))
    (he : ∀ Hb, Same H0 Hb → ∀ d ∈ els, InBlk X scope fun Y => GE Y Hb (u d (wipeA Γ (own.map (·.2)))) elt (f d)) (hlen : els.length < 100000) (hjs : ∀ j ∈ js, j ∈ own.map (·.2) := by decide) (ok : BlkOk X.N X.env.scope scope own := by exact blkOk_by rfl) (hs : ∀ x, foldedSetIterable iter X.env x = pure x := by intro _; rfl) :
    GL X H0 Γ (.ListComp elt [⟨tg, iter, [], 0⟩] scope pos) (els.map f) := fun σ H Q F kq => by
  obtain ⟨wi, hpi, hread⟩ := hi
  refine er_of (pe_lc (g := tgB X scope tg) (tt := tYes) (te := teB X scope elt) C.hc C.nd hpi ok (fun s H C cl fp => pg_blk s H C cl fp) (fun _ _ _ _ _ => pts_nil) (fun s H C cl fp => pe_blk s H C cl fp) hs) ?_
  refine lc_read (p := fun _ => true) (u := u) (js := js) hjs hread hlen ht (fun Hb _ d _ σ H Q _ h => h H (Same.refl H)) (fun Hb s0 d hd _ => he Hb s0 d hd) F ?_
  rw [List.filter_eq_self.mpr (fun _ _ => rfl)]
  exact kq
/-- y = [f for .. in ..] on one line -/
theorem gs_setLc0 (C : Cok X k) {scope : Scope} (i : Nat) (own : List (Str × Nat)) {js : List Nat} (u : D → List AV → List AV) (f : D → D) {spos : Pos} (hi : GI X H0 Γ tg iter els) (ht : ∀ d ∈ els, InBlk X scope fun Y => TgOk Y tg js d (u d))
    (he : ∀ Hb, Same H0 Hb → ∀ d ∈ els, InBlk X scope fun Y => GE Y Hb (u d (wipeA Γ (own.map (·.2)))) elt (f d)) (hlen : els.length < 100000) (h : GS X H0 (Γ.set i (.own (els.map f))) sts E) (hy : X.N[i]? = some n := by rfl) (hyl : X.env.scope.names.lookup n = some .local := by rfl)
    (hsw : swapsWith (.ListComp elt [⟨tg, iter, [], 0⟩] scope pos) (some (.Name n p1)) spos.line X.env = pure true := by exact sw_true rfl rfl rfl (by decide +kernel))
    (hjs : ∀ j ∈ js, j ∈ own.map (·.2) := by decide) (ok : BlkOk X.N X.env.scope scope own := by exact blkOk_by rfl) (hs : ∀ x, foldedSetIterable iter X.env x = pure x := by intro _; rfl) :
    GS X H0 Γ (.Assign [.Name n p1] (.ListComp elt [⟨tg, iter, [], 0⟩] scope pos) spos :: sts) E := fun σ H F => by
  obtain ⟨wi, hpi, hread⟩ := hi
  refine sr_cons (s1_of (ps_setLc (g := tgB X scope tg) (tt := tYes) (te := teB X scope elt) C.hc C.nd hy hyl hsw hpi ok (fun s H C cl fp => pg_blk s H C cl fp) (fun _ _ _ _ _ => pts_nil) (fun s H C cl fp => pe_blk s H C cl fp) hs) ?_)
  refine lc_read (p := fun _ => true) (u := u) (js := js) hjs hread hlen ht (fun Hb _ d _ σ H Q _ h => h H (Same.refl H)) (fun Hb s0 d hd _ => he Hb s0 d hd) F ?_
  rw [List.filter_eq_self.mpr (fun _ _ => rfl)]
  exact fun l ws H' hl e' h1 r1 => h _ _ (F.set_own hl e' h1 r1)
/-- [f for .. in .. if c] -/
theorem gl_lc1 (C : Cok X k) {scope : Scope} (own : List (Str × Nat)) {js : List Nat} (u : D → List AV → List AV) (f : D → D) (p : D → Bool) (hi : GI X H0 Γ tg iter els) (ht : ∀ d ∈ els, InBlk X scope fun Y => TgOk Y tg js d (u d))
    (hcd : ∀ Hb, Same H0 Hb → ∀ d ∈ els, InBlk X scope fun Y => GT Y Hb (u d (wipeA Γ (own.map (·.2)))) c (p d))
    (he : ∀ Hb, Same H0 Hb → ∀ d ∈ els, p d = true → InBlk X scope fun Y => GE Y Hb (u d (wipeA Γ (own.map (·.2)))) elt (f d)) (hlen : els.length < 100000) (hjs : ∀ j ∈ js, j ∈ own.map (·.2) := by decide) (ok : BlkOk X.N X.env.scope scope own := by exact blkOk_by rfl) (hs : ∀ x, foldedSetIterable iter X.env x = pure x := by intro _; rfl) :
    GL X H0 Γ (.ListComp elt [⟨tg, iter, [c], 0⟩] scope pos) ((els.filter p).map f) := fun σ H Q F kq => by
  obtain ⟨wi, hpi, hread⟩ := hi
  refine er_of (pe_lc (g := tgB X scope tg) (tt := ttB X scope c) (te := teB X scope elt) C.hc C.nd hpi ok (fun s H C cl fp => pg_blk s H C cl fp) (fun s H C cl fp => pts_one (pt_blk s H C cl fp)) (fun s H C cl fp => pe_blk s H C cl fp) hs) ?_
  exact lc_read (p := p) (u := u) (js := js) hjs hread hlen ht (fun Hb s0 d hd σ H Q F' h => fun s H' C cl fp => hcd Hb s0 d hd s H' C cl fp σ H Q F' h) he F kq
theorem gs_setLc1 (C : Cok X k) {scope : Scope} (i : Nat) (own : List (Str × Nat)) {js : List Nat} (u : D → List AV → List AV) (f : D → D) (p : D → Bool) {spos : Pos} (hi : GI X H0 Γ tg iter els) (ht : ∀ d ∈ els, InBlk X scope fun Y => TgOk Y tg js d (u d))
    (hcd : ∀ Hb, Same H0 Hb → ∀ d ∈ els, InBlk X scope fun Y => GT Y Hb (u d (wipeA Γ (own.map (·.2)))) c (p d))
    (he : ∀ Hb, Same H0 Hb → ∀ d ∈ els, p d = true → InBlk X scope fun Y => GE Y Hb (u d (wipeA Γ (own.map (·.2)))) elt (f d)) (hlen : els.length < 100000) (h : GS X H0 (Γ.set i (.own ((els.filter p).map f))) sts E) (hy : X.N[i]? = some n := by rfl) (hyl : X.env.scope.names.lookup n = some .local := by rfl)
    (hsw : swapsWith (.ListComp elt [⟨tg, iter, [c], 0⟩] scope pos) (some (.Name n p1)) spos.line X.env = pure true := by exact sw_true rfl rfl rfl (by decide +kernel))
    (hjs : ∀ j ∈ js, j ∈ own.map (·.2) := by decide) (ok : BlkOk X.N X.env.scope scope own := by exact blkOk_by rfl) (hs : ∀ x, foldedSetIterable iter X.env x = pure x := by intro _; rfl) :
    GS X H0 Γ (.Assign [.Name n p1] (.ListComp elt [⟨tg, iter, [c], 0⟩] scope pos) spos :: sts) E := fun σ H F => by
  obtain ⟨wi, hpi, hread⟩ := hi
  refine sr_cons (s1_of (ps_setLc (g := tgB X scope tg) (tt := ttB X scope c) (te := teB X scope elt) C.hc C.nd hy hyl hsw hpi ok (fun s H C cl fp => pg_blk s H C cl fp) (fun s H C cl fp => pts_one (pt_blk s H C cl fp)) (fun s H C cl fp => pe_blk s H C cl fp) hs) ?_)
  refine lc_read (p := p) (u := u) (js := js) hjs hread hlen ht (fun Hb s0 d hd σ H Q F' h => fun s H' C cl fp => hcd Hb s0 d hd s H' C cl fp σ H Q F' h) he F ?_
  exact fun l ws H' hl e' h1 r1 => h _ _ (F.set_own hl e' h1 r1)
end
end WB
namespace WB
open PySem PySem.Spec PyProof.Rows L2
structure Tx (K : PySem.W.Frag) (mg : Str → Option Value) : Prop where
  c : He.SaysD fas fns K
  hh : ∃ h : Heap, K.In h ∧ h.Ns mainGlobals mg
namespace Tx
variable {K : PySem.W.Frag} {mg : Str → Option Value}
theorem g_is_whole (T : Tx K mg) : mg "is_whole" = some (.ref (He.ga K "is_whole")) := by
  obtain ⟨h, X, G⟩ := T.hh
  exact He.glo_ok X G (T.c.fact 0 (f := .glo "is_whole") rfl)
theorem g_is_from (T : Tx K mg) : mg "is_from" = some (.ref (He.ga K "is_from")) := by
  obtain ⟨h, X, G⟩ := T.hh
  exact He.glo_ok X G (T.c.fact 1 (f := .glo "is_from") rfl)
theorem g_is_tuple (T : Tx K mg) : mg "is_tuple" = some (.ref (He.ga K "is_tuple")) := by
  obtain ⟨h, X, G⟩ := T.hh
  exact He.glo_ok X G (T.c.fact 2 (f := .glo "is_tuple") rfl)
theorem g_is_word (T : Tx K mg) : mg "is_word" = some (.ref (He.ga K "is_word")) := by
  obtain ⟨h, X, G⟩ := T.hh
  exact He.glo_ok X G (T.c.fact 3 (f := .glo "is_word") rfl)
theorem g_is_open_word (T : Tx K mg) : mg "is_open_word" = some (.ref (He.ga K "is_open_word")) := by
  obtain ⟨h, X, G⟩ := T.hh
  exact He.glo_ok X G (T.c.fact 4 (f := .glo "is_open_word") rfl)
theorem g_are_rising (T : Tx K mg) : mg "are_rising" = some (.ref (He.ga K "are_rising")) := by
  obtain ⟨h, X, G⟩ := T.hh
  exact He.glo_ok X G (T.c.fact 5 (f := .glo "are_rising") rfl)
theorem g_tied (T : Tx K mg) : mg "tied" = some (.ref (He.ga K "tied")) := by
  obtain ⟨h, X, G⟩ := T.hh
  exact He.glo_ok X G (T.c.fact 6 (f := .glo "tied") rfl)
theorem g_row_of (T : Tx K mg) : mg "row_of" = some (.ref (He.ga K "row_of")) := by
  obtain ⟨h, X, G⟩ := T.hh
  exact He.glo_ok X G (T.c.fact 7 (f := .glo "row_of") rfl)
theorem g_is_gap (T : Tx K mg) : mg "is_gap" = some (.ref (He.ga K "is_gap")) := by
  obtain ⟨h, X, G⟩ := T.hh
  exact He.glo_ok X G (T.c.fact 8 (f := .glo "is_gap") rfl)
theorem g_is_bolt (T : Tx K mg) : mg "is_bolt" = some (.ref (He.ga K "is_bolt")) := by
  obtain ⟨h, X, G⟩ := T.hh
  exact He.glo_ok X G (T.c.fact 9 (f := .glo "is_bolt") rfl)
theorem g_ways_of (T : Tx K mg) : mg "ways_of" = some (.ref (He.ga K "ways_of")) := by
  obtain ⟨h, X, G⟩ := T.hh
  exact He.glo_ok X G (T.c.fact 10 (f := .glo "ways_of") rfl)
theorem g_first_wide (T : Tx K mg) : mg "first_wide" = some (.ref (He.ga K "first_wide")) := by
  obtain ⟨h, X, G⟩ := T.hh
  exact He.glo_ok X G (T.c.fact 11 (f := .glo "first_wide") rfl)
theorem g_fault_of (T : Tx K mg) : mg "fault_of" = some (.ref (He.ga K "fault_of")) := by
  obtain ⟨h, X, G⟩ := T.hh
  exact He.glo_ok X G (T.c.fact 12 (f := .glo "fault_of") rfl)
theorem g_must_be_lock (T : Tx K mg) : mg "must_be_lock" = some (.ref (He.ga K "must_be_lock")) := by
  obtain ⟨h, X, G⟩ := T.hh
  exact He.glo_ok X G (T.c.fact 13 (f := .glo "must_be_lock") rfl)
theorem g_must_stand (T : Tx K mg) : mg "must_stand" = some (.ref (He.ga K "must_stand")) := by
  obtain ⟨h, X, G⟩ := T.hh
  exact He.glo_ok X G (T.c.fact 14 (f := .glo "must_stand") rfl)
theorem g_must_wish_all (T : Tx K mg) : mg "must_wish_all" = some (.ref (He.ga K "must_wish_all")) := by
  obtain ⟨h, X, G⟩ := T.hh
  exact He.glo_ok X G (T.c.fact 15 (f := .glo "must_wish_all") rfl)
theorem g_steps_at (T : Tx K mg) : mg "steps_at" = some (.ref (He.ga K "steps_at")) := by
  obtain ⟨h, X, G⟩ := T.hh
  exact He.glo_ok X G (T.c.fact 16 (f := .glo "steps_at") rfl)
theorem g_can_step (T : Tx K mg) : mg "can_step" = some (.ref (He.ga K "can_step")) := by
  obtain ⟨h, X, G⟩ := T.hh
  exact He.glo_ok X G (T.c.fact 17 (f := .glo "can_step") rfl)
theorem g_lower (T : Tx K mg) : mg "lower" = some (.ref (He.ga K "lower")) := by
  obtain ⟨h, X, G⟩ := T.hh
  exact He.glo_ok X G (T.c.fact 18 (f := .glo "lower") rfl)
theorem g_first_place (T : Tx K mg) : mg "first_place" = some (.ref (He.ga K "first_place")) := by
  obtain ⟨h, X, G⟩ := T.hh
  exact He.glo_ok X G (T.c.fact 19 (f := .glo "first_place") rfl)
theorem g_is_still (T : Tx K mg) : mg "is_still" = some (.ref (He.ga K "is_still")) := by
  obtain ⟨h, X, G⟩ := T.hh
  exact He.glo_ok X G (T.c.fact 20 (f := .glo "is_still") rfl)
theorem g_ahead_most (T : Tx K mg) : mg "ahead_most" = some (.ref (He.ga K "ahead_most")) := by
  obtain ⟨h, X, G⟩ := T.hh
  exact He.glo_ok X G (T.c.fact 21 (f := .glo "ahead_most") rfl)
theorem g_splits (T : Tx K mg) : mg "splits" = some (.ref (He.ga K "splits")) := by
  obtain ⟨h, X, G⟩ := T.hh
  exact He.glo_ok X G (T.c.fact 22 (f := .glo "splits") rfl)
theorem g_added (T : Tx K mg) : mg "added" = some (.ref (He.ga K "added")) := by
  obtain ⟨h, X, G⟩ := T.hh
  exact He.glo_ok X G (T.c.fact 23 (f := .glo "added") rfl)
theorem g_price_alone (T : Tx K mg) : mg "price_alone" = some (.ref (He.ga K "price_alone")) := by
  obtain ⟨h, X, G⟩ := T.hh
  exact He.glo_ok X G (T.c.fact 24 (f := .glo "price_alone") rfl)
theorem g_below (T : Tx K mg) : mg "below" = some (.ref (He.ga K "below")) := by
  obtain ⟨h, X, G⟩ := T.hh
  exact He.glo_ok X G (T.c.fact 25 (f := .glo "below") rfl)
theorem g_first_last (T : Tx K mg) : mg "first_last" = some (.ref (He.ga K "first_last")) := by
  obtain ⟨h, X, G⟩ := T.hh
  exact He.glo_ok X G (T.c.fact 26 (f := .glo "first_last") rfl)
theorem g_used (T : Tx K mg) : mg "used" = some (.ref (He.ga K "used")) := by
  obtain ⟨h, X, G⟩ := T.hh
  exact He.glo_ok X G (T.c.fact 27 (f := .glo "used") rfl)
theorem g_told_way (T : Tx K mg) : mg "told_way" = some (.ref (He.ga K "told_way")) := by
  obtain ⟨h, X, G⟩ := T.hh
  exact He.glo_ok X G (T.c.fact 28 (f := .glo "told_way") rfl)
theorem g_least_price (T : Tx K mg) : mg "least_price" = some (.ref (He.ga K "least_price")) := by
  obtain ⟨h, X, G⟩ := T.hh
  exact He.glo_ok X G (T.c.fact 29 (f := .glo "least_price") rfl)
theorem g_least (T : Tx K mg) : mg "least" = some (.ref (He.ga K "least")) := by
  obtain ⟨h, X, G⟩ := T.hh
  exact He.glo_ok X G (T.c.fact 30 (f := .glo "least") rfl)
theorem g_law_pen (T : Tx K mg) : mg "_law_pen" = some (.ref (He.ga K "_law_pen")) := by
  obtain ⟨h, X, G⟩ := T.hh
  exact He.glo_ok X G (T.c.fact 31 (f := .glo "_law_pen") rfl)
theorem g_law_draw (T : Tx K mg) : mg "_law_draw" = some (.ref (He.ga K "_law_draw")) := by
  obtain ⟨h, X, G⟩ := T.hh
  exact He.glo_ok X G (T.c.fact 32 (f := .glo "_law_draw") rfl)
theorem g_law_pick (T : Tx K mg) : mg "_law_pick" = some (.ref (He.ga K "_law_pick")) := by
  obtain ⟨h, X, G⟩ := T.hh
  exact He.glo_ok X G (T.c.fact 33 (f := .glo "_law_pick") rfl)
theorem g_law_steps (T : Tx K mg) : mg "_law_steps" = some (.ref (He.ga K "_law_steps")) := by
  obtain ⟨h, X, G⟩ := T.hh
  exact He.glo_ok X G (T.c.fact 34 (f := .glo "_law_steps") rfl)
theorem g_law_moved (T : Tx K mg) : mg "_law_moved" = some (.ref (He.ga K "_law_moved")) := by
  obtain ⟨h, X, G⟩ := T.hh
  exact He.glo_ok X G (T.c.fact 35 (f := .glo "_law_moved") rfl)
theorem g_law_drawn (T : Tx K mg) : mg "_law_drawn" = some (.ref (He.ga K "_law_drawn")) := by
  obtain ⟨h, X, G⟩ := T.hh
  exact He.glo_ok X G (T.c.fact 36 (f := .glo "_law_drawn") rfl)
theorem g_law_is_from (T : Tx K mg) : mg "_law_is_from" = some (.ref (He.ga K "_law_is_from")) := by
  obtain ⟨h, X, G⟩ := T.hh
  exact He.glo_ok X G (T.c.fact 37 (f := .glo "_law_is_from") rfl)
theorem g_law_is_word (T : Tx K mg) : mg "_law_is_word" = some (.ref (He.ga K "_law_is_word")) := by
  obtain ⟨h, X, G⟩ := T.hh
  exact He.glo_ok X G (T.c.fact 38 (f := .glo "_law_is_word") rfl)
theorem g_law_entry (T : Tx K mg) : mg "_law_entry" = some (.ref (He.ga K "_law_entry")) := by
  obtain ⟨h, X, G⟩ := T.hh
  exact He.glo_ok X G (T.c.fact 39 (f := .glo "_law_entry") rfl)
theorem g_law_part (T : Tx K mg) : mg "_law_part" = some (.ref (He.ga K "_law_part")) := by
  obtain ⟨h, X, G⟩ := T.hh
  exact He.glo_ok X G (T.c.fact 40 (f := .glo "_law_part") rfl)
theorem g_law_weighed (T : Tx K mg) : mg "_law_weighed" = some (.ref (He.ga K "_law_weighed")) := by
  obtain ⟨h, X, G⟩ := T.hh
  exact He.glo_ok X G (T.c.fact 41 (f := .glo "_law_weighed") rfl)
theorem g_law_all (T : Tx K mg) : mg "_law_all" = some (.ref (He.ga K "_law_all")) := by
  obtain ⟨h, X, G⟩ := T.hh
  exact He.glo_ok X G (T.c.fact 42 (f := .glo "_law_all") rfl)
theorem g_law_is_row (T : Tx K mg) : mg "_law_is_row" = some (.ref (He.ga K "_law_is_row")) := by
  obtain ⟨h, X, G⟩ := T.hh
  exact He.glo_ok X G (T.c.fact 43 (f := .glo "_law_is_row") rfl)
theorem g_law_is_great_row (T : Tx K mg) : mg "_law_is_great_row" = some (.ref (He.ga K "_law_is_great_row")) := by
  obtain ⟨h, X, G⟩ := T.hh
  exact He.glo_ok X G (T.c.fact 44 (f := .glo "_law_is_great_row") rfl)
theorem g_law_is_refused (T : Tx K mg) : mg "_law_is_refused" = some (.ref (He.ga K "_law_is_refused")) := by
  obtain ⟨h, X, G⟩ := T.hh
  exact He.glo_ok X G (T.c.fact 45 (f := .glo "_law_is_refused") rfl)
theorem g_law (T : Tx K mg) : mg "law" = some (.ref (He.ga K "law")) := by
  obtain ⟨h, X, G⟩ := T.hh
  exact He.glo_ok X G (T.c.fact 46 (f := .glo "law") rfl)
theorem z_isinstance (T : Tx K mg) : mg "isinstance" = none := by
  obtain ⟨h, X, G⟩ := T.hh
  exact He.free_ok X G (T.c.fact 47 (f := .free "isinstance") rfl)
theorem z_len (T : Tx K mg) : mg "len" = none := by
  obtain ⟨h, X, G⟩ := T.hh
  exact He.free_ok X G (T.c.fact 48 (f := .free "len") rfl)
theorem z_all (T : Tx K mg) : mg "all" = none := by
  obtain ⟨h, X, G⟩ := T.hh
  exact He.free_ok X G (T.c.fact 49 (f := .free "all") rfl)
theorem z_zip (T : Tx K mg) : mg "zip" = none := by
  obtain ⟨h, X, G⟩ := T.hh
  exact He.free_ok X G (T.c.fact 50 (f := .free "zip") rfl)
theorem z_range (T : Tx K mg) : mg "range" = none := by
  obtain ⟨h, X, G⟩ := T.hh
  exact He.free_ok X G (T.c.fact 51 (f := .free "range") rfl)
theorem z_enumerate (T : Tx K mg) : mg "enumerate" = none := by
  obtain ⟨h, X, G⟩ := T.hh
  exact He.free_ok X G (T.c.fact 52 (f := .free "enumerate") rfl)
theorem z_tuple (T : Tx K mg) : mg "tuple" = none := by
  obtain ⟨h, X, G⟩ := T.hh
  exact He.free_ok X G (T.c.fact 53 (f := .free "tuple") rfl)
theorem z_sorted (T : Tx K mg) : mg "sorted" = none := by
  obtain ⟨h, X, G⟩ := T.hh
  exact He.free_ok X G (T.c.fact 54 (f := .free "sorted") rfl)
theorem z_sum (T : Tx K mg) : mg "sum" = none := by
  obtain ⟨h, X, G⟩ := T.hh
  exact He.free_ok X G (T.c.fact 55 (f := .free "sum") rfl)
theorem z_set (T : Tx K mg) : mg "set" = none := by
  obtain ⟨h, X, G⟩ := T.hh
  exact He.free_ok X G (T.c.fact 56 (f := .free "set") rfl)
theorem z_list (T : Tx K mg) : mg "list" = none := by
  obtain ⟨h, X, G⟩ := T.hh
  exact He.free_ok X G (T.c.fact 57 (f := .free "list") rfl)
theorem z_abs (T : Tx K mg) : mg "abs" = none := by
  obtain ⟨h, X, G⟩ := T.hh
  exact He.free_ok X G (T.c.fact 58 (f := .free "abs") rfl)
theorem z_int (T : Tx K mg) : mg "int" = none := by
  obtain ⟨h, X, G⟩ := T.hh
  exact He.free_ok X G (T.c.fact 59 (f := .free "int") rfl)
theorem z_bool (T : Tx K mg) : mg "bool" = none := by
  obtain ⟨h, X, G⟩ := T.hh
  exact He.free_ok X G (T.c.fact 60 (f := .free "bool") rfl)
theorem z_ValueError (T : Tx K mg) : mg "ValueError" = none := by
  obtain ⟨h, X, G⟩ := T.hh
  exact He.free_ok X G (T.c.fact 61 (f := .free "ValueError") rfl)
theorem i_MOST_PRICE (T : Tx K mg) : ∃ t, mg "MOST_PRICE" = some (.int 1000000 t) := by
  obtain ⟨h, X, G⟩ := T.hh
  exact He.int_ok X G (T.c.fact 62 (f := .int "MOST_PRICE" 1000000) rfl)
theorem i_MOST_BOLTS_made (T : Tx K mg) : ∃ t, mg "MOST_BOLTS_made" = some (.int 60 t) := by
  obtain ⟨h, X, G⟩ := T.hh
  exact He.int_ok X G (T.c.fact 63 (f := .int "MOST_BOLTS_made" 60) rfl)
theorem i_MOST_BOLTS_locks (T : Tx K mg) : ∃ t, mg "MOST_BOLTS_locks" = some (.int 60 t) := by
  obtain ⟨h, X, G⟩ := T.hh
  exact He.int_ok X G (T.c.fact 64 (f := .int "MOST_BOLTS_locks" 60) rfl)
theorem i_MOST_WAYS (T : Tx K mg) : ∃ t, mg "MOST_WAYS" = some (.int 8 t) := by
  obtain ⟨h, X, G⟩ := T.hh
  exact He.int_ok X G (T.c.fact 65 (f := .int "MOST_WAYS" 8) rfl)
theorem i_MOST_WORDS (T : Tx K mg) : ∃ t, mg "MOST_WORDS" = some (.int 8 t) := by
  obtain ⟨h, X, G⟩ := T.hh
  exact He.int_ok X G (T.c.fact 66 (f := .int "MOST_WORDS" 8) rfl)
theorem i_MOST_WISHES (T : Tx K mg) : ∃ t, mg "MOST_WISHES" = some (.int 4 t) := by
  obtain ⟨h, X, G⟩ := T.hh
  exact He.int_ok X G (T.c.fact 67 (f := .int "MOST_WISHES" 4) rfl)
theorem g_Solver (T : Tx K mg) : mg "Solver" = some (.ref (He.ga K "Solver")) := by
  obtain ⟨h, X, G⟩ := T.hh
  exact He.glo_ok X G (T.c.fact 68 (f := .glo "Solver") rfl)
theorem cls_Solver (T : Tx K mg) : Cls K (He.ga K "Solver") := He.cls_ok (T.c.fact 69 (f := .cls "Solver") rfl)
theorem mkr_Solver (T : Tx K mg) : Mk K (He.ga K "Solver") (He.ma K (He.ga K "Solver") "__init__") := He.mkr_ok (T.c.fact 70 (f := .mkr "Solver") rfl)
theorem m_Solver_best (T : Tx K mg) : Meth K (He.ga K "Solver") "best" (He.ma K (He.ga K "Solver") "best") := He.meth_ok (T.c.fact 71 (f := .meth "Solver" "best") rfl)
theorem m_Solver_choice (T : Tx K mg) : Meth K (He.ga K "Solver") "choice" (He.ma K (He.ga K "Solver") "choice") := He.meth_ok (T.c.fact 72 (f := .meth "Solver" "choice") rfl)
theorem m_Solver_reckon (T : Tx K mg) : Meth K (He.ga K "Solver") "reckon" (He.ma K (He.ga K "Solver") "reckon") := He.meth_ok (T.c.fact 73 (f := .meth "Solver" "reckon") rfl)
theorem m_Solver_first_turns (T : Tx K mg) : Meth K (He.ga K "Solver") "first_turns" (He.ma K (He.ga K "Solver") "first_turns") := He.meth_ok (T.c.fact 74 (f := .meth "Solver" "first_turns") rfl)
theorem m_Solver_lessen (T : Tx K mg) : Meth K (He.ga K "Solver") "lessen" (He.ma K (He.ga K "Solver") "lessen") := He.meth_ok (T.c.fact 75 (f := .meth "Solver" "lessen") rfl)
theorem m_Solver_reckon_family (T : Tx K mg) : Meth K (He.ga K "Solver") "reckon_family" (He.ma K (He.ga K "Solver") "reckon_family") := He.meth_ok (T.c.fact 76 (f := .meth "Solver" "reckon_family") rfl)
theorem n_Solver_lock (T : Tx K mg) : NoAttr K (He.ga K "Solver") "lock" := He.noat_ok (T.c.fact 77 (f := .noat "Solver" "lock") rfl)
theorem n_Solver_costs (T : Tx K mg) : NoAttr K (He.ga K "Solver") "costs" := He.noat_ok (T.c.fact 78 (f := .noat "Solver" "costs") rfl)
theorem n_Solver_nothing (T : Tx K mg) : NoAttr K (He.ga K "Solver") "nothing" := He.noat_ok (T.c.fact 79 (f := .noat "Solver" "nothing") rfl)
theorem n_Solver_known (T : Tx K mg) : NoAttr K (He.ga K "Solver") "known" := He.noat_ok (T.c.fact 80 (f := .noat "Solver" "known") rfl)
theorem n_Solver_families (T : Tx K mg) : NoAttr K (He.ga K "Solver") "families" := He.noat_ok (T.c.fact 81 (f := .noat "Solver" "families") rfl)
theorem g_Binding (T : Tx K mg) : mg "Binding" = some (.ref (He.ga K "Binding")) := by
  obtain ⟨h, X, G⟩ := T.hh
  exact He.glo_ok X G (T.c.fact 82 (f := .glo "Binding") rfl)
theorem cls_Binding (T : Tx K mg) : Cls K (He.ga K "Binding") := He.cls_ok (T.c.fact 83 (f := .cls "Binding") rfl)
theorem mkr_Binding (T : Tx K mg) : Mk K (He.ga K "Binding") (He.ma K (He.ga K "Binding") "__init__") := He.mkr_ok (T.c.fact 84 (f := .mkr "Binding") rfl)
theorem m_Binding_pieces (T : Tx K mg) : Meth K (He.ga K "Binding") "pieces" (He.ma K (He.ga K "Binding") "pieces") := He.meth_ok (T.c.fact 85 (f := .meth "Binding" "pieces") rfl)
theorem m_Binding_bind (T : Tx K mg) : Meth K (He.ga K "Binding") "bind" (He.ma K (He.ga K "Binding") "bind") := He.meth_ok (T.c.fact 86 (f := .meth "Binding" "bind") rfl)
theorem m_Binding_whole (T : Tx K mg) : Meth K (He.ga K "Binding") "whole" (He.ma K (He.ga K "Binding") "whole") := He.meth_ok (T.c.fact 87 (f := .meth "Binding" "whole") rfl)
theorem n_Binding_solver (T : Tx K mg) : NoAttr K (He.ga K "Binding") "solver" := He.noat_ok (T.c.fact 88 (f := .noat "Binding" "solver") rfl)
theorem n_Binding_pages (T : Tx K mg) : NoAttr K (He.ga K "Binding") "pages" := He.noat_ok (T.c.fact 89 (f := .noat "Binding" "pages") rfl)
theorem n_Binding_bound (T : Tx K mg) : NoAttr K (He.ga K "Binding") "bound" := He.noat_ok (T.c.fact 90 (f := .noat "Binding" "bound") rfl)
theorem g_NoPlaces (T : Tx K mg) : mg "NoPlaces" = some (.ref (He.ga K "NoPlaces")) := by
  obtain ⟨h, X, G⟩ := T.hh
  exact He.glo_ok X G (T.c.fact 91 (f := .glo "NoPlaces") rfl)
theorem f_is_whole (T : Tx K mg) : ∃ fd, FunD K d_is_whole.name d_is_whole.qual d_is_whole.params d_is_whole.body d_is_whole.scope (d_is_whole.dvs K) (d_is_whole.kws K) (He.fAd K d_is_whole.at_) fd := T.c.def_ 0 (d := d_is_whole) rfl
theorem f_is_from (T : Tx K mg) : ∃ fd, FunD K d_is_from.name d_is_from.qual d_is_from.params d_is_from.body d_is_from.scope (d_is_from.dvs K) (d_is_from.kws K) (He.fAd K d_is_from.at_) fd := T.c.def_ 1 (d := d_is_from) rfl
theorem f_is_tuple (T : Tx K mg) : ∃ fd, FunD K d_is_tuple.name d_is_tuple.qual d_is_tuple.params d_is_tuple.body d_is_tuple.scope (d_is_tuple.dvs K) (d_is_tuple.kws K) (He.fAd K d_is_tuple.at_) fd := T.c.def_ 2 (d := d_is_tuple) rfl
theorem f_is_word (T : Tx K mg) : ∃ fd, FunD K d_is_word.name d_is_word.qual d_is_word.params d_is_word.body d_is_word.scope (d_is_word.dvs K) (d_is_word.kws K) (He.fAd K d_is_word.at_) fd := T.c.def_ 3 (d := d_is_word) rfl
theorem f_is_open_word (T : Tx K mg) : ∃ fd, FunD K d_is_open_word.name d_is_open_word.qual d_is_open_word.params d_is_open_word.body d_is_open_word.scope (d_is_open_word.dvs K) (d_is_open_word.kws K) (He.fAd K d_is_open_word.at_) fd := T.c.def_ 4 (d := d_is_open_word) rfl
theorem f_are_rising (T : Tx K mg) : ∃ fd, FunD K d_are_rising.name d_are_rising.qual d_are_rising.params d_are_rising.body d_are_rising.scope (d_are_rising.dvs K) (d_are_rising.kws K) (He.fAd K d_are_rising.at_) fd := T.c.def_ 5 (d := d_are_rising) rfl
theorem f_tied (T : Tx K mg) : ∃ fd, FunD K d_tied.name d_tied.qual d_tied.params d_tied.body d_tied.scope (d_tied.dvs K) (d_tied.kws K) (He.fAd K d_tied.at_) fd := T.c.def_ 6 (d := d_tied) rfl
theorem f_row_of (T : Tx K mg) : ∃ fd, FunD K d_row_of.name d_row_of.qual d_row_of.params d_row_of.body d_row_of.scope (d_row_of.dvs K) (d_row_of.kws K) (He.fAd K d_row_of.at_) fd := T.c.def_ 7 (d := d_row_of) rfl
theorem f_is_gap (T : Tx K mg) : ∃ fd, FunD K d_is_gap.name d_is_gap.qual d_is_gap.params d_is_gap.body d_is_gap.scope (d_is_gap.dvs K) (d_is_gap.kws K) (He.fAd K d_is_gap.at_) fd := T.c.def_ 8 (d := d_is_gap) rfl
theorem f_is_bolt (T : Tx K mg) : ∃ fd, FunD K d_is_bolt.name d_is_bolt.qual d_is_bolt.params d_is_bolt.body d_is_bolt.scope (d_is_bolt.dvs K) (d_is_bolt.kws K) (He.fAd K d_is_bolt.at_) fd := T.c.def_ 9 (d := d_is_bolt) rfl
theorem f_ways_of (T : Tx K mg) : ∃ fd, FunD K d_ways_of.name d_ways_of.qual d_ways_of.params d_ways_of.body d_ways_of.scope (d_ways_of.dvs K) (d_ways_of.kws K) (He.fAd K d_ways_of.at_) fd := T.c.def_ 10 (d := d_ways_of) rfl
theorem f_first_wide (T : Tx K mg) : ∃ fd, FunD K d_first_wide.name d_first_wide.qual d_first_wide.params d_first_wide.body d_first_wide.scope (d_first_wide.dvs K) (d_first_wide.kws K) (He.fAd K d_first_wide.at_) fd := T.c.def_ 11 (d := d_first_wide) rfl
theorem f_fault_of (T : Tx K mg) : ∃ fd, FunD K d_fault_of.name d_fault_of.qual d_fault_of.params d_fault_of.body d_fault_of.scope (d_fault_of.dvs K) (d_fault_of.kws K) (He.fAd K d_fault_of.at_) fd := T.c.def_ 12 (d := d_fault_of) rfl
theorem f_must_be_lock (T : Tx K mg) : ∃ fd, FunD K d_must_be_lock.name d_must_be_lock.qual d_must_be_lock.params d_must_be_lock.body d_must_be_lock.scope (d_must_be_lock.dvs K) (d_must_be_lock.kws K) (He.fAd K d_must_be_lock.at_) fd := T.c.def_ 13 (d := d_must_be_lock) rfl
theorem f_must_stand (T : Tx K mg) : ∃ fd, FunD K d_must_stand.name d_must_stand.qual d_must_stand.params d_must_stand.body d_must_stand.scope (d_must_stand.dvs K) (d_must_stand.kws K) (He.fAd K d_must_stand.at_) fd := T.c.def_ 14 (d := d_must_stand) rfl
theorem f_must_wish_all (T : Tx K mg) : ∃ fd, FunD K d_must_wish_all.name d_must_wish_all.qual d_must_wish_all.params d_must_wish_all.body d_must_wish_all.scope (d_must_wish_all.dvs K) (d_must_wish_all.kws K) (He.fAd K d_must_wish_all.at_) fd := T.c.def_ 15 (d := d_must_wish_all) rfl
theorem f_steps_at (T : Tx K mg) : ∃ fd, FunD K d_steps_at.name d_steps_at.qual d_steps_at.params d_steps_at.body d_steps_at.scope (d_steps_at.dvs K) (d_steps_at.kws K) (He.fAd K d_steps_at.at_) fd := T.c.def_ 16 (d := d_steps_at) rfl
theorem f_can_step (T : Tx K mg) : ∃ fd, FunD K d_can_step.name d_can_step.qual d_can_step.params d_can_step.body d_can_step.scope (d_can_step.dvs K) (d_can_step.kws K) (He.fAd K d_can_step.at_) fd := T.c.def_ 17 (d := d_can_step) rfl
theorem f_lower (T : Tx K mg) : ∃ fd, FunD K d_lower.name d_lower.qual d_lower.params d_lower.body d_lower.scope (d_lower.dvs K) (d_lower.kws K) (He.fAd K d_lower.at_) fd := T.c.def_ 18 (d := d_lower) rfl
theorem f_first_place (T : Tx K mg) : ∃ fd, FunD K d_first_place.name d_first_place.qual d_first_place.params d_first_place.body d_first_place.scope (d_first_place.dvs K) (d_first_place.kws K) (He.fAd K d_first_place.at_) fd := T.c.def_ 19 (d := d_first_place) rfl
theorem f_is_still (T : Tx K mg) : ∃ fd, FunD K d_is_still.name d_is_still.qual d_is_still.params d_is_still.body d_is_still.scope (d_is_still.dvs K) (d_is_still.kws K) (He.fAd K d_is_still.at_) fd := T.c.def_ 20 (d := d_is_still) rfl
theorem f_ahead_most (T : Tx K mg) : ∃ fd, FunD K d_ahead_most.name d_ahead_most.qual d_ahead_most.params d_ahead_most.body d_ahead_most.scope (d_ahead_most.dvs K) (d_ahead_most.kws K) (He.fAd K d_ahead_most.at_) fd := T.c.def_ 21 (d := d_ahead_most) rfl
theorem f_splits (T : Tx K mg) : ∃ fd, FunD K d_splits.name d_splits.qual d_splits.params d_splits.body d_splits.scope (d_splits.dvs K) (d_splits.kws K) (He.fAd K d_splits.at_) fd := T.c.def_ 22 (d := d_splits) rfl
theorem f_added (T : Tx K mg) : ∃ fd, FunD K d_added.name d_added.qual d_added.params d_added.body d_added.scope (d_added.dvs K) (d_added.kws K) (He.fAd K d_added.at_) fd := T.c.def_ 23 (d := d_added) rfl
theorem f_price_alone (T : Tx K mg) : ∃ fd, FunD K d_price_alone.name d_price_alone.qual d_price_alone.params d_price_alone.body d_price_alone.scope (d_price_alone.dvs K) (d_price_alone.kws K) (He.fAd K d_price_alone.at_) fd := T.c.def_ 24 (d := d_price_alone) rfl
theorem f_Solver_init (T : Tx K mg) : ∃ fd, FunD K d_Solver_init.name d_Solver_init.qual d_Solver_init.params d_Solver_init.body d_Solver_init.scope (d_Solver_init.dvs K) (d_Solver_init.kws K) (He.fAd K d_Solver_init.at_) fd := T.c.def_ 25 (d := d_Solver_init) rfl
theorem f_Solver_best (T : Tx K mg) : ∃ fd, FunD K d_Solver_best.name d_Solver_best.qual d_Solver_best.params d_Solver_best.body d_Solver_best.scope (d_Solver_best.dvs K) (d_Solver_best.kws K) (He.fAd K d_Solver_best.at_) fd := T.c.def_ 26 (d := d_Solver_best) rfl
theorem f_Solver_choice (T : Tx K mg) : ∃ fd, FunD K d_Solver_choice.name d_Solver_choice.qual d_Solver_choice.params d_Solver_choice.body d_Solver_choice.scope (d_Solver_choice.dvs K) (d_Solver_choice.kws K) (He.fAd K d_Solver_choice.at_) fd := T.c.def_ 27 (d := d_Solver_choice) rfl
theorem f_Solver_reckon (T : Tx K mg) : ∃ fd, FunD K d_Solver_reckon.name d_Solver_reckon.qual d_Solver_reckon.params d_Solver_reckon.body d_Solver_reckon.scope (d_Solver_reckon.dvs K) (d_Solver_reckon.kws K) (He.fAd K d_Solver_reckon.at_) fd := T.c.def_ 28 (d := d_Solver_reckon) rfl
theorem f_Solver_first_turns (T : Tx K mg) : ∃ fd, FunD K d_Solver_first_turns.name d_Solver_first_turns.qual d_Solver_first_turns.params d_Solver_first_turns.body d_Solver_first_turns.scope (d_Solver_first_turns.dvs K) (d_Solver_first_turns.kws K) (He.fAd K d_Solver_first_turns.at_) fd := T.c.def_ 29 (d := d_Solver_first_turns) rfl
theorem f_Solver_lessen (T : Tx K mg) : ∃ fd, FunD K d_Solver_lessen.name d_Solver_lessen.qual d_Solver_lessen.params d_Solver_lessen.body d_Solver_lessen.scope (d_Solver_lessen.dvs K) (d_Solver_lessen.kws K) (He.fAd K d_Solver_lessen.at_) fd := T.c.def_ 30 (d := d_Solver_lessen) rfl
theorem f_Solver_reckon_family (T : Tx K mg) : ∃ fd, FunD K d_Solver_reckon_family.name d_Solver_reckon_family.qual d_Solver_reckon_family.params d_Solver_reckon_family.body d_Solver_reckon_family.scope (d_Solver_reckon_family.dvs K) (d_Solver_reckon_family.kws K) (He.fAd K d_Solver_reckon_family.at_) fd := T.c.def_ 31 (d := d_Solver_reckon_family) rfl
theorem f_below (T : Tx K mg) : ∃ fd, FunD K d_below.name d_below.qual d_below.params d_below.body d_below.scope (d_below.dvs K) (d_below.kws K) (He.fAd K d_below.at_) fd := T.c.def_ 32 (d := d_below) rfl
theorem f_first_last (T : Tx K mg) : ∃ fd, FunD K d_first_last.name d_first_last.qual d_first_last.params d_first_last.body d_first_last.scope (d_first_last.dvs K) (d_first_last.kws K) (He.fAd K d_first_last.at_) fd := T.c.def_ 33 (d := d_first_last) rfl
theorem f_used (T : Tx K mg) : ∃ fd, FunD K d_used.name d_used.qual d_used.params d_used.body d_used.scope (d_used.dvs K) (d_used.kws K) (He.fAd K d_used.at_) fd := T.c.def_ 34 (d := d_used) rfl
theorem f_Binding_init (T : Tx K mg) : ∃ fd, FunD K d_Binding_init.name d_Binding_init.qual d_Binding_init.params d_Binding_init.body d_Binding_init.scope (d_Binding_init.dvs K) (d_Binding_init.kws K) (He.fAd K d_Binding_init.at_) fd := T.c.def_ 35 (d := d_Binding_init) rfl
theorem f_Binding_pieces (T : Tx K mg) : ∃ fd, FunD K d_Binding_pieces.name d_Binding_pieces.qual d_Binding_pieces.params d_Binding_pieces.body d_Binding_pieces.scope (d_Binding_pieces.dvs K) (d_Binding_pieces.kws K) (He.fAd K d_Binding_pieces.at_) fd := T.c.def_ 36 (d := d_Binding_pieces) rfl
theorem f_Binding_bind (T : Tx K mg) : ∃ fd, FunD K d_Binding_bind.name d_Binding_bind.qual d_Binding_bind.params d_Binding_bind.body d_Binding_bind.scope (d_Binding_bind.dvs K) (d_Binding_bind.kws K) (He.fAd K d_Binding_bind.at_) fd := T.c.def_ 37 (d := d_Binding_bind) rfl
theorem f_Binding_whole (T : Tx K mg) : ∃ fd, FunD K d_Binding_whole.name d_Binding_whole.qual d_Binding_whole.params d_Binding_whole.body d_Binding_whole.scope (d_Binding_whole.dvs K) (d_Binding_whole.kws K) (He.fAd K d_Binding_whole.at_) fd := T.c.def_ 38 (d := d_Binding_whole) rfl
theorem f_told_way (T : Tx K mg) : ∃ fd, FunD K d_told_way.name d_told_way.qual d_told_way.params d_told_way.body d_told_way.scope (d_told_way.dvs K) (d_told_way.kws K) (He.fAd K d_told_way.at_) fd := T.c.def_ 39 (d := d_told_way) rfl
theorem f_least_price (T : Tx K mg) : ∃ fd, FunD K d_least_price.name d_least_price.qual d_least_price.params d_least_price.body d_least_price.scope (d_least_price.dvs K) (d_least_price.kws K) (He.fAd K d_least_price.at_) fd := T.c.def_ 40 (d := d_least_price) rfl
theorem f_least (T : Tx K mg) : ∃ fd, FunD K d_least.name d_least.qual d_least.params d_least.body d_least.scope (d_least.dvs K) (d_least.kws K) (He.fAd K d_least.at_) fd := T.c.def_ 41 (d := d_least) rfl
theorem f_law_pen (T : Tx K mg) : ∃ fd, FunD K d_law_pen.name d_law_pen.qual d_law_pen.params d_law_pen.body d_law_pen.scope (d_law_pen.dvs K) (d_law_pen.kws K) (He.fAd K d_law_pen.at_) fd := T.c.def_ 42 (d := d_law_pen) rfl
theorem f_law_draw (T : Tx K mg) : ∃ fd, FunD K d_law_draw.name d_law_draw.qual d_law_draw.params d_law_draw.body d_law_draw.scope (d_law_draw.dvs K) (d_law_draw.kws K) (He.fAd K d_law_draw.at_) fd := T.c.def_ 43 (d := d_law_draw) rfl
theorem f_law_pick (T : Tx K mg) : ∃ fd, FunD K d_law_pick.name d_law_pick.qual d_law_pick.params d_law_pick.body d_law_pick.scope (d_law_pick.dvs K) (d_law_pick.kws K) (He.fAd K d_law_pick.at_) fd := T.c.def_ 44 (d := d_law_pick) rfl
theorem f_law_steps (T : Tx K mg) : ∃ fd, FunD K d_law_steps.name d_law_steps.qual d_law_steps.params d_law_steps.body d_law_steps.scope (d_law_steps.dvs K) (d_law_steps.kws K) (He.fAd K d_law_steps.at_) fd := T.c.def_ 45 (d := d_law_steps) rfl
theorem f_law_moved (T : Tx K mg) : ∃ fd, FunD K d_law_moved.name d_law_moved.qual d_law_moved.params d_law_moved.body d_law_moved.scope (d_law_moved.dvs K) (d_law_moved.kws K) (He.fAd K d_law_moved.at_) fd := T.c.def_ 46 (d := d_law_moved) rfl
theorem f_law_drawn (T : Tx K mg) : ∃ fd, FunD K d_law_drawn.name d_law_drawn.qual d_law_drawn.params d_law_drawn.body d_law_drawn.scope (d_law_drawn.dvs K) (d_law_drawn.kws K) (He.fAd K d_law_drawn.at_) fd := T.c.def_ 47 (d := d_law_drawn) rfl
theorem f_law_is_from (T : Tx K mg) : ∃ fd, FunD K d_law_is_from.name d_law_is_from.qual d_law_is_from.params d_law_is_from.body d_law_is_from.scope (d_law_is_from.dvs K) (d_law_is_from.kws K) (He.fAd K d_law_is_from.at_) fd := T.c.def_ 48 (d := d_law_is_from) rfl
theorem f_law_is_word (T : Tx K mg) : ∃ fd, FunD K d_law_is_word.name d_law_is_word.qual d_law_is_word.params d_law_is_word.body d_law_is_word.scope (d_law_is_word.dvs K) (d_law_is_word.kws K) (He.fAd K d_law_is_word.at_) fd := T.c.def_ 49 (d := d_law_is_word) rfl
theorem f_law_entry (T : Tx K mg) : ∃ fd, FunD K d_law_entry.name d_law_entry.qual d_law_entry.params d_law_entry.body d_law_entry.scope (d_law_entry.dvs K) (d_law_entry.kws K) (He.fAd K d_law_entry.at_) fd := T.c.def_ 50 (d := d_law_entry) rfl
theorem f_law_part (T : Tx K mg) : ∃ fd, FunD K d_law_part.name d_law_part.qual d_law_part.params d_law_part.body d_law_part.scope (d_law_part.dvs K) (d_law_part.kws K) (He.fAd K d_law_part.at_) fd := T.c.def_ 51 (d := d_law_part) rfl
theorem f_law_weighed (T : Tx K mg) : ∃ fd, FunD K d_law_weighed.name d_law_weighed.qual d_law_weighed.params d_law_weighed.body d_law_weighed.scope (d_law_weighed.dvs K) (d_law_weighed.kws K) (He.fAd K d_law_weighed.at_) fd := T.c.def_ 52 (d := d_law_weighed) rfl
theorem f_law_all (T : Tx K mg) : ∃ fd, FunD K d_law_all.name d_law_all.qual d_law_all.params d_law_all.body d_law_all.scope (d_law_all.dvs K) (d_law_all.kws K) (He.fAd K d_law_all.at_) fd := T.c.def_ 53 (d := d_law_all) rfl
theorem f_law_is_row (T : Tx K mg) : ∃ fd, FunD K d_law_is_row.name d_law_is_row.qual d_law_is_row.params d_law_is_row.body d_law_is_row.scope (d_law_is_row.dvs K) (d_law_is_row.kws K) (He.fAd K d_law_is_row.at_) fd := T.c.def_ 54 (d := d_law_is_row) rfl
theorem f_law_is_great_row (T : Tx K mg) : ∃ fd, FunD K d_law_is_great_row.name d_law_is_great_row.qual d_law_is_great_row.params d_law_is_great_row.body d_law_is_great_row.scope (d_law_is_great_row.dvs K) (d_law_is_great_row.kws K) (He.fAd K d_law_is_great_row.at_) fd := T.c.def_ 55 (d := d_law_is_great_row) rfl
theorem f_law_is_refused (T : Tx K mg) : ∃ fd, FunD K d_law_is_refused.name d_law_is_refused.qual d_law_is_refused.params d_law_is_refused.body d_law_is_refused.scope (d_law_is_refused.dvs K) (d_law_is_refused.kws K) (He.fAd K d_law_is_refused.at_) fd := T.c.def_ 56 (d := d_law_is_refused) rfl
theorem f_law (T : Tx K mg) : ∃ fd, FunD K d_law.name d_law.qual d_law.params d_law.body d_law.scope (d_law.dvs K) (d_law.kws K) (He.fAd K d_law.at_) fd := T.c.def_ 57 (d := d_law) rfl
end Tx
/-! ### a def that reads data and gives data -/
def entryA : AV → AV
  | .own xs => .bw xs
  | a => a
theorem entry_slot {K : PySem.W.Frag} {H : Hp} {a : AV} {v : V} (h : ArgOk K H a v) : SlotOk K H H (entryA a) (some v) := by
  cases a with
  | no => trivial
  | d x => exact ⟨v, rfl, h⟩
  | bw xs => obtain ⟨l, vs, e, s, r⟩ := h; exact ⟨l, vs, by rw [e], s, r⟩
  | own xs => obtain ⟨l, vs, e, s, r⟩ := h; exact ⟨l, vs, by rw [e], s, r⟩
  | v x => exact congrArg some h
theorem ArgsOk.get {K : PySem.W.Frag} {H : Hp} : ∀ {as : List AV} {vs : List V} {i : Nat} {a : AV}, ArgsOk K H as vs → as[i]? = some a → ∃ v, vs[i]? = some v ∧ ArgOk K H a v
  | [], _, _, _, _, e => by simp at e
  | _ :: _, _, 0, _, ⟨v, r, e1, h1, _⟩, e => by
    subst e1
    have e' := Option.some.inj e
    subst e'
    exact ⟨v, rfl, h1⟩
  | _ :: as, _, i + 1, a, ⟨v, r, e1, _, h2⟩, e => by
    subst e1
    obtain ⟨w, e2, e3⟩ := ArgsOk.get (i := i) (a := a) h2 (by simpa using e)
    exact ⟨w, by simpa using e2, e3⟩
theorem entryA_own {a : AV} {xs : List D} : entryA a ≠ .own xs := by cases a <;> intro h <;> cases h
theorem fm_start {K : PySem.W.Frag} {H : Hp} {N : List Str} {as : List AV} {vs : List V} (h : ArgsOk K H as vs) (hl : as.length ≤ N.length) : Fm K H (L2.start N vs) (as.map entryA ++ List.replicate (N.length - as.length) .no) H := by
  have hlen := h.length
  refine ⟨Same.refl H, by simp [L2.start, hlen], fun i a e => ?_, fun i j xs ys l _ e1 _ _ => ?_⟩
  · by_cases hi : i < as.length
    · rw [List.getElem?_append_left (by rw [List.length_map]; exact hi), List.getElem?_map, List.getElem?_eq_getElem hi] at e
      obtain ⟨v, e2, e3⟩ := h.get (List.getElem?_eq_getElem hi)
      refine ⟨some v, ?_, ?_⟩
      · unfold L2.start
        rw [List.getElem?_append_left (by rw [List.length_map]; omega), List.getElem?_map, e2]
        rfl
      · have ea : entryA as[i] = a := Option.some.inj e
        rw [← ea]
        exact entry_slot e3
    · rw [List.getElem?_append_right (by rw [List.length_map]; omega), List.getElem?_replicate] at e
      split at e
      · cases e
        rename_i hr
        refine ⟨none, ?_, trivial⟩
        unfold L2.start
        rw [List.getElem?_append_right (by rw [List.length_map]; omega), List.getElem?_replicate, if_pos (by rw [List.length_map] at hr ⊢; omega)]
      · cases e
  · exfalso
    by_cases hi : i < as.length
    · rw [List.getElem?_append_left (by rw [List.length_map]; exact hi), List.getElem?_map, List.getElem?_eq_getElem hi] at e1
      exact entryA_own (Option.some.inj e1)
    · rw [List.getElem?_append_right (by rw [List.length_map]; omega), List.getElem?_replicate] at e1
      split at e1 <;> cases e1
/-! ### what can be looked at by isinstance -/
def Tb (a : AV) : Prop := tyOf a ≠ "?"
theorem entry_tb {a : AV} (h : Tb a) : entryA a = a := by cases a with | own xs => exact absurd rfl h | _ => rfl
theorem entry_nn {a : AV} (h : Tb a) : a ≠ .no := fun e => by subst e; exact h rfl
theorem tb_d {x : D} : Tb (.d x) := by
  have n1 : ¬ "NoneType" = "?" := by decide
  have n2 : ¬ "bool" = "?" := by decide
  have n3 : ¬ "int" = "?" := by decide
  have n4 : ¬ "str" = "?" := by decide
  have n5 : ¬ "tuple" = "?" := by decide
  cases x with
  | non => exact n1
  | bl _ => exact n2
  | int _ => exact n3
  | str _ => exact n4
  | tup _ => exact n5
theorem tb_bw {xs : List D} : Tb (.bw xs) := by
  have n1 : ¬ "list" = "?" := by decide
  exact n1
def isIntA : AV → Bool
  | .d (.int _) => true
  | .d (.bl _) => true
  | _ => false
def isBoolA : AV → Bool
  | .d (.bl _) => true
  | _ => false
def isTupA : AV → Bool
  | .d (.tup _) => true
  | _ => false
def isListA : AV → Bool
  | .bw _ => true
  | _ => false
theorem kt_NoneType_int : kitB "NoneType" "int" = some false := by decide +kernel
theorem kt_bool_int : kitB "bool" "int" = some true := by decide +kernel
theorem kt_int_int : kitB "int" "int" = some true := by decide +kernel
theorem kt_str_int : kitB "str" "int" = some false := by decide +kernel
theorem kt_tuple_int : kitB "tuple" "int" = some false := by decide +kernel
theorem kt_list_int : kitB "list" "int" = some false := by decide +kernel
theorem kit_int {a : AV} (h : Tb a) : kitB (tyOf a) "int" = some (isIntA a) := by
  cases a with
  | d x => cases x with
    | non => exact kt_NoneType_int
    | bl _ => exact kt_bool_int
    | int _ => exact kt_int_int
    | str _ => exact kt_str_int
    | tup _ => exact kt_tuple_int
  | bw xs => exact kt_list_int
  | _ => exact absurd rfl h
theorem kt_NoneType_bool : kitB "NoneType" "bool" = some false := by decide +kernel
theorem kt_bool_bool : kitB "bool" "bool" = some true := by decide +kernel
theorem kt_int_bool : kitB "int" "bool" = some false := by decide +kernel
theorem kt_str_bool : kitB "str" "bool" = some false := by decide +kernel
theorem kt_tuple_bool : kitB "tuple" "bool" = some false := by decide +kernel
theorem kt_list_bool : kitB "list" "bool" = some false := by decide +kernel
theorem kit_bool {a : AV} (h : Tb a) : kitB (tyOf a) "bool" = some (isBoolA a) := by
  cases a with
  | d x => cases x with
    | non => exact kt_NoneType_bool
    | bl _ => exact kt_bool_bool
    | int _ => exact kt_int_bool
    | str _ => exact kt_str_bool
    | tup _ => exact kt_tuple_bool
  | bw xs => exact kt_list_bool
  | _ => exact absurd rfl h
theorem kt_NoneType_tuple : kitB "NoneType" "tuple" = some false := by decide +kernel
theorem kt_bool_tuple : kitB "bool" "tuple" = some false := by decide +kernel
theorem kt_int_tuple : kitB "int" "tuple" = some false := by decide +kernel
theorem kt_str_tuple : kitB "str" "tuple" = some false := by decide +kernel
theorem kt_tuple_tuple : kitB "tuple" "tuple" = some true := by decide +kernel
theorem kt_list_tuple : kitB "list" "tuple" = some false := by decide +kernel
theorem kit_tup {a : AV} (h : Tb a) : kitB (tyOf a) "tuple" = some (isTupA a) := by
  cases a with
  | d x => cases x with
    | non => exact kt_NoneType_tuple
    | bl _ => exact kt_bool_tuple
    | int _ => exact kt_int_tuple
    | str _ => exact kt_str_tuple
    | tup _ => exact kt_tuple_tuple
  | bw xs => exact kt_list_tuple
  | _ => exact absurd rfl h
theorem kt_NoneType_list : kitB "NoneType" "list" = some false := by decide +kernel
theorem kt_bool_list : kitB "bool" "list" = some false := by decide +kernel
theorem kt_int_list : kitB "int" "list" = some false := by decide +kernel
theorem kt_str_list : kitB "str" "list" = some false := by decide +kernel
theorem kt_tuple_list : kitB "tuple" "list" = some false := by decide +kernel
theorem kt_list_list : kitB "list" "list" = some true := by decide +kernel
theorem kit_list {a : AV} (h : Tb a) : kitB (tyOf a) "list" = some (isListA a) := by
  cases a with
  | d x => cases x with
    | non => exact kt_NoneType_list
    | bl _ => exact kt_bool_list
    | int _ => exact kt_int_list
    | str _ => exact kt_str_list
    | tup _ => exact kt_tuple_list
  | bw xs => exact kt_list_list
  | _ => exact absurd rfl h
section
variable {X : Cx} {H0 : Hp} {Γ : List AV} {e : Expr} {pos np tp : Pos} {p : AV} {K : PySem.W.Frag}
theorem ge_isInt (T : Tx X.K X.mg) (ha : GV X H0 Γ e p) (hp : Tb p) (hg : Gl X "isinstance" := by rfl) (hgt : Gl X "int" := by rfl) (he : starEach [e, .Name "int" tp] X.env = (false, eval e X.env) :: starEach [.Name "int" tp] X.env := by rfl) (he2 : starEach [.Name "int" tp] X.env = (false, eval (.Name "int" tp) X.env) :: starEach [] X.env := by rfl) (hpl : (backTo pos (starEach [.Name "int" tp] X.env)).any (·.1) = false := by rfl) :
    GE X H0 Γ (.Call (.Name "isinstance" np) [e, .Name "int" tp] [] pos) (.bl (isIntA p)) := ge_isi ha T.z_isinstance T.z_int boot_int' (kit_int hp) hp hg hgt (by decide) (by decide) he he2 hpl
theorem ge_isBool (T : Tx X.K X.mg) (ha : GV X H0 Γ e p) (hp : Tb p) (hg : Gl X "isinstance" := by rfl) (hgt : Gl X "bool" := by rfl) (he : starEach [e, .Name "bool" tp] X.env = (false, eval e X.env) :: starEach [.Name "bool" tp] X.env := by rfl) (he2 : starEach [.Name "bool" tp] X.env = (false, eval (.Name "bool" tp) X.env) :: starEach [] X.env := by rfl) (hpl : (backTo pos (starEach [.Name "bool" tp] X.env)).any (·.1) = false := by rfl) :
    GE X H0 Γ (.Call (.Name "isinstance" np) [e, .Name "bool" tp] [] pos) (.bl (isBoolA p)) := ge_isi ha T.z_isinstance T.z_bool boot_bool' (kit_bool hp) hp hg hgt (by decide) (by decide) he he2 hpl
theorem ge_isTup (T : Tx X.K X.mg) (ha : GV X H0 Γ e p) (hp : Tb p) (hg : Gl X "isinstance" := by rfl) (hgt : Gl X "tuple" := by rfl) (he : starEach [e, .Name "tuple" tp] X.env = (false, eval e X.env) :: starEach [.Name "tuple" tp] X.env := by rfl) (he2 : starEach [.Name "tuple" tp] X.env = (false, eval (.Name "tuple" tp) X.env) :: starEach [] X.env := by rfl) (hpl : (backTo pos (starEach [.Name "tuple" tp] X.env)).any (·.1) = false := by rfl) :
    GE X H0 Γ (.Call (.Name "isinstance" np) [e, .Name "tuple" tp] [] pos) (.bl (isTupA p)) := ge_isi ha T.z_isinstance T.z_tuple boot_tuple (kit_tup hp) hp hg hgt (by decide) (by decide) he he2 hpl
theorem ge_isList (T : Tx X.K X.mg) (ha : GV X H0 Γ e p) (hp : Tb p) (hg : Gl X "isinstance" := by rfl) (hgt : Gl X "list" := by rfl) (he : starEach [e, .Name "list" tp] X.env = (false, eval e X.env) :: starEach [.Name "list" tp] X.env := by rfl) (he2 : starEach [.Name "list" tp] X.env = (false, eval (.Name "list" tp) X.env) :: starEach [] X.env := by rfl) (hpl : (backTo pos (starEach [.Name "list" tp] X.env)).any (·.1) = false := by rfl) :
    GE X H0 Γ (.Call (.Name "isinstance" np) [e, .Name "list" tp] [] pos) (.bl (isListA p)) := ge_isi ha T.z_isinstance T.z_list boot_list (kit_list hp) hp hg hgt (by decide) (by decide) he he2 hpl
end
section
variable {P : Program} {w : World} {K : PySem.W.Frag} {mg : Str → Option Value} {base : Heap}
theorem fnx {x qual : Str} {params : Arguments} {body : List Stmt} {scope : Scope} {dvs : List V} {kws : List (Str × V)} {f : Addr} {fd : FuncData} {N ps : List Str} {k : Nat} {sp : Sp} (F : FunD K x qual params body scope dvs kws f fd) (S : FnScope N ps scope) (len : ∀ vs H Q E, sp vs H Q E → vs.length = ps.length)
    (hb : ∀ (cdv : Value) (A : Around) (outer : List Env) (s : Shared) (H : Hp) (vs : List V) (Q : VK) (E : XK), Cok (cxOf CX0 P w K mg base N qual scope f cdv A outer s H E).nox k → sp vs H Q E →
      SR (cxOf CX0 P w K mg base N qual scope f cdv A outer s H E).nox body { nx := fun _ H' => Q .non H', rt := Q } (L2.start N vs) H) : FnOk P w K mg base CX0 (k + 1) f fd ps sp :=
  fd_ok F S len fun cdv A outer s H vs Q E hr h => ⟨_, PSs.nox pss_self, hb cdv A outer s H vs Q E ⟨PassesOwn.never, rfl, S.nd, hr⟩ h⟩
theorem cal_pure {x : Str} {st : Stmt} {f : Addr} {N ps : List Str} {k : Nat} {dom : List AV → AV → Prop} (hg : mg x = some (.ref f)) (hF : ∃ fd, FunD K x x (defArgs st) (defBody st) (defScope st) [] [] f fd) (S : FnScope N ps (defScope st))
    (hbn : ∀ (kV doc pm : Value) (an : Option Addr) (cdv ct : Value) (us : List Value), us.length = ps.length → bindArgs (PySem.W.fnOf x x (defArgs st) (defBody st) (defScope st) .none kV doc pm an cdv ct) ⟨us, []⟩ = pure (ps.zip us))
    (hlen : ∀ as r, dom as r → as.length = ps.length)
    (hb : ∀ (cdv : Value) (A : Around) (outer : List Env) (s : Shared) (H : Hp) (E : XK), Cok (cxOf CX0 P w K mg base N x (defScope st) f cdv A outer s H E).nox k → ∀ (as : List AV) (r : AV) (Q : VK), dom as r → RetOk K H r Q →
      GS (cxOf CX0 P w K mg base N x (defScope st) f cdv A outer s H E).nox H (as.map entryA ++ List.replicate (N.length - as.length) .no) (defBody st) { nx := fun _ H' => Q .non H', rt := Q }) :
    Cal P w K mg base x ps (k + 1) (spP K dom) := by
  obtain ⟨fd, F⟩ := hF
  refine ⟨f, fd, fnx F S (fun vs H Q E ⟨as, r, h1, h2, _⟩ => by rw [h1.length]; exact hlen as r h2) (fun cdv A outer s H vs Q E C ⟨as, r, h1, h2, h3⟩ => ?_), hg, F.kp, F.bindsN hbn⟩
  refine hb cdv A outer s H E C as r Q h2 h3 _ _ (fm_start h1 ?_)
  have h4 := hlen as r h2
  have h5 := congrArg List.length S.pre
  rw [List.length_take] at h5
  omega
end
end WB
namespace WB
open PySem PySem.Spec PyProof.Rows L2
/-! ### comprehensions of many clauses -/
/-- a turn of a clause: m stands behind its tests -/
def turnSem (tg : Expr) (p : Pos) (ifs : List Expr) (m : Sem Unit) (c : Code) (it : Value) (env : Env) : Sem PySem.Fin := do
  standAt p
  match ← pyNext it with
  | none => pure (.done .next)
  | some v =>
    letOwnedTupleGo tg it v
    assign tg env v
    let mut ok := true
    for c in ifs do if ok then ok ← isTrue c env (eval c env)
    if ok then m
    again c
abbrev TB := L2.St → Hp → (L2.St → Hp → Prop) → Prop
/-- behind a clause -/
def Bh (Y : Cx) (m : Sem Unit) (t : TB) : Prop := ∀ (pins : List (Addr × Obj)) (s : Shared) (σ : L2.St) (H : Hp) (Q : L2.St → Hp → Prop), Inv Y pins σ H s → t σ H Q → wpAny (model Y.prog Y.w) Y.A m (fun _ s' => ∃ σ' H', Inv Y pins σ' H' s' ∧ Q σ' H') (fun _ _ => False) s
def Knows (σ1 σ2 : L2.St) : Prop := σ1.length = σ2.length ∧ ∀ (j : Nat) v, σ1[j]? = some (some v) → σ2[j]? = some (some v)
/-- the reading of a clause's turns -/
def tTurns (g : TG) (tt : TT) (mb : TB) (J : It) (σ1 : L2.St) (H : Hp) (R : Hp → Prop) : Prop := ∃ W : Nat → Nat → Hp → Prop, (∃ m, W 0 m H) ∧ ∀ i n H, W i n H → (J.stop i H ∧ R H) ∨ (J.go i H ∧ ∃ Nx : Hp → Prop, (∀ H', Nx H' → ∃ m', m' < n ∧ W (i + 1) m' H') ∧
  ∀ x H', J.yld i H x H' → g x σ1 H' fun σ2 H2 => Knows σ1 σ2 ∧ tt σ2 H2 fun b H3 => if b = true then mb σ2 H3 (fun σ4 H4 => Knows σ1 σ4 ∧ Nx H4) else Nx H3)
theorem loopN {Y : Cx} {elt tg : Expr} {gens : List Comprehension} {scope : Scope} {pos p : Pos} {depth : Nat} {acc : Value} {it : Addr} {fp : List Addr} {tn : Nat → Heap → Prop} {J : It} {pins : List (Addr × Obj)} {ifs : List Expr} {m : Sem Unit} {g : TG} {tt : TT} {mb : TB} {σ1 : L2.St} {H : Hp} {s : Shared} {R : Hp → Prop} {Rs : Result → Shared → Prop}
    (hc : Y.calm = true) (hxe : Y.xe = fun _ _ => False) (T : Turn Y.prog Y.w Y.K tg J fp it tn) (stat : ∀ {σ' : L2.St} {H' : Hp} {s' : Shared}, Inv Y pins σ' H' s' → (∀ b ∈ fp, H' b = none) → ∀ b ∈ fp, FpOk Y pins H' b)
    (ht : compTurn (.ListComp elt gens scope pos) depth (.ref it) acc Y.env = turnSem tg p ifs m (.compLoop (.ListComp elt gens scope pos) depth (.ref it) acc Y.env) (.ref it) Y.env) (pg : PG Y tg g) (pt : PTs Y ifs tt) (hm : Bh Y m mb)
    (I : Inv Y pins σ1 H s) (st : tn 0 s.heap) (nf : ∀ b ∈ fp, H b = none) (h : tTurns g tt mb J σ1 H R) (fin : ∀ s' H', Inv Y pins σ1 H' s' → R H' → Rs (.ok .next) s') :
    codeAny (model Y.prog Y.w) Y.A (.compLoop (.ListComp elt gens scope pos) depth (.ref it) acc Y.env) Rs s := by
  obtain ⟨W, ⟨m0, w0⟩, turn⟩ := h
  refine codeAny_loop rfl (fun n s' => ∃ i H', Inv Y pins σ1 H' s' ∧ tn i s'.heap ∧ (∀ b ∈ fp, H' b = none) ∧ W i n H') (fun n s1 hI => ?_) m0 ⟨0, H, I, st, nf, w0⟩
  obtain ⟨i, H1, I1, st1, n1, w1⟩ := hI
  show wpAny _ Y.A ((compTurn (.ListComp elt gens scope pos) depth (.ref it) acc Y.env).onRaise (fun x => do noteFrame x Y.env; theTreesLotGoes x)) _ _ s1
  refine wpAny_noted ?_
  rw [ht]
  unfold turnSem
  have pgr := pg.run
  have ptr := pt.run
  rw [hxe] at pgr ptr
  refine wpAny_bind (wpAny_standAt (wpAny_bind ?_))
  rcases turn i n H1 w1 with ⟨stop, qq⟩ | ⟨go, Nx, hNx, step⟩
  · refine thnF (T.done Y rfl rfl rfl hc i pins s1 σ1 H1 (fun _ _ => False) I1 (stat I1 n1) st1 stop) fun r s2 ⟨hr, I2⟩ => ?_
    subst hr
    exact wpAny_pure (fin s2 H1 I2 qq)
  · refine thnF (T.item Y rfl rfl rfl hc i pins s1 σ1 H1 (fun _ _ => False) I1 (stat I1 n1) st1 go) fun r s2 ⟨u, hr, h2⟩ => ?_
    subst hr
    refine wpAny_bind (thnF h2 fun _ s3 ⟨x, H3, I3, r3, y3, st3, n3⟩ => ?_)
    have I3' := I3.pinned (stat I3 n3) (T.obj _ _ st3)
    refine wpAny_bind (thnF (pgr _ s3 _ H3 x u _ I3' r3 (step x H3 y3)) fun _ s4 ⟨σ4, H4, I4, k4, q4⟩ => ?_)
    refine wpAny_bind (thnF (ptr _ s4 σ4 H4 _ I4 q4) fun b s5 ⟨H5, I5, q5⟩ => ?_)
    have done : ∀ {σ' : L2.St} {s' : Shared} {H' : Hp}, Inv Y (pins ++ pinsAt fp s3.heap) σ' H' s' → Knows σ1 σ' → Nx H' → ∃ k, k < n ∧ ∃ i H', Inv Y pins σ1 H' s' ∧ tn i s'.heap ∧ (∀ b ∈ fp, H' b = none) ∧ W i k H' := fun {σ' s' H'} I' kn nx => by
      obtain ⟨m', hm', w'⟩ := hNx H' nx
      have pinned : ∀ b ∈ fp, ∀ o, s3.heap.get? b = some o → s'.heap.get? b = some o ∧ H' b = none := fun b hb o e => by
        have z := I'.pin (b, o) (List.mem_append_right _ (List.mem_append_right _ (mem_pinsAt hb e)))
        exact ⟨z.1, z.2.1⟩
      refine ⟨m', hm', i + 1, H', I'.unpinned.weak kn.1 kn.2, T.keep _ _ _ st3 fun b hb o e => (pinned b hb o e).1, fun b hb => ?_, w'⟩
      obtain ⟨o, eo, _⟩ := T.obj _ _ st3 b hb
      exact (pinned b hb o eo).2
    cases b with
    | false =>
      simp only [Bool.false_eq_true, if_false] at q5 ⊢
      exact wpAny_pure ⟨rfl, done I5 k4 q5⟩
    | true =>
      simp only [if_true] at q5 ⊢
      exact wpAny_bind (thnF (hm _ s5 σ4 H5 _ I5 q5) fun _ s6 ⟨σ6, H6, I6, k6, nx⟩ => wpAny_pure ⟨rfl, done I6 k6 nx⟩)
/-- the item is appended -/
def emitSem (elt : Expr) (acc : Value) (env : Env) : Sem Unit := do let _ ← call (.builtin "list.append") [acc, ← eval elt env]
theorem emit_run {Y : Cx} {elt : Expr} {D : Addr} (hxe : Y.xe = fun _ _ => False) : Bh Y (emitSem elt (.ref D) Y.env) (fun σ H Q => ER Y elt σ H fun y H' => ∃ acc, H' D = some (.lst acc) ∧ acc.length < sizeLine ∧ Q σ (upd H' D (.lst (acc ++ [y])))) := fun pins s σ H Q I h => by
  have h' := h pins s I
  rw [hxe] at h'
  unfold emitSem
  refine wpAny_bind (thnF h' fun v s' ⟨y, H', I', r, acc, e, hz, q⟩ => ?_)
  exact wpAny_bind (app_ok (X := Y) I' e hz r fun s'' I'' => wpAny_pure ⟨σ, _, I'', q⟩)
/-- the next clause's loop -/
def innerSem (iter : Expr) (comp : Expr) (depth : Nat) (acc : Value) (env : Env) : Sem Unit := do
  let x ← eval iter env
  standAt iter.pos
  let x ← foldedSetIterable iter env x
  let _ ← runOwn (.compStart comp (depth + 1) (← holding [x] (pyIter x)) acc env) env
theorem compStartN {P : Program} {w : World} {A : Around} {env : Env} {elt : Expr} {gens : List Comprehension} {g : Comprehension} {scope : Scope} {pos : Pos} {depth : Nat} {it acc : Value} {s : Shared} {Rs : Result → Shared → Prop} (hg : gens[depth]? = some g) (h0 : g.is_async = 0)
    (hl : codeAny (model P w) A (.compLoop (.ListComp elt gens scope pos) depth it acc env) Rs s)
    (hi : wpAny (model P w) A (pyIter it) (fun it' s' => codeAny (model P w) A (.compLoop (.ListComp elt gens scope pos) depth it' acc env) Rs s') (notedBy (model P w) A env fun x s' => Rs (.error x) s') s) :
    codeAny (model P w) A (.compStart (.ListComp elt gens scope pos) depth it acc env) Rs s := by
  refine codeAny_of_tree ?_
  show wpAny _ _ ((compStart (.ListComp elt gens scope pos) depth it acc env).onRaise (fun x => do noteFrame x env; standAt theWindowsPlace)) _ _ s
  refine wpAny_notedAt ?_
  have hcl : (clausesOf (.ListComp elt gens scope pos))[depth]? = some g := hg
  unfold compStart
  rw [hcl]
  have h1 : (some g : Option Comprehension).elim false (fun x => x.is_async != 0) = false := by show (g.is_async != 0) = false; rw [h0]; rfl
  simp only [h1, Bool.false_eq_true, if_false]
  show wpAny _ _ (ask >>= _) _ _ s
  refine wpAny_bind (wpAny_askSetting (wpAny_ite ?_))
  split
  · first
      | exact wpAny_bind (wpAny_pure (wpAny_pure (And.intro rfl hl)))
      | exact wpAny_pure (And.intro rfl hl)
  · first
      | exact wpAny_bind (wpAny_rule (wpAny_bind (wpAny_standAt (wpAny_bind (wpAny_mono hi (fun it' s' q => wpAny_pure ⟨rfl, q⟩) fun _ _ q => q)))))
      | exact wpAny_rule (wpAny_bind (wpAny_standAt (wpAny_bind (wpAny_mono hi (fun it' s' q => wpAny_pure ⟨rfl, q⟩) fun _ _ q => q))))
theorem inner_run {Y : Cx} {elt tg iter : Expr} {gens : List Comprehension} {scope : Scope} {pos p : Pos} {depth : Nat} {acc : Value} {ifs : List Expr} {m : Sem Unit} {g : TG} {tt : TT} {mb : TB} {wi : TI} {vs : List Nat}
    (hc : Y.calm = true) (hxe : Y.xe = fun _ _ => False) (hi : PI Y tg iter wi) (hg : gens[depth + 1]? = some ⟨tg, iter, ifs, 0⟩)
    (ht : ∀ it : Addr, compTurn (.ListComp elt gens scope pos) (depth + 1) (.ref it) acc Y.env = turnSem tg p ifs m (.compLoop (.ListComp elt gens scope pos) (depth + 1) (.ref it) acc Y.env) (.ref it) Y.env) (pg : PG Y tg g) (pt : PTs Y ifs tt) (hm : Bh Y m mb) (hs : ∀ x, foldedSetIterable iter Y.env x = pure x := by intro _; rfl) :
    Bh Y (innerSem iter (.ListComp elt gens scope pos) depth acc Y.env) (fun σ H Q => wi σ H fun J H1 => tTurns g tt mb J (wipe σ vs) H1 fun H2 => Q (wipe σ vs) H2) := fun pins s σ H Q I h => by
  have pir := hi.run pins s σ H _ I h
  unfold PIE at pir
  rw [hxe] at pir
  unfold innerSem
  refine wpAny_bind (thnF pir fun x s1 h1 => wpAny_bind (wpAny_standAt (wpAny_bind (wpAny_of_eq (hs x) (wpAny_bind (wpAny_holding (thnF h1 fun itv s2 h2 => ?_)))))))
  obtain ⟨it, fp, tn, J, H2, e, I2, T, st2, f2, q⟩ := h2
  subst e
  have stat : ∀ {σ' : L2.St} {H' : Hp} {s' : Shared}, Inv Y pins σ' H' s' → (∀ b ∈ fp, H' b = none) → ∀ b ∈ fp, FpOk Y pins H' b := fun {σ' H' s'} _ hn b hb => ⟨hn b hb, (f2 b hb).2⟩
  have loop : codeAny (model Y.prog Y.w) Y.A (.compLoop (.ListComp elt gens scope pos) (depth + 1) (.ref it) acc Y.env) (fun r s' => match r with
      | .ok _ => ∃ σ' H', Inv Y pins σ' H' s' ∧ Q σ' H'
      | .error _ => False) s2 := loopN hc hxe T stat (ht it) pg pt hm (I2.weak (wipe_length _ _) fun j v e => (wipe_some e).1) st2 (fun b hb => (f2 b hb).1) q fun s' H' I' r => ⟨_, H', I', r⟩
  refine wpAny_bind (wpAny_runOwn ?_)
  rw [Around.mark_none]
  refine codeAny_mono (compStartN hg rfl loop (T.self Y.A 0 _ _ _ st2 loop)) fun r s' hr => ?_
  cases r with
  | ok f => exact wpAny_pure hr
  | error e => exact hr.elim
/-- the whole's reading -/
def tLcN (wi : TI) (g : TG) (tt : TT) (mb : Addr → TB) (vs : List Nat) : TE := fun σ H Q => wi σ H fun J H1 => ∀ D, H1 D = none → tTurns g tt (mb D) J (wipe σ vs) (upd H1 D (.lst [])) fun H2 => Q (.ref D) H2
section
variable {X : Cx}
theorem lcN_core {pins : List (Addr × Obj)} {s : Shared} {σ : L2.St} {H : Hp} {Q : VK} {elt tg iter : Expr} {ifs : List Expr} {more : List Comprehension} {scope : Scope} {own : List (Str × Nat)} {pos pos' p : Pos} {wi : TI} {g : TG} {tt : TT} {mb : Addr → TB} {ms : Addr → Env → Sem Unit} {use : Option (Value → Sem Unit)} {Qf : Value → Shared → Prop}
    (hc : X.calm = true) (hN : X.N.Nodup) (I : Inv X pins σ H s) (hi : PI X tg iter wi) (ok : BlkOk X.N X.env.scope scope own)
    (hg : ∀ (s : Shared) (H : Hp) (C : Addr) (cl : List (Str × Addr)) (fp : List Addr), PG (X.blk s H scope (compEnvC scope cl C X.env) fp) tg g) (ht : ∀ (s : Shared) (H : Hp) (C : Addr) (cl : List (Str × Addr)) (fp : List Addr), PTs (X.blk s H scope (compEnvC scope cl C X.env) fp) ifs tt)
    (hm : ∀ (D : Addr) (s : Shared) (H : Hp) (C : Addr) (cl : List (Str × Addr)) (fp : List Addr), Bh (X.blk s H scope (compEnvC scope cl C X.env) fp) (ms D (compEnvC scope cl C X.env)) (mb D))
    (htn : ∀ (it D : Addr) (env : Env), compTurn (.ListComp elt (⟨tg, iter, ifs, 0⟩ :: more) scope pos) 0 (.ref it) (.ref D) env = turnSem tg p ifs (ms D env) (.compLoop (.ListComp elt (⟨tg, iter, ifs, 0⟩ :: more) scope pos) 0 (.ref it) (.ref D) env) (.ref it) env)
    (hs : ∀ x, foldedSetIterable iter X.env x = pure x) (h : tLcN wi g tt mb (own.map (·.2)) σ H Q)
    (hRR : ∀ D C s' m H', Inv X pins σ H' s' → Q (.ref D) H' → s'.heap.Ns C m → FpOk X pins H' C → compPost (model X.prog X.w) X.A X.xe use Qf (.ref D) C (.ok .next) s') :
    wpAny (model X.prog X.w) X.A (comprehension (.ListComp elt (⟨tg, iter, ifs, 0⟩ :: more) scope pos) scope X.env pos' (newList []) false (eval iter X.env) use) Qf X.xe s := by
  have freeCells : ∀ y ∈ scope.names, y.2 = .free → ∃ c, X.env.cells.lookup y.1 = some c := fun y hy e => by
    rcases ok.free y hy e with k | k <;> first | exact I.ok.has _ (.inl k) | exact I.ok.has _ (.inr k)
  refine wpAny_comprehension_free (use := use) rfl hs (closure_ok freeCells) ok.kind (fun y hy e => by rw [ok.uniq y hy, e]) (thn (hi.run pins s σ H _ I h) fun xv t1 hx => thn hx fun itv t2 h2 => ?_)
  obtain ⟨it, fp, tn, J, G2, e, I2, T, st2, f2, q⟩ := h2
  subst e
  refine wpAny_newObj_type (newEnv_comp ?_) (by show 0 ≤ sizeLine; decide)
  generalize hD : t2.heap.objs.size = D
  have newD : G2 D = none := I2.hok.fresh (Nat.le_of_eq hD)
  have turns := q D newD
  generalize hs3 : ({ t2 with heap := t2.heap.push { cls := .type "list", data := .seq ([] : List Value).toArray } } : Shared) = t3
  have he3 : t3.heap = t2.heap.push { cls := .type "list", data := .seq ([] : List Value).toArray } := by rw [← hs3]
  have I3 : Inv X pins σ (upd G2 D (.lst [])) t3 := by
    rw [← hs3]
    refine I2.laid (t' := t2.toks) (fun b o e => Heap.get?_push_of_some _ e) (Nat.le_of_eq hD) ⟨Nat.zero_le _, [], 0, .nil, ?_⟩
    rw [← hD]; exact Heap.get?_push_size _ rfl
  have f3 : ∀ b ∈ fp, FpOk X pins (upd G2 D (.lst [])) b ∧ b < t3.heap.objs.size := fun b hb => by
    obtain ⟨ob, eb, _⟩ := T.obj _ _ st2 b hb
    have lt2 := Heap.lt_size eb
    refine ⟨⟨?_, (f2 b hb).2⟩, by rw [he3, Heap.size_push]; exact Nat.lt_succ_of_lt lt2⟩
    rw [upd_ne (by rw [← hD]; exact Nat.ne_of_lt lt2)]; exact (f2 b hb).1
  have st3 : tn 0 t3.heap := T.keep _ _ _ st2 fun b _ o e => by rw [he3]; exact Heap.get?_push_of_some _ e
  have I4 := block_start I3 ok hN f3
  have pg := hg t3 (upd G2 D (.lst [])) t3.heap.objs.size (cellsFrom (t3.heap.objs.size + 1) scope.names (cloFrom X.env.cells scope.names [])) fp
  have pt := ht t3 (upd G2 D (.lst [])) t3.heap.objs.size (cellsFrom (t3.heap.objs.size + 1) scope.names (cloFrom X.env.cells scope.names [])) fp
  have pm := hm D t3 (upd G2 D (.lst [])) t3.heap.objs.size (cellsFrom (t3.heap.objs.size + 1) scope.names (cloFrom X.env.cells scope.names [])) fp
  show codeAny _ _ (.compStart (.ListComp elt (⟨tg, iter, ifs, 0⟩ :: more) scope pos) 0 (.ref it) (.ref D) (compEnvC scope (cellsFrom (t3.heap.objs.size + 1) scope.names (cloFrom X.env.cells scope.names [])) t3.heap.objs.size X.env)) (compPost (model X.prog X.w) X.A X.xe use Qf (.ref D) t3.heap.objs.size) { t3 with heap := pushCells (t3.heap.push { cls := .type "dict", data := .dict #[] }) scope.names }
  have nf3 : ∀ b ∈ fp, (upd G2 D (.lst [])) b = none := fun b hb => (f3 b hb).1.1
  generalize hce : compEnvC scope (cellsFrom (t3.heap.objs.size + 1) scope.names (cloFrom X.env.cells scope.names [])) t3.heap.objs.size X.env = ce at I4 pg pt pm ⊢
  have cL : ce.locals = t3.heap.objs.size := by subst hce; rfl
  generalize hH3 : upd G2 D (.lst []) = G3 at I3 I4 pg pt pm turns nf3 f3
  generalize hs4 : ({ t3 with heap := pushCells (t3.heap.push { cls := .type "dict", data := .dict #[] }) scope.names } : Shared) = t4 at I4 ⊢
  have st4 : tn 0 t4.heap := T.keep _ _ _ st3 fun b _ o e => by rw [← hs4]; exact pushCells_keeps _ _ _ _ (Heap.get?_push_of_some _ e)
  have stat : ∀ {σ' : L2.St} {H' : Hp} {s' : Shared}, Inv (X.blk t3 G3 scope ce fp) [] σ' H' s' → (∀ b ∈ fp, H' b = none) → ∀ b ∈ fp, FpOk (X.blk t3 G3 scope ce fp) [] H' b := fun {σ' H' s'} I' hn b hb =>
    ⟨hn b hb, (I'.ok.exf b hb).1, I'.ok.exfs b hb, .inl hb, fun x c e => (I'.ok.exf b hb).2 x c e, fun p hp => absurd hp (by show ¬ p ∈ ([] : List (Addr × Obj)) ++ []; simp)⟩
  have loop : codeAny (model X.prog X.w) X.A (.compLoop (.ListComp elt (⟨tg, iter, ifs, 0⟩ :: more) scope pos) 0 (.ref it) (.ref D) ce) (compPost (model X.prog X.w) X.A X.xe use Qf (.ref D) t3.heap.objs.size) t4 := by
    refine loopN (Y := X.blk t3 G3 scope ce fp) hc rfl T stat (htn it D ce) pg pt pm I4 st4 nf3 turns fun t5 H5 I5 qq => ?_
    have I7 : Inv X pins σ H5 t5 := I3.call' (ch := fp) I5.os I5.base I5.hok I5.bare fun b hb => ⟨(f3 b hb).1.2.2.2.1, (f3 b hb).1.2.1, (f3 b hb).1.2.2.2.2.1, (f3 b hb).1.2.2.2.2.2⟩
    have nC : H5 t3.heap.objs.size = none := by
      have z : H5 ce.locals = none := I5.free
      rwa [cL] at z
    obtain ⟨m, hn, _⟩ := I5.loc
    have hn' : t5.heap.Ns ce.locals m := hn
    rw [cL] at hn'
    exact hRR D t3.heap.objs.size t5 m H5 I7 qq hn' (I3.fpOk (Nat.le_refl _) nC)
  exact codeAny_compStart_list loop (T.self X.A 0 _ _ _ st4 loop)
theorem pe_lcN {elt tg iter : Expr} {ifs : List Expr} {more : List Comprehension} {scope : Scope} {own : List (Str × Nat)} {pos p : Pos} {wi : TI} {g : TG} {tt : TT} {mb : Addr → TB} {ms : Addr → Env → Sem Unit}
    (hc : X.calm = true) (hN : X.N.Nodup) (hi : PI X tg iter wi) (ok : BlkOk X.N X.env.scope scope own)
    (hg : ∀ (s : Shared) (H : Hp) (C : Addr) (cl : List (Str × Addr)) (fp : List Addr), PG (X.blk s H scope (compEnvC scope cl C X.env) fp) tg g) (ht : ∀ (s : Shared) (H : Hp) (C : Addr) (cl : List (Str × Addr)) (fp : List Addr), PTs (X.blk s H scope (compEnvC scope cl C X.env) fp) ifs tt)
    (hm : ∀ (D : Addr) (s : Shared) (H : Hp) (C : Addr) (cl : List (Str × Addr)) (fp : List Addr), Bh (X.blk s H scope (compEnvC scope cl C X.env) fp) (ms D (compEnvC scope cl C X.env)) (mb D))
    (htn : ∀ (it D : Addr) (env : Env), compTurn (.ListComp elt (⟨tg, iter, ifs, 0⟩ :: more) scope pos) 0 (.ref it) (.ref D) env = turnSem tg p ifs (ms D env) (.compLoop (.ListComp elt (⟨tg, iter, ifs, 0⟩ :: more) scope pos) 0 (.ref it) (.ref D) env) (.ref it) env)
    (hs : ∀ x, foldedSetIterable iter X.env x = pure x) : PE X (.ListComp elt (⟨tg, iter, ifs, 0⟩ :: more) scope pos) (tLcN wi g tt mb (own.map (·.2))) := by
  refine ⟨fun pins s σ H Q I h => ?_⟩
  rw [eval_ListComp]
  refine lcN_core hc hN I hi ok hg ht hm htn hs h fun D C s' m H' I' q hn f => ⟨m, hn, fun h'' sb => ?_⟩
  obtain ⟨z0, z1, z2, z3, z4, z5⟩ := f
  exact ⟨.ref D, H', I'.turned (t' := s'.toks) (fun b o hb e => (sb.2 b hb).trans e) z0 z1 z3 z4 z5, rfl, q⟩
theorem ps_setLcN {i : Nat} {y : Str} {py : Pos} {elt tg iter : Expr} {ifs : List Expr} {more : List Comprehension} {scope : Scope} {own : List (Str × Nat)} {pos spos p : Pos} {wi : TI} {g : TG} {tt : TT} {mb : Addr → TB} {ms : Addr → Env → Sem Unit}
    (hc : X.calm = true) (hN : X.N.Nodup) (hy : X.N[i]? = some y) (hyl : X.env.scope.names.lookup y = some .local) (hsw : swapsWith (.ListComp elt (⟨tg, iter, ifs, 0⟩ :: more) scope pos) (some (.Name y py)) spos.line X.env = pure true) (hi : PI X tg iter wi) (ok : BlkOk X.N X.env.scope scope own)
    (hg : ∀ (s : Shared) (H : Hp) (C : Addr) (cl : List (Str × Addr)) (fp : List Addr), PG (X.blk s H scope (compEnvC scope cl C X.env) fp) tg g) (ht : ∀ (s : Shared) (H : Hp) (C : Addr) (cl : List (Str × Addr)) (fp : List Addr), PTs (X.blk s H scope (compEnvC scope cl C X.env) fp) ifs tt)
    (hm : ∀ (D : Addr) (s : Shared) (H : Hp) (C : Addr) (cl : List (Str × Addr)) (fp : List Addr), Bh (X.blk s H scope (compEnvC scope cl C X.env) fp) (ms D (compEnvC scope cl C X.env)) (mb D))
    (htn : ∀ (it D : Addr) (env : Env), compTurn (.ListComp elt (⟨tg, iter, ifs, 0⟩ :: more) scope pos) 0 (.ref it) (.ref D) env = turnSem tg p ifs (ms D env) (.compLoop (.ListComp elt (⟨tg, iter, ifs, 0⟩ :: more) scope pos) 0 (.ref it) (.ref D) env) (.ref it) env)
    (hs : ∀ x, foldedSetIterable iter X.env x = pure x) : PS X (.Assign [.Name y py] (.ListComp elt (⟨tg, iter, ifs, 0⟩ :: more) scope pos) spos) (tAsg (tLcN wi g tt mb (own.map (·.2))) (gName i)) := by
  refine ⟨fun pins s σ H D I h => ?_⟩
  rw [exec_Assign_Name_used _ _ _ _ hsw]
  refine wpAny_bind (wpAny_standAt (wpAny_bind ?_))
  show wpAny _ X.A (do let _ ← comprehension (.ListComp elt (⟨tg, iter, ifs, 0⟩ :: more) scope pos) scope X.env (firstIterPos (⟨tg, iter, ifs, 0⟩ :: more) pos) (newList []) false (eval iter X.env) (some (assign (.Name y py) X.env))) _ _ s
  have h : tLcN wi g tt mb (own.map (·.2)) σ H (fun x H1 => gName i x σ H1 D.nx) := h
  refine wpAny_bind (thn (lcN_core (Qf := fun _ s' => SP X pins D .next s') hc hN I hi ok hg ht hm htn hs h fun L C s' m H' I' q hn f => ?_) fun _ s' hq => wpAny_pure (wpAny_pure hq))
  show wpAny _ _ (assign (.Name y py) X.env (.ref L)) _ _ _
  refine wpAny_assign_Name (store_ok2 (v := V.ref L) I' hN hy (.inl hyl) rfl (fun s2 I2 ⟨a, sb, ha⟩ => ?_) (.inr hyl))
  obtain ⟨z0, z1, z2, z3, z4, z5⟩ := f
  have neC : C ≠ a := by
    rcases ha with z | z
    · rw [z]; exact z1
    · exact fun e => z4 y a z e.symm
  exact ⟨m, hn.sameBut sb neC, fun h3 sb3 => ⟨_, H', I2.turned (t' := s2.toks) (fun b o hb e => (sb3.2 b hb).trans e) z0 z1 z3 z4 z5, q⟩⟩
end
/-! ### over data -/
def MR (Y : Cx) (m : Sem Unit) (σ : L2.St) (H : Hp) (Q : L2.St → Hp → Prop) : Prop := ∀ (pins : List (Addr × Obj)) (s : Shared), Inv Y pins σ H s → wpAny (model Y.prog Y.w) Y.A m (fun _ s' => ∃ σ' H', Inv Y pins σ' H' s' ∧ Q σ' H') (fun _ _ => False) s
theorem mr_of {Y : Cx} {m : Sem Unit} {t : TB} (h : Bh Y m t) {σ : L2.St} {H : Hp} {Q : L2.St → Hp → Prop} (q : t σ H Q) : MR Y m σ H Q := fun pins s I => h pins s σ H Q I q
def Kp (vs : List Nat) (σ σ' : L2.St) : Prop := σ'.length = σ.length ∧ ∀ j : Nat, j ∉ vs → σ'[j]? = σ[j]?
theorem Kp.refl {vs : List Nat} {σ : L2.St} : Kp vs σ σ := ⟨rfl, fun _ _ => rfl⟩
/-- what stands behind a clause, over data: the items outs are appended -/
def GB (Y : Cx) (Hb : Hp) (Γ : List AV) (m : Addr → Env → Sem Unit) (vs : List Nat) (outs : List D) : Prop := ∀ (T : Addr) (σ : L2.St) (H : Hp) (acc : List V) (Q : L2.St → Hp → Prop), Fm Y.K Hb σ Γ H → Hb T = none → (∀ (j : Nat) ys, Γ[j]? = some (.own ys) → σ[j]? ≠ some (some (.ref T))) → H T = some (.lst acc) → acc.length + outs.length < 100000 →
  (∀ σ' H' ws, Kp vs σ σ' → (∀ a o, a ≠ T → H a = some o → H' a = some o) → H' T = some (.lst (acc ++ ws)) → RpAll Y.K H' outs ws → Q σ' H') → MR Y (m T Y.env) σ H Q
/-- all but one stay -/
def But (T : Addr) (H H' : Hp) : Prop := ∀ a o, a ≠ T → H a = some o → H' a = some o
theorem But.tps {K : PySem.W.Frag} {T : Addr} {H H' : Hp} {acc : List V} (b : But T H H') (h : H T = some (.lst acc)) : Tps K H H' := fun a xs s => by
  rcases s with (s | ⟨o, s⟩) | s
  · exact .inl (.inl (b _ _ (fun e => by rw [e, h] at s; cases s) s))
  · exact .inl (.inr ⟨o, b _ _ (fun e => by rw [e, h] at s; cases s) s⟩)
  · exact .inr s
theorem Fm.but {K : PySem.W.Frag} {Hb H H' : Hp} {σ : L2.St} {Γ : List AV} {T : Addr} {acc : List V} (F : Fm K Hb σ Γ H) (h0 : Hb T = none) (hn : ∀ (j : Nat) ys, Γ[j]? = some (.own ys) → σ[j]? ≠ some (some (.ref T))) (h : H T = some (.lst acc)) (b : But T H H') : Fm K Hb σ Γ H' := by
  have ts : Tps K H H' := b.tps h
  refine ⟨fun a o e => b a o (ne_of_none e h0) (F.ex a o e), F.len, fun i a hi => ?_, F.dis⟩
  obtain ⟨o, e1, e2⟩ := F.at_ i a hi
  refine ⟨o, e1, ?_⟩
  cases a with
  | no => trivial
  | d x => obtain ⟨v, r1, r2⟩ := e2; exact ⟨v, r1, r2.mono ts⟩
  | bw xs => obtain ⟨l', ws, r1, r2, r3⟩ := e2; exact ⟨l', ws, r1, r2, r3.mono ts⟩
  | own xs =>
    obtain ⟨l', ws, r1, r2, r3, r4⟩ := e2
    have ne : l' ≠ T := fun q => hn i xs hi (by rw [e1, r1, q])
    exact ⟨l', ws, r1, r2, b _ _ ne r3, r4.mono ts⟩
  | v x => exact e2
theorem gb_emit {Y : Cx} {Hb : Hp} {Γ : List AV} {elt : Expr} {d : D} {vs : List Nat} (hxe : Y.xe = fun _ _ => False) (h : GE Y Hb Γ elt d) : GB Y Hb Γ (fun T env => emitSem elt (.ref T) env) vs [d] := fun T σ H acc Q F h0 hn hT hz k => by
  refine mr_of (emit_run hxe) ?_
  refine h σ H _ F fun v H1 e1 r1 => ?_
  refine ⟨acc, e1 _ _ hT, Nat.lt_of_lt_of_le (Nat.lt_of_le_of_lt (Nat.le_add_right _ _) hz) (by decide), ?_⟩
  refine k σ _ [v] Kp.refl (fun a o ha e => by rw [upd_ne ha]; exact e1 a o e) upd_same (RpAll.one (r1.mono (lst_ts (e1 _ _ hT))))
theorem wipe_get : ∀ (vs : List Nat) (σ : L2.St) (j : Nat), j ∉ vs → (wipe σ vs)[j]? = σ[j]?
  | [], _, _, _ => rfl
  | v :: vs, σ, j, h => by
    show ((wipe σ vs).set v none)[j]? = _
    rw [List.getElem?_set_ne (fun e => h (by rw [e]; exact List.mem_cons_self)), wipe_get vs σ j fun z => h (List.mem_cons_of_mem _ z)]
theorem wipe_in : ∀ (vs : List Nat) (σ : L2.St) (j : Nat) (v : V), j ∈ vs → (wipe σ vs)[j]? ≠ some (some v)
  | w :: vs, σ, j, v, h => fun e => by
    have e' : ((wipe σ vs).set w none)[j]? = some (some v) := e
    by_cases hj : w = j
    · subst hj
      have hl : w < (wipe σ vs).length := by
        have := (List.getElem?_eq_some_iff.mp e').1
        rwa [List.length_set] at this
      rw [List.getElem?_set_self hl] at e'
      cases e'
    · rw [List.getElem?_set_ne hj] at e'
      rcases List.mem_cons.mp h with z | z
      · exact hj z.symm
      · exact wipe_in vs σ j v z e'
theorem kp_wipe {vs : List Nat} {σ : L2.St} : Kp vs σ (wipe σ vs) := ⟨wipe_length σ vs, fun j h => wipe_get vs σ j h⟩
theorem knows_of {vs : List Nat} {σ σ2 : L2.St} (hw : wipe σ2 vs = wipe (wipe σ vs) vs) (hl : σ2.length = σ.length) : Knows (wipe σ vs) σ2 := by
  refine ⟨by rw [wipe_length, hl], fun j v e => ?_⟩
  by_cases hj : j ∈ vs
  · exact absurd e (wipe_in vs σ j v hj)
  · rw [← wipe_get vs σ2 j hj, hw, wipe_get vs _ j hj]
    exact e
theorem knows_kp {vs ws : List Nat} {σ σ2 σ3 : L2.St} (k : Knows (wipe σ vs) σ2) (p : Kp ws σ2 σ3) (h : ∀ j ∈ ws, j ∈ vs) : Knows (wipe σ vs) σ3 := by
  refine ⟨by rw [k.1, p.1], fun j v e => ?_⟩
  by_cases hj : j ∈ vs
  · exact absurd e (wipe_in vs σ j v hj)
  · rw [p.2 j fun z => hj (h j z)]
    exact k.2 j v e
/-- the turns of a clause without tests, over data -/
theorem turns_data {Y : Cx} {Hb : Hp} {Γ : List AV} {els : List D} {outs : D → List D} {u : D → List AV → List AV} {js vs ws : List Nat} {T : Addr} {J : It} {σ : L2.St} {H1 : Hp} {acc : List V} {R : Hp → Prop} {g : TG} {mb : TB} (ok : ItOk Y.K Hb J els) (F : Fm Y.K Hb (wipe σ vs) (wipeA Γ vs) H1) (h0 : Hb T = none) (hn : ∀ (j : Nat) ys, (wipeA Γ vs)[j]? = some (.own ys) → (wipe σ vs)[j]? ≠ some (some (.ref T))) (hT : H1 T = some (.lst acc)) (hz : acc.length + (els.flatMap outs).length < 100000)
    (hjs : ∀ j ∈ js, j ∈ vs) (hws : ∀ j ∈ ws, j ∈ vs)
    (ht : ∀ d ∈ els, ∀ (σ : L2.St) (H : Hp) (v : V) (Q : L2.St → Hp → Prop), Fm Y.K Hb σ (wipeA Γ vs) H → Rp Y.K H d v → (∀ σ', σ'.length = σ.length → (∀ vs : List Nat, (∀ j ∈ js, j ∈ vs) → wipe σ' vs = wipe σ vs) → Fm Y.K Hb σ' (u d (wipeA Γ vs)) H → Q σ' H) → g v σ H Q)
    (hun : ∀ d ∈ els, ∀ (j : Nat) ys, (u d (wipeA Γ vs))[j]? = some (.own ys) → (wipeA Γ vs)[j]? = some (.own ys) ∧ j ∉ vs)
    (hm : ∀ d ∈ els, ∀ (σ : L2.St) (H : Hp) (acc : List V) (Q : L2.St → Hp → Prop), Fm Y.K Hb σ (u d (wipeA Γ vs)) H → Hb T = none → (∀ (j : Nat) ys, (u d (wipeA Γ vs))[j]? = some (.own ys) → σ[j]? ≠ some (some (.ref T))) → H T = some (.lst acc) → acc.length + (outs d).length < 100000 →
      (∀ σ' H' xs, Kp ws σ σ' → But T H H' → H' T = some (.lst (acc ++ xs)) → RpAll Y.K H' (outs d) xs → Q σ' H') → mb σ H Q)
    (kR : ∀ H' xs, But T H1 H' → H' T = some (.lst (acc ++ xs)) → RpAll Y.K H' (els.flatMap outs) xs → R H') : tTurns g tYes mb J (wipe σ vs) H1 R := by
  refine ⟨fun i m H' => m = els.length - i ∧ i ≤ els.length ∧ But T H1 H' ∧ ∃ xs, H' T = some (.lst (acc ++ xs)) ∧ RpAll Y.K H' ((els.take i).flatMap outs) xs, ⟨els.length, by simp, Nat.zero_le _, fun _ _ _ e => e, [], by rw [List.append_nil]; exact hT, by rw [List.take_zero]; rfl⟩, ?_⟩
  rintro i m H' ⟨rfl, hi, b', xs, hxs, hr⟩
  have F' := F.but h0 hn hT b'
  by_cases hlt : i < els.length
  · refine .inr ⟨ok.go i H' hlt F'.ex, fun H2 => But T H1 H2 ∧ ∃ xs, H2 T = some (.lst (acc ++ xs)) ∧ RpAll Y.K H2 ((els.take (i + 1)).flatMap outs) xs, fun H2 q => ⟨els.length - (i + 1), by omega, rfl, hlt, q⟩, fun x H'' hy => ?_⟩
    obtain ⟨e2, d, hd, hrd⟩ := ok.yld i x H' H'' hlt F'.ex hy
    have hmem : d ∈ els := List.mem_of_getElem? hd
    have etk : els.take (i + 1) = els.take i ++ [d] := by rw [List.take_add_one, hd]; rfl
    have efm : (els.take (i + 1)).flatMap outs = (els.take i).flatMap outs ++ outs d := by rw [etk, List.flatMap_append]; simp
    have hlen : xs.length + (outs d).length ≤ (els.flatMap outs).length := by
      rw [hr.length]
      have e3 : (els.flatMap outs).length = ((els.take (i + 1)).flatMap outs).length + ((els.drop (i + 1)).flatMap outs).length := by
        rw [← List.length_append, ← List.flatMap_append, List.take_append_drop]
      rw [e3, efm, List.length_append]; omega
    refine ht d hmem (wipe σ vs) H'' x _ (F'.same e2) hrd fun σ2 l2 w2 F2 => ⟨knows_of (w2 vs hjs) (by rw [l2, wipe_length]), ?_⟩
    have kn : Knows (wipe σ vs) σ2 := knows_of (w2 vs hjs) (by rw [l2, wipe_length])
    have hT2 := e2 _ _ hxs
    refine hm d hmem σ2 H'' (acc ++ xs) _ F2 h0 (fun j ys hj => ?_) hT2 (by rw [List.length_append]; omega) fun σ3 H3 ys kp b3 hT3 r3 => ⟨knows_kp kn kp hws, ?_⟩
    · obtain ⟨g1, g2⟩ := hun d hmem j ys hj
      rw [← wipe_get vs σ2 j g2, w2 vs hjs, wipe_get vs _ j g2]
      exact hn j ys g1
    · refine ⟨fun a o ha e => b3 a o ha (e2 a o (b' a o ha e)), xs ++ ys, by rw [hT3, List.append_assoc], ?_⟩
      rw [efm]
      exact RpAll.append r3 ((hr.mono (Same.tup e2)).mono (b3.tps hT2))
  · have ei : i = els.length := by omega
    subst ei
    rw [List.take_length] at hr
    exact .inl ⟨ok.stop H' F'.ex, kR H' xs b' hxs hr⟩
theorem wipeA_get : ∀ (vs : List Nat) (Γ : List AV) (j : Nat) (xs : List D), (wipeA Γ vs)[j]? = some (.own xs) → Γ[j]? = some (.own xs) ∧ j ∉ vs
  | [], _, _, _, h => ⟨h, fun q => by cases q⟩
  | v :: vs, Γ, j, xs, h => by
    have h' : ((wipeA Γ vs).set v .no)[j]? = some (.own xs) := h
    by_cases hj : v = j
    · subst hj
      have hl : v < (wipeA Γ vs).length := by
        have := (List.getElem?_eq_some_iff.mp h').1
        rwa [List.length_set] at this
      rw [List.getElem?_set_self hl] at h'
      cases h'
    · rw [List.getElem?_set_ne hj] at h'
      obtain ⟨g1, g2⟩ := wipeA_get vs Γ j xs h'
      exact ⟨g1, fun z => (List.mem_cons.mp z).elim (fun q => hj q.symm) g2⟩
/-- the stores of a clause lay no list of one's own -/
def NoOwn (js : List Nat) (u : List AV → List AV) : Prop := ∀ (Γ : List AV) (j : Nat) (ys : List D), (u Γ)[j]? = some (.own ys) → Γ[j]? = some (.own ys)
theorem no_set {js : List Nat} {u : List AV → List AV} {i : Nat} {d : D} (h : NoOwn js u) : NoOwn js (fun Γ => (u Γ).set i (.d d)) := fun Γ j ys e => by
  by_cases hj : i = j
  · subst hj
    have hl : i < (u Γ).length := by
      have := (List.getElem?_eq_some_iff.mp e).1
      rwa [List.length_set] at this
    rw [List.getElem?_set_self hl] at e
    cases e
  · rw [List.getElem?_set_ne hj] at e
    exact h Γ j ys e
theorem no_id {js : List Nat} : NoOwn js (fun Γ => Γ) := fun _ _ _ e => e
section
variable {Y : Cx} {Hb : Hp} {Γ : List AV} {tg iter elt : Expr} {els : List D}
/-- for .. in .., an inner clause -/
theorem gb_inner {gens : List Comprehension} {scope : Scope} {pos p : Pos} {depth : Nat} {ms : Addr → Env → Sem Unit} {ws : List Nat} {outs : D → List D} (hc : Y.calm = true) (hxe : Y.xe = fun _ _ => False) {js : List Nat} (vs : List Nat) (u : D → List AV → List AV)
    (hi : GI Y Hb Γ tg iter els) (ht : ∀ d ∈ els, TgOk Y tg js d (u d)) (hu : ∀ d ∈ els, NoOwn js (u d)) (hm : ∀ Hb', Same Hb Hb' → ∀ d ∈ els, GB Y Hb' (u d (wipeA Γ vs)) ms ws (outs d)) (hg : gens[depth + 1]? = some ⟨tg, iter, [], 0⟩ := by rfl)
    (htn : ∀ (it T : Addr), compTurn (.ListComp elt gens scope pos) (depth + 1) (.ref it) (.ref T) Y.env = turnSem tg p [] (ms T Y.env) (.compLoop (.ListComp elt gens scope pos) (depth + 1) (.ref it) (.ref T) Y.env) (.ref it) Y.env := by intro _ _; rfl) (hs : ∀ x, foldedSetIterable iter Y.env x = pure x := by intro _; rfl)
    (hjs : ∀ j ∈ js, j ∈ vs := by decide) (hws : ∀ j ∈ ws, j ∈ vs := by decide) : GB Y Hb Γ (fun T env => innerSem iter (.ListComp elt gens scope pos) depth (.ref T) env) vs (els.flatMap outs) := fun T σ H acc Q F h0 hn hT hz k => by
  obtain ⟨wi, hpi, hread⟩ := hi
  have own0 : ∀ (j : Nat) ys, (wipeA Γ vs)[j]? = some (.own ys) → Γ[j]? = some (.own ys) ∧ j ∉ vs := fun j ys e => wipeA_get vs Γ j ys e
  refine mr_of (inner_run (vs := vs) (g := fun v σ H Q => GR Y tg v σ H Q) (tt := tYes) (mb := fun σ H Q => MR Y (ms T Y.env) σ H Q) hc hxe hpi hg (fun it => htn it T) pg_self pts_nil (fun pins s σ H Q I h => h pins s I) hs) ?_
  refine hread σ H _ F fun J H1 e1 hit => ?_
  have hT1 := e1 _ _ hT
  have F1 := F.same e1
  let Ex : Addr → Prop := fun a => ownAt σ Γ a ∨ a = T
  have xo : ExOk Hb H σ Γ Ex := fun a ha => by
    rcases ha with ha | ha
    · exact F.exOwn a ha
    · subst ha
      exact ⟨⟨_, hT, fun _ q => (by cases q), fun _ _ q => (by cases q)⟩, fun _ _ _ _ => h0⟩
  obtain ⟨G0, s0, sG, FG, hall, hno, hnone⟩ := F1.rebase
  have Gs : Same Hb (fun a => if a = T then none else G0 a) := fun a o e => by
    show (if a = T then none else G0 a) = some o
    rw [if_neg (ne_of_none e h0)]; exact s0 a o e
  have Gs1 : Same (fun a => if a = T then none else G0 a) H1 := fun a o e => by
    have e' : (if a = T then none else G0 a) = some o := e
    split at e'
    · cases e'
    · exact sG a o e'
  have ok := hit Ex (fun a => if a = T then none else G0 a) xo Gs1 fun a o e n => by
    show (if a = T then none else G0 a) = some o
    rw [if_neg fun q => n (.inr q)]
    exact hall a o e fun q => n (.inl q)
  have FB : Fm Y.K (fun a => if a = T then none else G0 a) σ Γ H1 := by
    refine ⟨Gs1, FG.len, fun i a hi => ?_, FG.dis⟩
    obtain ⟨o, g1, g2⟩ := F1.at_ i a hi
    refine ⟨o, g1, ?_⟩
    refine g2.ground Gs fun xs l ea eo => ?_
    show (if l = T then none else G0 l) = none
    split
    · rfl
    · exact hno l ⟨i, xs, by rw [hi, ea], by rw [g1, eo]⟩
  have Tn : (fun a => if a = T then none else G0 a) T = none := by show (if T = T then none else G0 T) = none; rw [if_pos rfl]
  refine turns_data (outs := outs) (u := u) (js := js) (ws := ws) (T := T) ok (FB.wipe vs) Tn (fun j ys hj => ?_) hT1 hz hjs hws (fun d hd σ H v Q F r q => ht d hd _ _ σ H v Q F r q) (fun d hd j ys hj => ?_) (fun d hd σ H acc Q F q1 q2 q3 q4 q5 => hm _ Gs d hd T σ H acc Q F q1 q2 q3 q4 q5) fun H' xs b hT' r => k _ H' xs kp_wipe (fun a o ha e => b a o ha (e1 a o e)) hT' r
  · obtain ⟨g1, g2⟩ := own0 j ys hj
    rw [wipe_get vs σ j g2]
    exact hn j ys g1
  · have z := hu d hd _ j ys hj
    exact ⟨z, (own0 j ys z).2⟩
end
def mbB (X : Cx) (scope : Scope) (ms : Addr → Env → Sem Unit) (T : Addr) : TB := fun σ H Q => ∀ (s : Shared) (H' : Hp) (C : Addr) (cl : List (Str × Addr)) (fp : List Addr), MR (X.blk s H' scope (compEnvC scope cl C X.env) fp) (ms T (compEnvC scope cl C X.env)) σ H Q
section
variable {X : Cx} {H0 : Hp} {Γ : List AV} {tg iter elt : Expr} {els : List D} {more : List Comprehension} {scope : Scope} {pos p : Pos} {ms : Addr → Env → Sem Unit} {k : Nat}
theorem lcN_read {wi : TI} {js vs ws : List Nat} {u : D → List AV → List AV} {outs : D → List D} (hjs : ∀ j ∈ js, j ∈ vs) (hws : ∀ j ∈ ws, j ∈ vs)
    (hread : ∀ (σ : L2.St) (H : Hp) (R : It → Hp → Prop), Fm X.K H0 σ Γ H → (∀ J H1, Same H H1 → (∀ (Ex : Addr → Prop) (Hb : Hp), ExOk H0 H σ Γ Ex → Same Hb H1 → (∀ a o, H1 a = some o → ¬ Ex a → Hb a = some o) → ItOk X.K Hb J els) → R J H1) → wi σ H R) (hlen : (els.flatMap outs).length < 100000)
    (ht : ∀ d ∈ els, InBlk X scope fun Y => TgOk Y tg js d (u d)) (hu : ∀ d ∈ els, NoOwn js (u d)) (hm : ∀ Hb, Same H0 Hb → ∀ d ∈ els, InBlk X scope fun Y => GB Y Hb (u d (wipeA Γ vs)) ms ws (outs d))
    {σ : L2.St} {H : Hp} (F : Fm X.K H0 σ Γ H) {Q : VK} (kq : ∀ l xs H', H l = none → Same H H' → H' l = some (.lst xs) → RpAll X.K H' (els.flatMap outs) xs → Q (.ref l) H') : tLcN wi (tgB X scope tg) tYes (mbB X scope ms) vs σ H Q := by
  refine hread σ H _ F fun J H1 e1 hit => ?_
  obtain ⟨Hb, s0, sb, Fb, hall, hno, hnone⟩ := (F.same e1).rebase
  have ok := hit _ Hb F.exOwn sb hall
  intro T hT
  have eT : Same H1 (upd H1 T (.lst [])) := fun b o q => by rw [upd_ne (ne_of_none q hT)]; exact q
  refine turns_data (Y := X) (outs := outs) (u := u) (js := js) (ws := ws) (T := T) ok ((Fb.same eT).wipe vs) (hnone T hT) (fun j ys hj => ?_) upd_same (by simpa using hlen) hjs hws (fun d hd σ H v Q F r q => fun s H' C cl fp => ht d hd s H' C cl fp _ _ σ H v Q F r q) (fun d hd j ys hj => ?_) (fun d hd σ H acc Q F q1 q2 q3 q4 q5 => fun s H' C cl fp => hm Hb s0 d hd s H' C cl fp T σ H acc Q F q1 q2 q3 q4 q5) fun H' xs b hT' r => ?_
  · obtain ⟨g1, g2⟩ := wipeA_get vs Γ j ys hj
    rw [wipe_get vs σ j g2]
    exact (F.same e1).own_ne hT j ys g1
  · have z := hu d hd _ j ys hj
    exact ⟨z, (wipeA_get vs Γ j ys z).2⟩
  · have en : Same H1 H' := fun a o e => b a o (ne_of_none e hT) (by rw [upd_ne (ne_of_none e hT)]; exact e)
    exact kq T xs H' (e1.free hT) (e1.trans en) hT' r
/-- [.. for .. in .. for .. in ..] -/
theorem gl_lcN (C : Cok X k) (own : List (Str × Nat)) {js ws : List Nat} (u : D → List AV → List AV) (outs : D → List D) (hi : GI X H0 Γ tg iter els) (ht : ∀ d ∈ els, InBlk X scope fun Y => TgOk Y tg js d (u d)) (hu : ∀ d ∈ els, NoOwn js (u d))
    (hm : ∀ Hb, Same H0 Hb → ∀ d ∈ els, InBlk X scope fun Y => GB Y Hb (u d (wipeA Γ (own.map (·.2)))) ms ws (outs d)) (hlen : (els.flatMap outs).length < 100000)
    (htn : ∀ (it T : Addr) (env : Env), compTurn (.ListComp elt (⟨tg, iter, [], 0⟩ :: more) scope pos) 0 (.ref it) (.ref T) env = turnSem tg p [] (ms T env) (.compLoop (.ListComp elt (⟨tg, iter, [], 0⟩ :: more) scope pos) 0 (.ref it) (.ref T) env) (.ref it) env := by intro _ _ _; rfl)
    (hjs : ∀ j ∈ js, j ∈ own.map (·.2) := by decide) (hws : ∀ j ∈ ws, j ∈ own.map (·.2) := by decide) (ok : BlkOk X.N X.env.scope scope own := by exact blkOk_by rfl) (hs : ∀ x, foldedSetIterable iter X.env x = pure x := by intro _; rfl) : GL X H0 Γ (.ListComp elt (⟨tg, iter, [], 0⟩ :: more) scope pos) (els.flatMap outs) := fun σ H Q F kq => by
  obtain ⟨wi, hpi, hread⟩ := hi
  refine er_of (pe_lcN (g := tgB X scope tg) (tt := tYes) (mb := mbB X scope ms) (ms := ms) C.hc C.nd hpi ok (fun s H C cl fp => pg_blk s H C cl fp) (fun _ _ _ _ _ => pts_nil) (fun T s H C cl fp => fun pins s' σ H' Q I h => h s H C cl fp pins s' I) htn hs) ?_
  exact lcN_read (js := js) (ws := ws) (u := u) hjs hws hread hlen ht hu hm F kq
theorem gs_setLcN (C : Cok X k) (i : Nat) (own : List (Str × Nat)) {js ws : List Nat} (u : D → List AV → List AV) (outs : D → List D) {n : Str} {p1 spos : Pos} {sts : List Stmt} {E : Ends} (hi : GI X H0 Γ tg iter els) (ht : ∀ d ∈ els, InBlk X scope fun Y => TgOk Y tg js d (u d)) (hu : ∀ d ∈ els, NoOwn js (u d))
    (hm : ∀ Hb, Same H0 Hb → ∀ d ∈ els, InBlk X scope fun Y => GB Y Hb (u d (wipeA Γ (own.map (·.2)))) ms ws (outs d)) (hlen : (els.flatMap outs).length < 100000) (h : GS X H0 (Γ.set i (.own (els.flatMap outs))) sts E)
    (htn : ∀ (it T : Addr) (env : Env), compTurn (.ListComp elt (⟨tg, iter, [], 0⟩ :: more) scope pos) 0 (.ref it) (.ref T) env = turnSem tg p [] (ms T env) (.compLoop (.ListComp elt (⟨tg, iter, [], 0⟩ :: more) scope pos) 0 (.ref it) (.ref T) env) (.ref it) env := by intro _ _ _; rfl)
    (hy : X.N[i]? = some n := by rfl) (hyl : X.env.scope.names.lookup n = some .local := by rfl) (hsw : swapsWith (.ListComp elt (⟨tg, iter, [], 0⟩ :: more) scope pos) (some (.Name n p1)) spos.line X.env = pure true := by exact sw_true rfl rfl rfl rfl)
    (hjs : ∀ j ∈ js, j ∈ own.map (·.2) := by decide) (hws : ∀ j ∈ ws, j ∈ own.map (·.2) := by decide) (ok : BlkOk X.N X.env.scope scope own := by exact blkOk_by rfl) (hs : ∀ x, foldedSetIterable iter X.env x = pure x := by intro _; rfl) : GS X H0 Γ (.Assign [.Name n p1] (.ListComp elt (⟨tg, iter, [], 0⟩ :: more) scope pos) spos :: sts) E := fun σ H F => by
  obtain ⟨wi, hpi, hread⟩ := hi
  refine sr_cons (s1_of (ps_setLcN (g := tgB X scope tg) (tt := tYes) (mb := mbB X scope ms) (ms := ms) C.hc C.nd hy hyl hsw hpi ok (fun s H C cl fp => pg_blk s H C cl fp) (fun _ _ _ _ _ => pts_nil) (fun T s H C cl fp => fun pins s' σ H' Q I h => h s H C cl fp pins s' I) htn hs) ?_)
  refine lcN_read (js := js) (ws := ws) (u := u) hjs hws hread hlen ht hu hm F ?_
  exact fun l xs H' hl e' h1 r1 => h _ _ (F.set_own hl e' h1 r1)
theorem turn_in {elt tg iter tg1 iter1 : Expr} {gens : List Comprehension} {ifs ifs1 : List Expr} {scope : Scope} {pos : Pos} {depth : Nat} (h1 : gens[depth]? = some ⟨tg, iter, ifs, 0⟩) (h2 : gens[depth + 1]? = some ⟨tg1, iter1, ifs1, 0⟩) (it acc : Value) (env : Env) :
    compTurn (.ListComp elt gens scope pos) depth it acc env = turnSem tg iter.pos ifs (innerSem iter1 (.ListComp elt gens scope pos) depth acc env) (.compLoop (.ListComp elt gens scope pos) depth it acc env) it env := by
  unfold compTurn turnSem innerSem
  simp only [h1, h2, bind_assoc, pure_bind]
  rfl
theorem turn_last {elt tg iter : Expr} {gens : List Comprehension} {ifs : List Expr} {scope : Scope} {pos : Pos} {depth : Nat} (h1 : gens[depth]? = some ⟨tg, iter, ifs, 0⟩) (h2 : gens[depth + 1]? = none) (it acc : Value) (env : Env) :
    compTurn (.ListComp elt gens scope pos) depth it acc env = turnSem tg iter.pos ifs (emitSem elt acc env) (.compLoop (.ListComp elt gens scope pos) depth it acc env) it env := by
  unfold compTurn turnSem emitSem
  simp only [h1, h2, bind_assoc, pure_bind]
  rfl
theorem map_flat (f : D → D) : ∀ l : List D, l.map f = l.flatMap fun d => [f d]
  | [] => rfl
  | x :: l => by rw [List.map_cons, List.flatMap_cons, map_flat f l]; rfl
theorem gl_lcI (C : Cok X k) (own : List (Str × Nat)) {js ws : List Nat} (u : D → List AV → List AV) (outs : D → List D) {tg1 iter1 : Expr} (hi : GI X H0 Γ tg iter els) (ht : ∀ d ∈ els, InBlk X scope fun Y => TgOk Y tg js d (u d)) (hu : ∀ d ∈ els, NoOwn js (u d))
    (hm : ∀ Hb, Same H0 Hb → ∀ d ∈ els, InBlk X scope fun Y => GB Y Hb (u d (wipeA Γ (own.map (·.2)))) (fun T env => innerSem iter1 (.ListComp elt (⟨tg, iter, [], 0⟩ :: ⟨tg1, iter1, [], 0⟩ :: more) scope pos) 0 (.ref T) env) ws (outs d)) (hlen : (els.flatMap outs).length < 100000)
    (hjs : ∀ j ∈ js, j ∈ own.map (·.2) := by decide) (hws : ∀ j ∈ ws, j ∈ own.map (·.2) := by decide) (ok : BlkOk X.N X.env.scope scope own := by exact blkOk_by rfl) (hs : ∀ x, foldedSetIterable iter X.env x = pure x := by intro _; rfl) : GL X H0 Γ (.ListComp elt (⟨tg, iter, [], 0⟩ :: ⟨tg1, iter1, [], 0⟩ :: more) scope pos) (els.flatMap outs) :=
  gl_lcN C own u outs hi ht hu hm hlen (fun it T env => turn_in rfl rfl _ _ env) hjs hws ok hs
theorem gs_setLcI (C : Cok X k) (i : Nat) (own : List (Str × Nat)) {js ws : List Nat} (u : D → List AV → List AV) (outs : D → List D) {tg1 iter1 : Expr} {n : Str} {p1 spos : Pos} {sts : List Stmt} {E : Ends} (hi : GI X H0 Γ tg iter els) (ht : ∀ d ∈ els, InBlk X scope fun Y => TgOk Y tg js d (u d)) (hu : ∀ d ∈ els, NoOwn js (u d))
    (hm : ∀ Hb, Same H0 Hb → ∀ d ∈ els, InBlk X scope fun Y => GB Y Hb (u d (wipeA Γ (own.map (·.2)))) (fun T env => innerSem iter1 (.ListComp elt (⟨tg, iter, [], 0⟩ :: ⟨tg1, iter1, [], 0⟩ :: more) scope pos) 0 (.ref T) env) ws (outs d)) (hlen : (els.flatMap outs).length < 100000) (h : GS X H0 (Γ.set i (.own (els.flatMap outs))) sts E)
    (hy : X.N[i]? = some n := by rfl) (hyl : X.env.scope.names.lookup n = some .local := by rfl) (hsw : swapsWith (.ListComp elt (⟨tg, iter, [], 0⟩ :: ⟨tg1, iter1, [], 0⟩ :: more) scope pos) (some (.Name n p1)) spos.line X.env = pure true := by exact sw_true rfl rfl rfl rfl)
    (hjs : ∀ j ∈ js, j ∈ own.map (·.2) := by decide) (hws : ∀ j ∈ ws, j ∈ own.map (·.2) := by decide) (ok : BlkOk X.N X.env.scope scope own := by exact blkOk_by rfl) (hs : ∀ x, foldedSetIterable iter X.env x = pure x := by intro _; rfl) : GS X H0 Γ (.Assign [.Name n p1] (.ListComp elt (⟨tg, iter, [], 0⟩ :: ⟨tg1, iter1, [], 0⟩ :: more) scope pos) spos :: sts) E :=
  gs_setLcN C i own u outs hi ht hu hm hlen h (fun it T env => turn_in rfl rfl _ _ env) hy hyl hsw hjs hws ok hs
end
section
variable {Y : Cx} {Hb : Hp} {Γ : List AV} {tg iter elt : Expr} {els : List D}
theorem gb_of {m : Addr → Env → Sem Unit} {vs : List Nat} {outs outs' : List D} (h : GB Y Hb Γ m vs outs) (e : outs = outs') : GB Y Hb Γ m vs outs' := e ▸ h
theorem gb_last {gens : List Comprehension} {scope : Scope} {pos : Pos} {depth : Nat} {outs : D → D} (hc : Y.calm = true) (hxe : Y.xe = fun _ _ => False) {js : List Nat} (vs : List Nat) (u : D → List AV → List AV)
    (hi : GI Y Hb Γ tg iter els) (ht : ∀ d ∈ els, TgOk Y tg js d (u d)) (hu : ∀ d ∈ els, NoOwn js (u d)) (hm : ∀ Hb', Same Hb Hb' → ∀ d ∈ els, GE Y Hb' (u d (wipeA Γ vs)) elt (outs d)) (hg : gens[depth + 1]? = some ⟨tg, iter, [], 0⟩ := by rfl) (hg2 : gens[depth + 2]? = none := by rfl)
    (hs : ∀ x, foldedSetIterable iter Y.env x = pure x := by intro _; rfl)
    (hjs : ∀ j ∈ js, j ∈ vs := by decide) : GB Y Hb Γ (fun T env => innerSem iter (.ListComp elt gens scope pos) depth (.ref T) env) vs (els.map outs) := by
  have e : els.map outs = els.flatMap fun d => [outs d] := map_flat outs els
  rw [e]
  exact gb_inner (ms := fun T env => emitSem elt (.ref T) env) (ws := []) (p := iter.pos) hc hxe vs u hi ht hu (fun Hb' s d hd => gb_emit hxe (hm Hb' s d hd)) hg (fun it T => turn_last hg hg2 _ _ _) hs hjs (fun _ h => by cases h)
theorem gb_mid {gens : List Comprehension} {scope : Scope} {pos : Pos} {depth : Nat} {tg2 iter2 : Expr} {ws : List Nat} {outs : D → List D} (hc : Y.calm = true) (hxe : Y.xe = fun _ _ => False) {js : List Nat} (vs : List Nat) (u : D → List AV → List AV)
    (hi : GI Y Hb Γ tg iter els) (ht : ∀ d ∈ els, TgOk Y tg js d (u d)) (hu : ∀ d ∈ els, NoOwn js (u d)) (hm : ∀ Hb', Same Hb Hb' → ∀ d ∈ els, GB Y Hb' (u d (wipeA Γ vs)) (fun T env => innerSem iter2 (.ListComp elt gens scope pos) (depth + 1) (.ref T) env) ws (outs d)) (hg : gens[depth + 1]? = some ⟨tg, iter, [], 0⟩ := by rfl) (hg2 : gens[depth + 2]? = some ⟨tg2, iter2, [], 0⟩ := by rfl)
    (hs : ∀ x, foldedSetIterable iter Y.env x = pure x := by intro _; rfl)
    (hjs : ∀ j ∈ js, j ∈ vs := by decide) (hws : ∀ j ∈ ws, j ∈ vs := by decide) : GB Y Hb Γ (fun T env => innerSem iter (.ListComp elt gens scope pos) depth (.ref T) env) vs (els.flatMap outs) :=
  gb_inner (p := iter.pos) hc hxe vs u hi ht hu hm hg (fun it T => turn_in hg hg2 _ _ _) hs hjs hws
end
end WB
namespace WB
open PySem PySem.Spec PyProof.Rows L2
/-! ### short rules -/
theorem Cok.h0 {X : Cx} {k : Nat} (C : Cok X k) : X.A.units < cLine := Nat.lt_of_le_of_lt (Nat.le_add_right _ _) C.hu
theorem Cok.h64 {X : Cx} {k : Nat} (C : Cok X k) : X.A.units + 64 < cLine := Nat.lt_of_succ_lt C.hu
section
variable {X : Cx} {H0 : Hp} {Γ : List AV} {a b c e : Expr} {es : List Expr} {pos : Pos} {x y z d : D} {xs ys : List D} {i j : Int} {k : Nat}
theorem ge_add (ha : GE X H0 Γ a (.int i)) (hb : GE X H0 Γ b (.int j)) : GE X H0 Γ (.BinOp a .Add b pos) (.int (i + j)) := ge_op op_add (d_int0 fun _ => rfl) ha hb
theorem ge_sub (ha : GE X H0 Γ a (.int i)) (hb : GE X H0 Γ b (.int j)) : GE X H0 Γ (.BinOp a .Sub b pos) (.int (i - j)) := ge_op op_sub (d_int0 fun _ => rfl) ha hb
theorem ge_modp (hj : 0 < j) (ha : GE X H0 Γ a (.int i)) (hb : GE X H0 Γ b (.int j)) : GE X H0 Γ (.BinOp a .Mod b pos) (.int (i % j)) := ge_op op_mod (d_int hj fun _ => rfl) ha hb
theorem ge_lt' (ha : GE X H0 Γ a (.int i)) (hb : GE X H0 Γ b (.int j)) (hm : behindInMarks .Lt b = false := by first | exact nomark _ | rfl) : GE X H0 Γ (.Compare a [.Lt] [b] pos) (.bl (decide (i < j))) := ge_cmp op_lt (d_int0 fun _ => rfl) ha hb hm
theorem gt_lt' (ha : GE X H0 Γ a (.int i)) (hb : GE X H0 Γ b (.int j)) (hm : behindInMarks .Lt b = false := by first | exact nomark _ | rfl) : GT X H0 Γ (.Compare a [.Lt] [b] pos) (decide (i < j)) := gt_cmp op_lt (d_int0 fun _ => rfl) ha hb hm
theorem gt_gt' (ha : GE X H0 Γ a (.int i)) (hb : GE X H0 Γ b (.int j)) (hm : behindInMarks .Gt b = false := by first | exact nomark _ | rfl) : GT X H0 Γ (.Compare a [.Gt] [b] pos) (decide (j < i)) := gt_cmp op_gt (d_int0 fun _ => rfl) ha hb hm
theorem gt_ge' (ha : GE X H0 Γ a (.int i)) (hb : GE X H0 Γ b (.int j)) (hm : behindInMarks .GtE b = false := by first | exact nomark _ | rfl) : GT X H0 Γ (.Compare a [.GtE] [b] pos) (decide (j ≤ i)) := gt_cmp op_ge (d_int0 fun _ => rfl) ha hb hm
theorem ge_le' (ha : GE X H0 Γ a (.int i)) (hb : GE X H0 Γ b (.int j)) (hm : behindInMarks .LtE b = false := by first | exact nomark _ | rfl) : GE X H0 Γ (.Compare a [.LtE] [b] pos) (.bl (decide (i ≤ j))) := ge_cmp op_le (d_int0 fun _ => rfl) ha hb hm
theorem gt_le' (ha : GE X H0 Γ a (.int i)) (hb : GE X H0 Γ b (.int j)) (hm : behindInMarks .LtE b = false := by first | exact nomark _ | rfl) : GT X H0 Γ (.Compare a [.LtE] [b] pos) (decide (i ≤ j)) := gt_cmp op_le (d_int0 fun _ => rfl) ha hb hm
theorem ge_lele (ha : GE X H0 Γ a (.int i)) {l : Int} (hb : GE X H0 Γ b (.int j)) (hc : GE X H0 Γ c (.int l)) (hm : lastMarks [.LtE, .LtE] [b, c] = false := by with_unfolding_all rfl) : GE X H0 Γ (.Compare a [.LtE, .LtE] [b, c] pos) (.bl (decide (i ≤ j) && decide (j ≤ l))) := ge_chain op_le op_le (d_int0 fun _ => rfl) (d_int0 fun _ => rfl) ha hb hc hm
theorem gt_lele (ha : GE X H0 Γ a (.int i)) {l : Int} (hb : GE X H0 Γ b (.int j)) (hc : GE X H0 Γ c (.int l)) (hm : lastMarks [.LtE, .LtE] [b, c] = false := by with_unfolding_all rfl) : GT X H0 Γ (.Compare a [.LtE, .LtE] [b, c] pos) (decide (i ≤ j) && decide (j ≤ l)) := gt_chain op_le op_le (d_int0 fun _ => rfl) (d_int0 fun _ => rfl) ha hb hc hm
theorem ge_eq' (C : Cok X k) (ha : GE X H0 Γ a x) (hb : GE X H0 Γ b y) (hx : Sh x := by exact sh_of rfl (by decide)) (hy : Sh y := by exact sh_of rfl (by decide)) (hm : behindInMarks .Eq b = false := by first | exact nomark _ | rfl) : GE X H0 Γ (.Compare a [.Eq] [b] pos) (.bl (D.eqv x y)) := ge_cmp (op_eqD C.h64) (d_eq hx hy) ha hb hm
theorem gt_eq' (C : Cok X k) (ha : GE X H0 Γ a x) (hb : GE X H0 Γ b y) (hx : Sh x := by exact sh_of rfl (by decide)) (hy : Sh y := by exact sh_of rfl (by decide)) (hm : behindInMarks .Eq b = false := by first | exact nomark _ | rfl) : GT X H0 Γ (.Compare a [.Eq] [b] pos) (D.eqv x y) := gt_cmp (op_eqD C.h64) (d_eq hx hy) ha hb hm
theorem ge_ne' (C : Cok X k) (ha : GE X H0 Γ a x) (hb : GE X H0 Γ b y) (hx : Sh x := by exact sh_of rfl (by decide)) (hy : Sh y := by exact sh_of rfl (by decide)) (hm : behindInMarks .NotEq b = false := by first | exact nomark _ | rfl) : GE X H0 Γ (.Compare a [.NotEq] [b] pos) (.bl (!D.eqv x y)) := ge_cmp (op_neD C.h64) (d_ne hx hy) ha hb hm
theorem gt_ne' (C : Cok X k) (ha : GE X H0 Γ a x) (hb : GE X H0 Γ b y) (hx : Sh x := by exact sh_of rfl (by decide)) (hy : Sh y := by exact sh_of rfl (by decide)) (hm : behindInMarks .NotEq b = false := by first | exact nomark _ | rfl) : GT X H0 Γ (.Compare a [.NotEq] [b] pos) (!D.eqv x y) := gt_cmp (op_neD C.h64) (d_ne hx hy) ha hb hm
/-- of whole numbers -/
theorem gt_eqi (C : Cok X k) (ha : GE X H0 Γ a (.int i)) (hb : GE X H0 Γ b (.int j)) (hm : behindInMarks .Eq b = false := by first | exact nomark _ | rfl) : GT X H0 Γ (.Compare a [.Eq] [b] pos) (decide (i = j)) := by
  rw [← int_eqv]; exact gt_eq' C ha hb (sh_of rfl (Nat.zero_le _)) (sh_of rfl (Nat.zero_le _)) hm
theorem ge_eqi (C : Cok X k) (ha : GE X H0 Γ a (.int i)) (hb : GE X H0 Γ b (.int j)) (hm : behindInMarks .Eq b = false := by first | exact nomark _ | rfl) : GE X H0 Γ (.Compare a [.Eq] [b] pos) (.bl (decide (i = j))) := by
  rw [← int_eqv]; exact ge_eq' C ha hb (sh_of rfl (Nat.zero_le _)) (sh_of rfl (Nat.zero_le _)) hm
theorem gt_nei (C : Cok X k) (ha : GE X H0 Γ a (.int i)) (hb : GE X H0 Γ b (.int j)) (hm : behindInMarks .NotEq b = false := by first | exact nomark _ | rfl) : GT X H0 Γ (.Compare a [.NotEq] [b] pos) (!decide (i = j)) := by
  rw [← int_eqv]; exact gt_ne' C ha hb (sh_of rfl (Nat.zero_le _)) (sh_of rfl (Nat.zero_le _)) hm
theorem ge_nei (C : Cok X k) (ha : GE X H0 Γ a (.int i)) (hb : GE X H0 Γ b (.int j)) (hm : behindInMarks .NotEq b = false := by first | exact nomark _ | rfl) : GE X H0 Γ (.Compare a [.NotEq] [b] pos) (.bl (!decide (i = j))) := by
  rw [← int_eqv]; exact ge_ne' C ha hb (sh_of rfl (Nat.zero_le _)) (sh_of rfl (Nat.zero_le _)) hm
theorem gt_isN (ha : GE X H0 Γ a x) {n : Nat} {p2 : Pos} (hm : behindInMarks .Is (.Constant .none n p2) = false := by first | exact nomark _ | rfl) : GT X H0 Γ (.Compare a [.Is] [.Constant .none n p2] pos) (D.eqv x .non) := gt_cmp op_isN d_isN ha ge_non hm
theorem ge_isN (ha : GE X H0 Γ a x) {n : Nat} {p2 : Pos} (hm : behindInMarks .Is (.Constant .none n p2) = false := by first | exact nomark _ | rfl) : GE X H0 Γ (.Compare a [.Is] [.Constant .none n p2] pos) (.bl (D.eqv x .non)) := ge_cmp op_isN d_isN ha ge_non hm
theorem gt_notN (ha : GE X H0 Γ a x) {n : Nat} {p2 : Pos} (hm : behindInMarks .IsNot (.Constant .none n p2) = false := by first | exact nomark _ | rfl) : GT X H0 Γ (.Compare a [.IsNot] [.Constant .none n p2] pos) (!D.eqv x .non) := gt_cmp op_notN d_notN ha ge_non hm
theorem ge_cat' (ha : GE X H0 Γ a (.tup xs)) (hb : GE X H0 Γ b (.tup ys)) (hl : xs.length + ys.length ≤ 100000) : GE X H0 Γ (.BinOp a .Add b pos) (.tup (xs ++ ys)) := ge_op op_catA (d_cat hl) ha hb
theorem gd_var (i : Nat) {n : Str} {pos : Pos} (h : Γ[i]? = some (.d x) := by rfl) (hN : X.N[i]? = some n := by rfl) (hv : Vis X.env.scope n := by first | exact Or.inl rfl | exact Or.inr (Or.inl rfl) | exact Or.inr (Or.inr rfl)) (hd : (n == ("__debug__" : Str)) = false := by decide) (hcd : (n == ("__classdict__" : Str)) = false := by decide) : GV X H0 Γ (.Name n pos) (.d x) := gv_var i h (fun q => by cases q) hN hv hd hcd
end
end WB
namespace WB
open PySem PySem.Spec PyProof.Rows L2
section
variable {P : Program} {w : World} {K : PySem.W.Frag} {mg : Str → Option Value} {base : Heap}
/-! ### is_whole, is_from, is_tuple -/
def wholeB (a : AV) : Bool := isIntA a && !isBoolA a
def dWhole (as : List AV) (r : AV) : Prop := ∃ a, as = [a] ∧ Tb a ∧ r = .d (.bl (wholeB a))
theorem sc_is_whole : FnScope ["thing"] ["thing"] (defScope s_is_whole) := ⟨rfl, rfl, rfl, by decide +kernel, rfl, by decide +kernel, by decide +kernel⟩
theorem c_is_whole (T : Tx K mg) : Cal P w K mg base "is_whole" ["thing"] 1 (spP K dWhole) := by
  refine cal_pure (N := ["thing"]) (st := s_is_whole) (k := 0) T.g_is_whole T.f_is_whole sc_is_whole (fun _ _ _ _ _ _ us hl => match us, hl with | [_], _ => rfl) ?_ ?_
  · rintro as r ⟨a, rfl, _⟩; rfl
  · rintro cdv A outer s H E C as r Q ⟨a, rfl, ha, rfl⟩ hq
    have e1 : [a].map entryA = [a] := by rw [List.map_cons, entry_tb ha]; rfl
    rw [e1]
    exact gs_ret (ge_and (ge_isInt T (gv_var 0 rfl (entry_nn ha)) ha) fun q => ge_one (ge_not (ge_isBool T (gv_var 0 rfl (entry_nn ha)) ha))) hq
def fromB (a : AV) (lo hi : Int) : Bool := match a with
  | .d (.int i) => decide (lo ≤ i) && decide (i ≤ hi)
  | _ => false
def dFrom (as : List AV) (r : AV) : Prop := ∃ a lo hi, as = [a, .d (.int lo), .d (.int hi)] ∧ Tb a ∧ r = .d (.bl (fromB a lo hi))
theorem sc_is_from : FnScope ["thing", "low", "high"] ["thing", "low", "high"] (defScope s_is_from) := ⟨rfl, rfl, rfl, by decide +kernel, rfl, by decide +kernel, by decide +kernel⟩
theorem c_is_from (T : Tx K mg) : Cal P w K mg base "is_from" ["thing", "low", "high"] 2 (spP K dFrom) := by
  refine cal_pure (N := ["thing", "low", "high"]) (st := s_is_from) (k := 1) T.g_is_from T.f_is_from sc_is_from (fun _ _ _ _ _ _ us hl => match us, hl with | [_, _, _], _ => rfl) ?_ ?_
  · rintro as r ⟨a, lo, hi, rfl, _⟩; rfl
  · rintro cdv A outer s H E C as r Q ⟨a, lo, hi, rfl, ha, rfl⟩ hq
    have e1 : ([a, .d (.int lo), .d (.int hi)] : List AV).map entryA = [a, .d (.int lo), .d (.int hi)] := by rw [List.map_cons, entry_tb ha]; rfl
    rw [e1]
    by_cases hw : wholeB a = true
    · obtain ⟨i, rfl⟩ : ∃ i, a = .d (.int i) := by
        cases a with
        | d x => cases x with
          | int i => exact ⟨i, rfl⟩
          | _ => exact absurd hw Bool.false_ne_true
        | _ => exact absurd hw Bool.false_ne_true
      exact gs_ret (d := .bl (fromB (.d (.int i)) lo hi)) (ge_and (k1 := true) (ge_call (c_is_whole T) C.hr (ga1 (gv_var 0 rfl (entry_nn ha))) ⟨_, rfl, ha, rfl⟩) fun q => ge_one (ge_chain op_le op_le (d_int0 (z := .bl (decide (lo ≤ i))) fun _ => rfl) (d_int0 (z := .bl (decide (i ≤ hi))) fun _ => rfl) (ge_var 1) (ge_var 0) (ge_var 2))) hq
    · have hw' : wholeB a = false := by simpa using hw
      have hf : fromB a lo hi = false := by
        cases a with
        | d x => cases x with
          | int i => exact absurd rfl hw
          | _ => rfl
        | _ => rfl
      rw [hf] at hq
      exact gs_ret (d := .bl (false && false)) (ge_and (k1 := false) (ge_call (c_is_whole T) C.hr (ga1 (gv_var 0 rfl (entry_nn ha))) ⟨_, rfl, ha, by rw [hw']⟩) fun q => by cases q) hq
def lenA : AV → Nat
  | .d (.tup ds) => ds.length
  | _ => 0
def tupB (a : AV) (lo hi : Int) : Bool := isTupA a && (decide (lo ≤ (lenA a : Int)) && decide ((lenA a : Int) ≤ hi))
def dTuple (as : List AV) (r : AV) : Prop := ∃ a lo hi, as = [a, .d (.int lo), .d (.int hi)] ∧ Tb a ∧ r = .d (.bl (tupB a lo hi))
theorem sc_is_tuple : FnScope ["thing", "low", "high"] ["thing", "low", "high"] (defScope s_is_tuple) := ⟨rfl, rfl, rfl, by decide +kernel, rfl, by decide +kernel, by decide +kernel⟩
theorem isTup_ex {a : AV} (h : isTupA a = true) : ∃ ds, a = .d (.tup ds) := by
  cases a with
  | d x => cases x with
    | tup ds => exact ⟨ds, rfl⟩
    | _ => cases h
  | _ => cases h
theorem c_is_tuple (T : Tx K mg) : Cal P w K mg base "is_tuple" ["thing", "low", "high"] 1 (spP K dTuple) := by
  refine cal_pure (N := ["thing", "low", "high"]) (st := s_is_tuple) (k := 0) T.g_is_tuple T.f_is_tuple sc_is_tuple (fun _ _ _ _ _ _ us hl => match us, hl with | [_, _, _], _ => rfl) ?_ ?_
  · rintro as r ⟨a, lo, hi, rfl, _⟩; rfl
  · rintro cdv A outer s H E C as r Q ⟨a, lo, hi, rfl, ha, rfl⟩ hq
    have e1 : ([a, .d (.int lo), .d (.int hi)] : List AV).map entryA = [a, .d (.int lo), .d (.int hi)] := by rw [List.map_cons, entry_tb ha]; rfl
    rw [e1]
    refine gs_ret (d := .bl (tupB a lo hi)) (ge_and (ge_isTup T (gv_var 0 rfl (entry_nn ha)) ha) fun q => ?_) hq
    obtain ⟨ds, rfl⟩ := isTup_ex q
    exact ge_one (ge_chain op_le op_le (d_int0 (z := .bl (decide (lo ≤ (ds.length : Int)))) fun _ => rfl) (d_int0 (z := .bl (decide ((ds.length : Int) ≤ hi))) fun _ => rfl) (ge_var 1) (ge_lenT (ge_var 0) T.z_len) (ge_var 2))
end
end WB
namespace WB
open PySem PySem.Spec PyProof.Rows L2
/-! ### t += u of tuples -/
theorem noI_tuple_add : typeLookup (.type "tuple") (dunderI "add") = pure none := by kernel_rfl
theorem iop_catA {X : Cx} : OpR X (inplaceOp .Add) (rCatA X.K) := by
  intro pins s σ H x y v u Q I rx ry h
  obtain ⟨a, b, xs, ys, ex, ey, ha, hb, hz, q0, q1, q2⟩ := h
  subst ex; subst ey
  cases rx; cases ry
  obtain ⟨its, r1, p1, z1⟩ := I.tuple ha
  obtain ⟨its2, r2, p2, z2⟩ := I.tuple hb
  have l1 := r1.length
  have l2 := r2.length
  obtain ⟨⟨cls, dd, data, sl⟩, ho, hc, n, hd⟩ := id p1
  obtain ⟨⟨cls2, dd2, data2, sl2⟩, ho2, hc2, n2, hd2⟩ := id p2
  simp only at hc hd hc2 hd2
  subst hc hd hc2 hd2
  refine wpAny_inplaceOp_concat ⟨_, ho, rfl⟩ ⟨_, ho2, rfl⟩ noI_tuple_add noFill_tuple_add seq_tuple_add ?_
  by_cases hx : xs = []
  · have hi : its = [] := (r1.nil_iff).mpr hx
    subst hi
    exact call_meets PySem.F.slot_tuple_add ⟨_, ho, rfl⟩ PySem.F.entry_tuple_add (PySem.F.args_tuple_add_2 _ _) (tuple_addW0 a b _ _ n n2 dd dd2 sl sl2 (by simp)) ⟨ho, ho2, .ref b, H, I, rfl, q0 hx⟩
  · have hi : its ≠ [] := fun e => hx ((r1.nil_iff).mp e)
    by_cases hy : ys = []
    · have hj : its2 = [] := (r2.nil_iff).mpr hy
      subst hj
      exact call_meets PySem.F.slot_tuple_add ⟨_, ho, rfl⟩ PySem.F.entry_tuple_add (PySem.F.args_tuple_add_2 _ _) (tuple_addW1 a b _ _ n n2 dd dd2 sl sl2 (by simpa using hi) (by simp)) ⟨ho, ho2, .ref a, H, I, rfl, q1 hx hy⟩
    · have hj : its2 ≠ [] := fun e => hy ((r2.nil_iff).mp e)
      refine call_meets PySem.F.slot_tuple_add ⟨_, ho, rfl⟩ PySem.F.entry_tuple_add (PySem.F.args_tuple_add_2 _ _) (tuple_addW2 a b _ _ n n2 dd dd2 sl sl2 (by simpa using hi) (by simpa using hj) (by rw [List.size_toArray, List.size_toArray]; omega)) ⟨ho, ho2, ?_⟩
      have hf : H s.heap.objs.size = none := I.hok.fresh (Nat.le_refl _)
      have e : its.toArray ++ its2.toArray = (its ++ its2).toArray := by simp
      have new : ObjOk X.prog X.w (upd H s.heap.objs.size (.tup (xs ++ ys))) (s.heap.push { cls := .type "tuple", data := .seq (its.toArray ++ its2.toArray) }) s.heap.objs.size (.tup (xs ++ ys)) :=
        ⟨by rw [List.length_append]; exact hz, its ++ its2, r1.append r2, ⟨_, Heap.get?_push_size _ rfl, rfl, _, by rw [← e]⟩⟩
      exact ⟨.ref s.heap.objs.size, _, I.laid (t' := s.toks) (fun b' o' q => Heap.get?_push_of_some _ q) (Nat.le_refl _) new, rfl, q2 hx hy _ hf⟩
section
variable {X : Cx} {H0 : Hp} {Γ : List AV} {e : Expr} {pos p1 : Pos} {x y z : D} {n : Str} {sts : List Stmt} {E : Ends} {k : Nat}
theorem gs_aug (C : Cok X k) (i : Nat) {op : Operator} {r : R2} (ho : OpR X (inplaceOp op) r) (hr : R2D X.K r (.d x) (.d y) z) (he : GE X H0 Γ e y) (h : GS X H0 (Γ.set i (.d z)) sts E) (hx : Γ[i]? = some (.d x) := by rfl) (hi : X.N[i]? = some n := by rfl) (hl : Loc X.env.scope n := by first | exact Or.inl rfl | exact Or.inr rfl)
    (hf : X.fn n = true ∨ X.env.scope.names.lookup n = some .local := by first | exact .inl rfl | exact .inr rfl) : GS X H0 Γ (.AugAssign (.Name n p1) op e pos :: sts) E := fun σ H F => by
  refine sr_cons (s1_of (ps_aug (ti := r) C.nd hi hl pe_self (fun pins s σ H x y v u Q I r1 r2 q => ho pins s σ H x y v u Q I r1 r2 q) hf) ?_)
  obtain ⟨v, e1, r1⟩ := F.d hx
  refine ⟨v, e1, ?_⟩
  refine he σ H _ F fun w H1 e2 r2 => ?_
  refine hr H1 v w _ (r1.mono (Same.tup e2)) r2 fun t H2 e3 r3 => ?_
  exact h _ _ ((F.same (e2.trans e3)).set_d r3)
end
/-! ### sorted of tuples that rise already by their first two numbers -/
/-- two ints ahead -/
structure QdAt (h : Heap) (v : Value) (x y : Int) : Prop where
  ex : ∃ (a : Addr) (o : Obj) (t u : Tok) (r : List Value) (n : Nat), v = .ref a ∧ h.get? a = some o ∧ o.cls = .type "tuple" ∧ o.data = .seq (Value.int x t :: .int y u :: r).toArray n
def kQ (h : Heap) (v : Value) : Int × Int := match v with
  | .ref a => match h.get? a with
    | some o => match o.data with
      | .seq its _ => match its.toList with
        | .int x _ :: .int y _ :: _ => (x, y)
        | _ => (0, 0)
      | _ => (0, 0)
    | none => (0, 0)
  | _ => (0, 0)
theorem kQ_of {h : Heap} {v : Value} {x y : Int} (q : QdAt h v x y) : kQ h v = (x, y) := by
  obtain ⟨a, o, t, u, r, n, rfl, ho, hc, hd⟩ := q.ex
  unfold kQ
  simp only [ho, hd]
theorem QdAt.keeps {h h' : Heap} {v : Value} {x y : Int} (q : QdAt h v x y) (k : ∀ b o, h.get? b = some o → o.cls = .type "tuple" → h'.get? b = some o) : QdAt h' v x y := by
  obtain ⟨a, o, t, u, r, n, e, ho, hc, hd⟩ := q.ex
  exact ⟨a, o, t, u, r, n, e, k a o ho hc, hc, hd⟩
section
variable {prog : Program} {w : World} {A : Around} {E : Value → Shared → Prop} {s : Shared}
theorem kat_refl {b fin : Bool} {Q : Bool → Shared → Prop} (h : Q fin s) : ∀ (l : List Value) (i : Nat), PySem.W.KatLex prog w A b fin Q (l.zip l) i s
  | [], _ => PySem.W.kat_nil h
  | v :: l, i => PySem.W.kat_cons (SeqAt.EqAt.same v prog w _ _ (PySem.W.kat_yes (kat_refl h l (i + 1))))
theorem quad_cmp {vs : List Value} {k : Value → Int × Int} (hp : ∀ v ∈ vs, QdAt s.heap v (k v).1 (k v).2) (hinj : ∀ v ∈ vs, ∀ u ∈ vs, k v = k u → v = u) : SrtO.Cmp prog w A s (tuples' true) (fun p => p.1 ∈ vs) (SrtO.lt2 fun v u => SrtO.lexB (k v) (k u)) := by
  intro p q hm hm'
  show wpAny (model prog w) A (keyLt' (tuples' true) p.1 q.1) (fun r s' => s' = s ∧ r = SrtO.lexB (k p.1) (k q.1)) (fun _ _ => False) s
  have hin := hinj _ hm _ hm'
  have h1 := hp _ hm
  have h2 := hp _ hm'
  unfold SrtO.lexB
  obtain ⟨a, o, t, u, r, n, e, ho, hc, hd⟩ := h1.ex
  obtain ⟨a', o', t', u', r', n', e', ho', hc', hd'⟩ := h2.ex
  by_cases hk : k p.1 = k q.1
  · have epq := hin hk
    rw [← epq, e]
    have e3 : (if (k p.1).1 = (k p.1).1 then decide ((k p.1).2 < (k p.1).2) else decide ((k p.1).1 < (k p.1).1)) = false := by
      rw [if_pos rfl]; exact decide_eq_false (Int.lt_irrefl _)
    rw [← e, e3]
    rw [e]
    refine PySem.W.kat_lt ho hd ho hd ?_
    exact kat_refl ⟨rfl, decide_eq_false (Nat.lt_irrefl _)⟩ _ 0
  · have hne : ¬ ((k p.1).1 = (k q.1).1 ∧ (k p.1).2 = (k q.1).2) := fun z => hk (Prod.ext z.1 z.2)
    rw [e, e']
    refine PySem.W.kat_lt ho hd ho' hd' ?_
    rw [← e, ← e']
    generalize (k p.1).1 = x at hne ⊢
    generalize (k p.1).2 = y at hne ⊢
    generalize (k q.1).1 = x' at hne ⊢
    generalize (k q.1).2 = y' at hne ⊢
    show PySem.W.KatLex prog w A true _ _ ((.int x t, .int x' t') :: (.int y u, .int y' u') :: r.zip r') 0 s
    refine PySem.W.kat_cons (SeqAt.EqAt.int_int x t x' t' prog w _ _ ?_)
    refine PySem.W.kat_go (fun e1 => ?_) (fun e1 => ?_)
    · have ex : x = x' := by simpa using e1
      refine PySem.W.kat_yes (PySem.W.kat_cons (SeqAt.EqAt.int_int y u y' u' prog w _ _ ?_))
      refine PySem.W.kat_go (fun e2 => ?_) (fun e2 => ?_)
      · have ey : y = y' := by simpa using e2
        exact absurd ⟨ex, ey⟩ hne
      · have e3 : (if x = x' then decide (y < y') else decide (x < x')) = decide (y < y') := if_pos ex
        refine PySem.W.kat_no (PySem.W.kat_one _ _ (PyProof.Rows.lt_int ?_))
        exact (show s = s ∧ decide (y < y') = (if x = x' then decide (y < y') else decide (x < x')) from ⟨rfl, e3.symm⟩)
    · have ex : ¬ x = x' := by simpa using e1
      have e3 : (if x = x' then decide (y < y') else decide (x < x')) = decide (x < x') := if_neg ex
      exact PySem.W.kat_no (oneLt_int ⟨rfl, e3.symm⟩)
end
section
variable {prog : Program} {w : World} {A : Around} {E : Value → Shared → Prop} {s : Shared}
theorem quad_firsts {h : Heap} {k : Value → Int × Int} : ∀ us : List Value, (∀ v ∈ us, QdAt h v (k v).1 (k v).2) → ∃ fs : List Value, PySem.W.KatTups h us fs ∧ fs.length = us.length ∧ ∀ f ∈ fs, ∃ x t, f = Value.int x t
  | [], _ => ⟨[], PySem.W.KatTups.nil, rfl, fun _ hm => by cases hm⟩
  | v :: us, hp => by
    obtain ⟨fs, g1, g2, g3⟩ := quad_firsts us fun v' hm => hp v' (List.mem_cons_of_mem _ hm)
    obtain ⟨a, o, t, u, r, n, e, ho, hc, hd⟩ := (hp v List.mem_cons_self).ex
    rw [e]
    refine ⟨_ :: fs, PySem.W.KatTups.cons ho hc hd rfl g1, congrArg Nat.succ g2, fun f hm => ?_⟩
    rcases List.mem_cons.mp hm with z | z
    · exact ⟨_, t, z⟩
    · exact g3 f z
theorem quads_sortable {a : Addr} {us : List Value} {k : Value → Int × Int} (h0 : 0 < us.length) (hp : ∀ v ∈ us, QdAt s.heap v (k v).1 (k v).2) (hinj : ∀ v ∈ us, ∀ u ∈ us, k v = k u → v = u) (ha : ∀ o, s.heap.get? a = some o → o.cls ≠ .type "tuple") :
    SrtO.SortableO prog w A s a us fun v u => SrtO.lexB (k v) (k u) := fun h' keep => by
  have hp' : ∀ v ∈ us, QdAt h' v (k v).1 (k v).2 := fun v hm => (hp v hm).keeps fun b o e c => keep b o (fun z => ha o (by rw [← z]; exact e) c) e
  obtain ⟨fs, g1, g2, g3⟩ := quad_firsts us hp'
  refine ⟨tuples' true, fun Q E hq => ?_, quad_cmp hp' hinj⟩
  refine PySem.W.kat_kind (T := .type "int") g1 (by rw [g2]; exact h0) (fun f hm => ?_) (by rfl) ?_
  · obtain ⟨x, t, e⟩ := g3 f hm
    rw [e]
    exact PySem.W.Looks.now
  · have e : (Value.type "int" != Value.type "tuple") = true := by decide +kernel
    rw [e]; exact hq
theorem risen {lt : Value → Value → Bool} : ∀ (us out : List Value), out.Perm us → out.Pairwise (fun x y => lt y x = false) → us.Pairwise (fun x y => lt x y = true) → out = us
  | [], out, hp, _, _ => hp.eq_nil
  | v :: us, out, hp, ho, hu => by
    obtain ⟨o, out', rfl⟩ : ∃ o out', out = o :: out' := by
      cases out with
      | nil => exact absurd hp.symm (by simp)
      | cons o out' => exact ⟨o, out', rfl⟩
    have e : o = v := by
      by_cases q : o = v
      · exact q
      · exfalso
        have m1 : o ∈ us := by
          have m0 : o ∈ v :: us := hp.subset List.mem_cons_self
          rcases List.mem_cons.mp m0 with z | z
          · exact absurd z q
          · exact z
        have m2 : v ∈ out' := by
          have m0 : v ∈ o :: out' := hp.symm.subset List.mem_cons_self
          rcases List.mem_cons.mp m0 with z | z
          · exact absurd z.symm q
          · exact z
        have r1 := (List.pairwise_cons.mp hu).1 o m1
        have r2 := (List.pairwise_cons.mp ho).1 v m2
        rw [r1] at r2; cases r2
    subst e
    rw [risen us out' ((List.perm_cons o).mp hp) (List.pairwise_cons.mp ho).2 (List.pairwise_cons.mp hu).2]
end
/-- a tuple of data with two numbers ahead -/
def hd2 : D → Option (Int × Int)
  | .tup (.int x :: .int y :: _) => some (x, y)
  | _ => none
def Rise (xs : List D) : Prop := (∀ d ∈ xs, (hd2 d).isSome = true) ∧ xs.Pairwise fun a b => ∃ p q, hd2 a = some p ∧ hd2 b = some q ∧ SrtO.lexB p q = true
theorem lexB_irr (p : Int × Int) : SrtO.lexB p p = false := by
  unfold SrtO.lexB
  rw [if_pos rfl]
  exact decide_eq_false (Int.lt_irrefl _)
theorem qd_of {X : Cx} {pins : List (Addr × Obj)} {σ : L2.St} {H : Hp} {s : Shared} (I : Inv X pins σ H s) {d : D} {v : V} {u : Value} {p : Int × Int} (r : Rp X.K H d v) (ru : RelV v u) (h : hd2 d = some p) : QdAt s.heap u p.1 p.2 := by
  obtain ⟨x, y, rest, rfl, rfl⟩ : ∃ x y rest, d = .tup (.int x :: .int y :: rest) ∧ p = (x, y) := by
    unfold hd2 at h
    split at h
    · cases h; exact ⟨_, _, _, rfl, rfl⟩
    · cases h
  obtain ⟨t, vs, rfl, hs, v1, r1, rfl, e1, v2, r2, rfl, e2, r3⟩ := r
  have e1' : v1 = .int x := e1
  have e2' : v2 = .int y := e2
  subst e1'; subst e2'
  cases ru
  obtain ⟨its, rv, ⟨o, ho, hc, n, hdd⟩, _⟩ := I.tuple hs
  cases rv with
  | cons q1 rv =>
    cases rv with
    | cons q2 rv =>
      obtain ⟨t1, rfl⟩ := q1
      obtain ⟨t2, rfl⟩ := q2
      exact ⟨t, o, t1, t2, _, n, rfl, ho, hc, hdd⟩
theorem rp_vals {X : Cx} {pins : List (Addr × Obj)} {σ : L2.St} {H : Hp} {s : Shared} (I : Inv X pins σ H s) : ∀ {ds : List D} {vs : List V} {us : List Value}, RpAll X.K H ds vs → Vals vs us → Rise ds → (∀ u ∈ us, QdAt s.heap u (kQ s.heap u).1 (kQ s.heap u).2) ∧ us.Pairwise (fun a b => SrtO.lexB (kQ s.heap a) (kQ s.heap b) = true) ∧ Paired (fun d u => ∃ p, hd2 d = some p ∧ kQ s.heap u = p) ds us
  | [], _, us, h, rv, _ => by
    cases h; cases rv
    exact ⟨fun _ hm => (by cases hm), List.Pairwise.nil, .nil⟩
  | d :: ds, _, us, h, rv, hr => by
    obtain ⟨v, r, rfl, h1, h2⟩ := h
    cases rv with
    | @cons _ u _ us' q1 q2 =>
      obtain ⟨p, hp⟩ := Option.isSome_iff_exists.mp (hr.1 d List.mem_cons_self)
      have qd := qd_of I h1 q1 hp
      have ek := kQ_of qd
      obtain ⟨i1, i2, i3⟩ := rp_vals I h2 q2 ⟨fun d' hm => hr.1 d' (List.mem_cons_of_mem _ hm), (List.pairwise_cons.mp hr.2).2⟩
      refine ⟨fun w hm => ?_, List.pairwise_cons.mpr ⟨fun w hm => ?_, i2⟩, .cons ⟨p, hp, by rw [ek]⟩ i3⟩
      · rcases List.mem_cons.mp hm with z | z
        · rw [z, ek]; exact qd
        · exact i1 w z
      · have hlt := (List.pairwise_cons.mp hr.2).1
        have : ∀ {ds : List D} {us : List Value}, Paired (fun d u => ∃ p, hd2 d = some p ∧ kQ s.heap u = p) ds us → w ∈ us → ∃ d' ∈ ds, hd2 d' = some (kQ s.heap w) := by
          intro ds us hpp
          induction hpp with
          | nil => intro h; cases h
          | cons hh _ ih =>
            intro hm
            rcases List.mem_cons.mp hm with z | z
            · obtain ⟨p', g1, g2⟩ := hh
              exact ⟨_, List.mem_cons_self, by rw [z, g2, g1]⟩
            · obtain ⟨d', g1, g2⟩ := ih z
              exact ⟨d', List.mem_cons_of_mem _ g1, g2⟩
        obtain ⟨d', g1, g2⟩ := this i3 hm
        obtain ⟨p', q', e1, e2, e3⟩ := hlt d' g1
        rw [hp] at e1
        rw [g2] at e2
        cases e1; cases e2
        rw [ek]; exact e3
/-- sorted(xs), xs rising: a new list of the same -/
def rSortQ (K : PySem.W.Frag) : List V → Hp → VK → Prop := fun vs H Q => ∃ (a : Addr) (ws : List V) (ds : List D), vs = [V.ref a] ∧ SqL K H a ws ∧ RpAll K H ds ws ∧ Rise ds ∧ ∀ l, H l = none → Q (.ref l) (upd H l (.lst ws))
theorem cr_sortQ {X : Cx} : CallR X (.builtin "sorted") (rSortQ X.K) := by
  intro pins s σ H xs us Q I r h
  obtain ⟨a, ws, ds, rfl, hs, rp, hr, q⟩ := h
  obtain ⟨u, rfl, ru⟩ := vals1 r
  cases ru
  obtain ⟨its, rv, pl, hz⟩ := I.list hs
  obtain ⟨g1, g2, _⟩ := rp_vals I rp rv hr
  have hlen := rv.length
  have hinj : ∀ v ∈ its, ∀ u ∈ its, kQ s.heap v = kQ s.heap u → v = u := by
    have : ∀ l : List Value, l.Pairwise (fun a b => SrtO.lexB (kQ s.heap a) (kQ s.heap b) = true) → ∀ v ∈ l, ∀ u ∈ l, kQ s.heap v = kQ s.heap u → v = u := by
      intro l
      induction l with
      | nil => intro _ v hv; cases hv
      | cons x l ih =>
        intro hp v hv u hu e
        obtain ⟨p1, p2⟩ := List.pairwise_cons.mp hp
        rcases List.mem_cons.mp hv with z | z <;> rcases List.mem_cons.mp hu with y | y
        · rw [z, y]
        · have := p1 u y
          rw [← z, e, lexB_irr] at this; cases this
        · have := p1 v z
          rw [← y, e, lexB_irr] at this; cases this
        · exact ih p2 v z u y e
    exact this its g2
  have hlst : s.heap.IsList a its.toArray := pl.isList
  refine SrtO.sorted_ord (ltv := fun v u => SrtO.lexB (kQ s.heap v) (kQ s.heap u)) (SrtO.swo_lex (kQ s.heap)) hlst (by omega) (fun h2 h₁ b hb kk => ?_) fun out hs' hb => ?_
  · refine quads_sortable (s := { s with heap := h₁ }) (k := kQ s.heap) (by omega) (fun v hm => (g1 v hm).keeps fun b o e _ => (kk b o e).2) hinj fun o e c => ?_
    have e' : some o = some (seqObj "list" its.toArray 0) := e.symm.trans hb
    cases e'
    exact absurd (Value.type.inj c) (by decide)
  · have eo : out = its := risen its out hb.perm hs' g2
    subst eo
    have hf : H (s.heap.objs.size + 1) = none := I.hok.fresh (Nat.le_succ _)
    obtain ⟨n, hn⟩ := sortedAll_at s.heap out out.toArray
    refine ⟨.ref (s.heap.objs.size + 1), upd H (s.heap.objs.size + 1) (.lst ws), I.laid (o := .lst ws) (t' := s.toks) (fun b o e => sortedAll_old e) (Nat.le_succ _) ⟨by omega, out, n, rv, hn⟩, rfl, q _ hf⟩
section
variable {X : Cx} {H0 : Hp} {Γ : List AV} {e : Expr} {pos np : Pos} {ds : List D}
theorem gl_sorted (ha : GV X H0 Γ e (.bw ds)) (hr : Rise ds) (hm : X.mg "sorted" = none) (hg : Gl X "sorted" := by rfl) (he : starEach [e] X.env = (false, eval e X.env) :: starEach [] X.env := by rfl) (hpl : (backTo pos (starEach [] X.env)).any (·.1) = false := by rfl) : GL X H0 Γ (.Call (.Name "sorted" np) [e] [] pos) ds :=
  gl_callB (as := [.bw ds]) cr_sortQ (fun H vs Q ⟨v, r, ev, ⟨t, ws, ew, s, rp⟩, er⟩ k => by
    subst ev; subst ew; cases er
    refine ⟨t, ws, ds, rfl, s, rp, hr, fun l hl => ?_⟩
    have e4 : Same H (upd H l (.lst ws)) := fun b o q => by rw [upd_ne (ne_of_none q hl)]; exact q
    exact k l ws _ hl e4 upd_same (rp.mono (Same.tup e4))) hm (ga1 ha he) hg boot_sorted (by decide) (by decide) he hpl
end
end WB
namespace WB
open PySem PySem.Spec PyProof.Rows L2
def noBw : List AV → Bool
  | [] => true
  | .bw _ :: _ => false
  | _ :: Γ => noBw Γ
theorem noBw_get : ∀ {Γ : List AV} {i : Nat} {xs : List D}, noBw Γ = true → Γ[i]? ≠ some (.bw xs)
  | [], _, _, _ => by simp
  | a :: Γ, 0, xs, h => fun e => by
    have e' : a = .bw xs := Option.some.inj e
    subst e'
    cases h
  | a :: Γ, i + 1, xs, h => by
    have h2 : noBw Γ = true := by
      cases a with
      | bw ys => cases h
      | _ => exact h
    exact noBw_get (Γ := Γ) (i := i) h2
theorem Fm.down {K : PySem.W.Frag} {H0 H1 H : Hp} {σ : L2.St} {Γ : List AV} (F : Fm K H1 σ Γ H) (s : Same H0 H1) (h : noBw Γ = true) : Fm K H0 σ Γ H := by
  refine ⟨s.trans F.ex, F.len, fun i a hi => ?_, F.dis⟩
  obtain ⟨o, e1, e2⟩ := F.at_ i a hi
  refine ⟨o, e1, ?_⟩
  cases a with
  | no => trivial
  | d x => exact e2
  | bw xs => exact absurd hi (noBw_get h)
  | own xs => obtain ⟨l, vs, r1, r2, r3⟩ := e2; exact ⟨l, vs, r1, s.free r2, r3⟩
  | v x => exact e2
section
variable {X : Cx} {H0 : Hp} {Γ : List AV} {a b c e tg iter : Expr} {es : List Expr} {pos p1 np : Pos} {x y z d : D} {ds xs ys els : List D} {n : Str} {k : Nat} {sts body : List Stmt} {E : Ends}
/-! ### a loop whose facts are told by a property; Z: what its body may change -/
def ZOk (X : Cx) (H0 : Hp) (Γ : List AV) (Z : Addr → Prop) : Prop := ∀ (σ : L2.St) (H : Hp), Fm X.K H0 σ Γ H → ∀ a, Z a → (∃ o, H0 a = some o ∧ (∀ xs, o ≠ .tup xs) ∧ ∀ ob u, o ≠ .frz ob u) ∧ ∀ (i : Nat) (xs : List D), Γ[i]? = some (.bw xs) → σ[i]? ≠ some (some (.ref a))
def NoZ : Addr → Prop := fun _ => False
theorem zok_no : ZOk X H0 Γ NoZ := fun _ _ _ _ h => h.elim
/-- all of H0 but Z stands in Hc -/
def Core (Z : Addr → Prop) (H0 Hc : Hp) : Prop := ∀ a o, H0 a = some o → ¬ Z a → Hc a = some o
theorem Core.trans {Z : Addr → Prop} {H0 H1 H2 : Hp} (a : Core Z H0 H1) (b : Core Z H1 H2) : Core Z H0 H2 := fun x o e n => b x o (a x o e n) n
theorem Core.refl {Z : Addr → Prop} {H0 : Hp} : Core Z H0 H0 := fun _ _ e _ => e
theorem Core.same {H0 H1 : Hp} (c : Core NoZ H0 H1) : Same H0 H1 := fun a o e => c a o e fun h => h
theorem Core.of {Z : Addr → Prop} {H0 H1 : Hp} (s : Same H0 H1) : Core Z H0 H1 := fun a o e _ => s a o e
theorem Core.then {Z : Addr → Prop} {H0 H1 H2 : Hp} (a : Core Z H0 H1) (s : Same H1 H2) : Core Z H0 H2 := fun x o e n => s x o (a x o e n)
abbrev forE (X : Cx) (Hc : Hp) (J : Hp → List AV → Prop) (sts : List Stmt) (E : Ends) : Ends := { E with nx := fun σ H => ∃ G Γ', Same Hc G ∧ J G Γ' ∧ Fm X.K G σ Γ' H, ct := fun σ H => ∃ G Γ', Same Hc G ∧ J G Γ' ∧ Fm X.K G σ Γ' H, bk := fun σ H => SR X sts E σ H }
theorem gs_forX (C : Cok X k) {js : List Nat} (u : D → List AV → List AV) (Z : Addr → Prop) (J : Hp → Nat → Hp → List AV → Prop) (hi : GI X H0 Γ tg iter els) (ht : ∀ (i : Nat) (d : D), els[i]? = some d → TgOk X tg js d (u d)) (hZ : ZOk X H0 Γ Z)
    (h0 : ∀ Hc G, Core Z H0 Hc → Same H0 G → Same Hc G → (∀ a, Z a → Hc a = none) → J Hc 0 G Γ)
    (hb : ∀ Hc, Core Z H0 Hc → (∀ a, Z a → Hc a = none) → ∀ (i : Nat) (d : D), els[i]? = some d → ∀ G Γ', Same Hc G → J Hc i G Γ' → GS X G (u d Γ') body (forE X Hc (J Hc (i + 1)) sts E))
    (hr : ∀ Hc, Core Z H0 Hc → (∀ a, Z a → Hc a = none) → ∀ G Γ', Same Hc G → J Hc els.length G Γ' → GS X G Γ' sts E) (hs : ∀ x, foldedSetIterable iter X.env x = pure x := by intro _; rfl) : GS X H0 Γ (.For tg iter body [] pos :: sts) E := fun σ H F => by
  classical
  obtain ⟨wi, hpi, hread⟩ := hi
  refine sr_cons (s1_of (ps_for C.hp C.hc hpi pg_self pss_self hs) ?_)
  refine hread σ H _ F fun It H1 e1 hit => ?_
  have F1 := F.same e1
  obtain ⟨Hb, s0, sb, Fb, hall, hown, _⟩ := F1.rebase
  let Hc : Hp := fun a => if Z a then none else Hb a
  have cb : Same Hc Hb := fun a o e => by
    have e' : (if Z a then none else Hb a) = some o := e
    split at e'
    · cases e'
    · exact e'
  have core : Core Z H0 Hc := fun a o e n => by
    show (if Z a then none else Hb a) = some o
    rw [if_neg n]; exact s0 a o e
  have cz : ∀ a, Z a → Hc a = none := fun a h => if_pos h
  have xo : ExOk H0 H σ Γ (fun a => ownAt σ Γ a ∨ Z a) := fun a ha => by
    rcases ha with ha | ha
    · exact F.exOwn a ha
    · obtain ⟨⟨o, q1, q2, q3⟩, q4⟩ := hZ σ H F a ha
      exact ⟨⟨o, F.ex a o q1, q2, q3⟩, fun i xs g1 g2 => absurd g2 (q4 i xs g1)⟩
  have ok := hit _ Hc xo (cb.trans sb) fun a o e n => by
    show (if Z a then none else Hb a) = some o
    rw [if_neg fun q => n (.inr q)]
    exact hall a o e fun q => n (.inl q)
  refine ⟨fun i m σ' H' => m = els.length - i ∧ i ≤ els.length ∧ ∃ G Γ', Same Hc G ∧ J Hc i G Γ' ∧ Fm X.K G σ' Γ' H', ⟨els.length, by simp, Nat.zero_le _, Hb, Γ, cb, h0 Hc Hb core s0 cb cz, Fb⟩, ?_⟩
  rintro i m σ' H' ⟨rfl, hi, G, Γ', cg, j, F'⟩
  by_cases hlt : i < els.length
  · refine .inr ⟨ok.go i H' hlt (cg.trans F'.ex), fun σ2 H2 => ∃ G Γ', Same Hc G ∧ J Hc (i + 1) G Γ' ∧ Fm X.K G σ2 Γ' H2, fun σ2 H2 p => ⟨els.length - (i + 1), by omega, rfl, hlt, p⟩, fun x H'' hy => ?_⟩
    obtain ⟨e2, d, hd, hr'⟩ := ok.yld i x H' H'' hlt (cg.trans F'.ex) hy
    exact ht i d hd G Γ' σ' H'' x _ (F'.same e2) hr' fun σ2 _ _ F2 => hb Hc core cz i d hd G Γ' cg j σ2 H'' F2
  · have ei : i = els.length := by omega
    subst ei
    exact .inl ⟨ok.stop H' (cg.trans F'.ex), hr Hc core cz G Γ' cg j σ' H' F'⟩
/-! ### small rules -/
/-- one's own list is only read from here on -/
theorem gs_freeze (i : Nat) (h : ∀ H1, Same H0 H1 → GS X H1 (Γ.set i (.bw xs)) sts E) (hi : Γ[i]? = some (.own xs) := by rfl) : GS X H0 Γ sts E := fun σ H F => by
  obtain ⟨H1, s1, _, F1⟩ := F.freeze hi
  exact h H1 s1 σ H F1
/-- a, b = e, [..] -/
theorem gs_parL (C : Cok X k) (i j : Nat) {n1 n2 : Str} {q1 q2 q3 q4 : Pos} {k1 k2 : Nat} (ha : GE X H0 Γ a x) (hb : GL X H0 Γ b ys) (h : GS X H0 ((Γ.set i (.d x)).set j (.own ys)) sts E) (hi : X.N[i]? = some n1 := by rfl) (hj : X.N[j]? = some n2 := by rfl) (hij : i ≠ j := by decide)
    (hx : X.env.scope.names.lookup n1 = some .local := by rfl) (hy : X.env.scope.names.lookup n2 = some .local := by rfl) (hsa : starEach [a, b] X.env = (false, eval a X.env) :: starEach [b] X.env := by rfl) (hsb : starEach [b] X.env = (false, eval b X.env) :: starEach [] X.env := by rfl)
    (hw : swappedStores [.Tuple [.Name n1 q1, .Name n2 q2] k1 q3] (.Tuple [a, b] k2 q4) X.env = pure (some [n1, n2]) := by rfl) (hs : swapsWithSole [.Tuple [.Name n1 q1, .Name n2 q2] k1 q3] (.Tuple [a, b] k2 q4) pos.line X.env = pure false := by rfl) :
    GS X H0 Γ (.Assign [.Tuple [.Name n1 q1, .Name n2 q2] k1 q3] (.Tuple [a, b] k2 q4) pos :: sts) E := fun σ H F => by
  refine sr_cons (s1_of (ps_par C.hc C.nd hi hj hij hx hy (pa_cons pe_self (pa_cons pe_self pa_nil hsb) hsa) hw hs) ?_)
  refine ha σ H _ F fun v H1 e1 r1 => ?_
  refine hb σ H1 _ (F.same e1) fun l vs H2 hl e2 h2 r2 => ⟨v, .ref l, rfl, ?_⟩
  have F1 : Fm X.K H0 (σ.set i (some v)) (Γ.set i (.d x)) H1 := (F.same e1).set_d r1
  exact h _ _ (F1.set_own hl e2 h2 r2)
/-- a + b of new lists -/
theorem gl_cat (ha : GL X H0 Γ a xs) (hb : GL X H0 Γ b ys) (hl : xs.length + ys.length ≤ 100000) : GL X H0 Γ (.BinOp a .Add b pos) (xs ++ ys) := fun σ H Q F kq => by
  refine er_of (pe_op op_cat pe_self pe_self) ?_
  refine ha σ H _ F fun l vs H1 n1 e1 h1 r1 => ?_
  refine hb σ H1 _ (F.same e1) fun l2 ws H2 n2 e2 h2 r2 => ?_
  refine ⟨l, l2, vs, ws, rfl, rfl, e2 _ _ h1, h2, by rw [r1.length, r2.length]; exact Nat.le_trans hl (by decide), fun p hp => ?_⟩
  have e3 : Same H2 (upd H2 p (.lst (vs ++ ws))) := fun b o q => by rw [upd_ne (ne_of_none q hp)]; exact q
  exact kq p _ _ (e1.free (e2.free hp)) (e1.trans (e2.trans e3)) upd_same (RpAll.append (r2.mono (Same.tup e3)) (r1.mono (Same.tup (e2.trans e3))))
/-- a new list of which a property is known -/
def GLx (X : Cx) (H0 : Hp) (Γ : List AV) (e : Expr) (R : List D → Prop) : Prop := ∀ (σ : L2.St) (H : Hp) (Q : VK), Fm X.K H0 σ Γ H → (∀ l vs H' xs, R xs → H l = none → Same H H' → H' l = some (.lst vs) → RpAll X.K H' xs vs → Q (.ref l) H') → ER X e σ H Q
theorem gs_setLx (C : Cok X k) (i : Nat) {R : List D → Prop} (he : GLx X H0 Γ e R) (h : ∀ xs, R xs → GS X H0 (Γ.set i (.own xs)) sts E) (hi : X.N[i]? = some n := by rfl) (hx : Loc X.env.scope n := by first | exact Or.inl rfl | exact Or.inr rfl) (hs : swapsWith e (some (.Name n p1)) pos.line X.env = pure false := by rfl)
    (hf : X.fn n = true ∨ X.env.scope.names.lookup n = some .local := by first | exact .inl rfl | exact .inr rfl) : GS X H0 Γ (.Assign [.Name n p1] e pos :: sts) E := fun σ H F => by
  refine sr_cons (s1_of (ps_set C.nd hi hx pe_self hs hf) ?_)
  exact he σ H _ F fun l vs H1 xs hR hl e1 h1 r1 => h xs hR _ _ (F.set_own hl e1 h1 r1)
end
/-! ### sorted(set(..)) of words -/
theorem rp_words {K : PySem.W.Frag} {H : Hp} : ∀ {ws : List (List Int)} {vs : List V}, RpAll K H (ws.map ti) vs → ∃ ks : List (Addr × List Int), vs = ks.map (fun p => V.ref p.1) ∧ (∀ p ∈ ks, SqT K H p.1 (p.2.map V.int)) ∧ ks.map (·.2) = ws
  | [], _, h => ⟨[], h, fun _ h => (by cases h), rfl⟩
  | w :: ws, _, h => by
    obtain ⟨v, r, rfl, ⟨t, xs, rfl, s, rx⟩, h2⟩ := h
    obtain ⟨ks, e1, e2, e3⟩ := rp_words h2
    have ex := rx.ints
    subst ex
    refine ⟨(t, w) :: ks, by rw [e1]; rfl, fun p hp => ?_, by rw [List.map_cons, e3]⟩
    rcases List.mem_cons.mp hp with z | z
    · rw [z]; exact s
    · exact e2 p z
theorem words_rp {K : PySem.W.Frag} {H : Hp} : ∀ {ks : List (Addr × List Int)}, (∀ p ∈ ks, SqT K H p.1 (p.2.map V.int)) → RpAll K H ((ks.map (·.2)).map ti) (ks.map fun p => V.ref p.1)
  | [], _ => rfl
  | p :: ks, h => ⟨_, _, rfl, ⟨p.1, _, rfl, h p List.mem_cons_self, RpAll.of_ints p.2⟩, words_rp fun q hq => h q (List.mem_cons_of_mem _ hq)⟩
/-- sorted of a set of at most one -/
def rSorted1 (K : PySem.W.Frag) (P : Program) (w : World) : List V → Hp → VK → Prop := fun vs H Q => ∃ (a : Addr) (L : List (Addr × List Int)), vs = [V.ref a] ∧ H a = some (SetTO P w a L) ∧ (∀ p ∈ L, SqT K H p.1 (p.2.map V.int)) ∧ (∀ p ∈ L, p.2 = []) ∧ ∀ p, L.length ≤ 1 → H p = none → Q (.ref p) (upd H p (.lst (L.map fun q => V.ref q.1)))
theorem perm_le1 {α : Type} : ∀ {l m : List α}, l.Perm m → m.length ≤ 1 → l = m
  | l, [], h, _ => List.Perm.eq_nil h
  | l, [x], h, _ => List.perm_singleton.mp h
  | _, _ :: _ :: _, _, h => by simp at h
theorem cr_sorted1 {X : Cx} (hc : X.calm = true) : CallR X (.builtin "sorted") (rSorted1 X.K X.prog X.w) := by
  intro pins s σ H vs us Q I r h
  obtain ⟨a, L, rfl, ha, hk, hL0, q⟩ := h
  have R0 : SetT0 X.prog X.w s.heap a L := (I.hok a _ ha).1
  obtain ⟨es, ep, t, R⟩ := R0.full fun p hp => I.isT (hk p hp)
  have hL : L.length ≤ 1 := by
    have nd := R.nd
    match L, hL0, nd with
    | [], _, _ => exact Nat.zero_le _
    | [_], _, _ => exact Nat.le_refl _
    | p :: q :: _, h0, nd =>
      have e1 := h0 p List.mem_cons_self
      have e2 := h0 q (List.mem_cons_of_mem _ List.mem_cons_self)
      have := (List.pairwise_cons.mp nd).1 q.2 (List.mem_cons_self ..)
      exact absurd (e1.trans e2.symm) this
  rw [Vals.ref1 r]
  obtain ⟨o, ho, hex, hd⟩ := R.ob
  have hsz := R.size
  refine Calls.call_function_entry kind_sorted plain_sorted entry_sorted (args_sorted1 _) ?_
  unfold Builtin.«sorted»
  refine wpAny_bind (m := checkCount "sorted" 1 1 _) (wpAny_pure ?_)
  refine wpAny_bind (collect_set (A := X.A.in1) (I.ok.hd hc) ⟨o, ho, hex.1, hd⟩ R.fits (by unfold scanBound; omega) R.tab.ris R.led fun s1 vs k1 hz g1 o1 pm => ?_)
  have hes : es.toList.map (·.2) = L.map fun q => Value.ref q.1 := by rw [R.rows]; unfold rowsOf; rw [List.map_map]; rfl
  rw [hes] at pm
  have ev := perm_le1 pm (by rw [List.length_map]; exact hL)
  have hvl : vs.length ≤ 1 := by rw [ev, List.length_map]; exact hL
  refine wpAny_bind (wpAny_newList ?_ (by rw [sizeLine_eq]; omega))
  have hoL : (s1.heap.push (seqObj "list" vs.toArray 0)).get? s1.heap.objs.size = some (seqObj "list" vs.toArray 0) := Heap.get?_push_size _ rfl
  refine wpAny_bind (wpAny_holding (wpAny_call_entry slot_list_sort ⟨_, hoL, rfl⟩ entry_list_sort (SK.plain_sort (s := { s1 with heap := s1.heap.push (seqObj "list" vs.toArray 0) }) (r := fun _ => 0) hoL (by omega) (fun h2 => absurd h2 (by omega)) fun ps out h1 h2 h3 => ⟨_, rfl, ?_⟩) (args_list_sort _)))
  obtain ⟨pm1, _⟩ := TS.out_rank (r := fun _ => 0) h1 h2 h3
  have eo := perm_le1 pm1 hvl
  obtain ⟨c, hcc⟩ := sortedHeap_at (vs := vs) (out := out) hoL
  have keep : ∀ b u, s.heap.get? b = some u → (sortedHeap (s1.heap.push (seqObj "list" vs.toArray 0)) s1.heap.objs.size vs out).get? b = some u := fun b u e => by
    have q1 := k1 b u e
    have hlt := Heap.lt_size q1
    rw [sortedHeap_old (Nat.ne_of_lt hlt) (by rw [size_push']; exact Nat.lt_succ_of_lt hlt)]
    exact Heap.get?_push_of_some _ q1
  have hn : H s1.heap.objs.size = none := I.hok.fresh hz
  have hv : Vals (L.map fun q => V.ref q.1) out.toList := by rw [eo, ev]; exact vals_of_refs L
  have J : Inv X pins σ (upd H s1.heap.objs.size (.lst (L.map fun q => V.ref q.1))) { s with heap := sortedHeap (s1.heap.push (seqObj "list" vs.toArray 0)) s1.heap.objs.size vs out, gens := s1.gens, drawn := s1.drawn, toks := s1.toks } :=
    I.call (ch := []) (Un.laid keep hz hn) (I.hok.laid keep hz ⟨by rw [List.length_map]; exact Nat.le_trans hL (by decide), out.toList, c, hv, hcc⟩) (by rw [g1]; exact I.bare) (fun _ z => nomatch z)
  have es1 : ({ s1 with heap := sortedHeap (s1.heap.push (seqObj "list" vs.toArray 0)) s1.heap.objs.size vs out } : Shared) = { s with heap := sortedHeap (s1.heap.push (seqObj "list" vs.toArray 0)) s1.heap.objs.size vs out, gens := s1.gens, drawn := s1.drawn, toks := s1.toks } := by
    cases s1; cases s; cases o1; rfl
  refine wpAny_pure ⟨_, rfl, ?_⟩
  show ∃ v H', _ ∧ _
  rw [es1]
  exact ⟨.ref s1.heap.objs.size, _, J, rfl, q _ hL hn⟩
end WB
namespace WB
open PySem PySem.Spec PyProof.Rows L2
/-! ### enumerate(a tuple) -/
theorem meets_enum_b {v : Value} {o : Obj} {Hq : Heap → Prop} (B : Begins v o Hq) : Meets (Builtin.«enumerate.__new__» ⟨[.type "enumerate", v], []⟩) (fun _ R s => Hq s.heap ∧
    R (.ok (.ret (.ref (s.heap.push o).objs.size))) { s with heap := (s.heap.push o).push { cls := .type "enumerate", data := .fields #[.none, .bool false, .ref s.heap.objs.size, rawInt 0, .none, .none] } }) :=
  .of_wp fun prog w A R s hyp => by
    obtain ⟨hp, g, d, tk, os⟩ := s; obtain ⟨hq, hr⟩ := hyp
    have hsub := sub_enumerate
    have q1 : ∀ {A' : Around} {E : Value → Shared → Prop} {Q : Value → Shared → Prop}, Q (.ref hp.objs.size) ⟨(hp.push o), g, d, tk, os⟩ → wpAny (model prog w) A' (pyIter v) Q E ⟨hp, g, d, tk, os⟩ := fun q => B.iter prog w _ _ ⟨hp, g, d, tk, os⟩ _ (B.keeps _ _ hq fun _ _ e => e) q
    wp_walk
    refine wpAny_stack_any fun st => wpAny_pure ?_
    split
    · rename_i c _ _ _ _ _
      cases (c == Value.type "enumerate") <;> (wp_walk using q1; exact ⟨_, rfl, hr⟩)
    · wp_walk using q1
      exact ⟨_, rfl, hr⟩
section
variable {prog : Program} {w : World} {A : Around} {E : Value → Shared → Prop} {s : Shared}
theorem call_enum_tup {t : Addr} {items : Array Value} {Q : Value → Shared → Prop} (ht : s.heap.IsTuple t items)
    (h : ∀ h', IsEnum h' (s.heap.objs.size + 1) s.heap.objs.size 0 .none → h'.IsTupleIter s.heap.objs.size t 0 → h'.objs.size = s.heap.objs.size + 2 → (∀ b o, s.heap.get? b = some o → h'.get? b = some o) → Q (.ref (s.heap.objs.size + 1)) { s with heap := h' }) :
    wpAny (model prog w) A (call (.type "enumerate") [.ref t]) Q E s := by
  refine callType_new F.called_enumerate (by decide) (F.typeCall_enumerate_1 _) (F.newCall_enumerate_1 _) (fun obj => F.args_object_init_2 obj _) F.entry_enumerate_new (meets_enum_b (begins_tuple t items)) ⟨ht, ?_⟩
  have sz : (s.heap.push { cls := .type "tuple_iterator", data := .fields #[.ref t, .int 0 0] }).objs.size = s.heap.objs.size + 1 := Heap.size_push ..
  show _ ∧ _
  rw [sz]
  have he : IsEnum ((s.heap.push { cls := .type "tuple_iterator", data := .fields #[.ref t, .int 0 0] }).push { cls := .type "enumerate", data := .fields #[.none, .bool false, .ref s.heap.objs.size, rawInt 0, .none, .none] }) (s.heap.objs.size + 1) s.heap.objs.size 0 .none := by
    have q := Heap.get?_push_size (s.heap.push { cls := .type "tuple_iterator", data := .fields #[.ref t, .int 0 0] }) (o := { cls := .type "enumerate", data := .fields #[.none, .bool false, .ref s.heap.objs.size, rawInt 0, .none, .none] }) rfl
    rw [sz] at q; exact q
  exact ⟨⟨_, he, rfl⟩, h _ he ⟨_, Heap.get?_push_of_some _ (Heap.get?_push_size _ rfl), rfl, rfl⟩ (by rw [Heap.size_push, sz]) fun b o x => Heap.get?_push_of_some _ (Heap.get?_push_of_some _ x)⟩
theorem wpAny_pyNext_enumT_end {e it t : Addr} {i : Nat} {c : Int} {items : Array Value} {old : Value} {Q : Option Value → Shared → Prop} (hh : A.handled = none) (he : IsEnum s.heap e it c old) (hit : s.heap.IsTupleIter it t i) (ht : s.heap.IsTuple t items) (hx : items[i]? = none)
    (hQ : ∀ h', Heap.ExtBut it s.heap h' → Q none { s with heap := h' }) : wpAny (model prog w) A (pyNext (.ref e)) Q E s := by
  have tyE : s.TypeIs (.ref e) "enumerate" := ⟨_, he, rfl⟩
  unfold pyNext
  refine wpAny_bind (wpAny_attempt (wpAny_callSpecial?_slot (name := Str.ofString "__next__") tyE F.slot_enumerate_next (wpAny_call_entry F.slot_enumerate_next tyE F.entry_enumerate_next ?_ (F.args_enumerate_next_1 _))))
  show wpAny _ _ (field (.ref e) 2 >>= _) _ _ _
  refine wpAny_bind (wpAny_field he rfl (x := .ref it) rfl (wpAny_bind (wpAny_nextOf_tuple_end hh hit ht hx fun h' x he' hx' => ?_)))
  obtain ⟨o, ho, hc⟩ := hx'
  exact wpAny_bind (wpAny_isInstance (T := "StopIteration") (b := true) ⟨o, ho, hc⟩ isSubtype_stop (wpAny_pure (hQ _ he')))
end
def IteT (K : PySem.W.Frag) (a : Addr) : It :=
  ⟨fun i H => ∃ (xs : List V) (x : V), SqT K H a xs ∧ xs[i]? = some x, fun i H v H' => ∃ T x, v = .ref T ∧ H T = none ∧ H' = upd H T (.tup [.int (i : Nat), x]) ∧ ∀ xs, SqT K H a xs → xs[i]? = some x, fun i H => ∃ xs : List V, SqT K H a xs ∧ xs.length ≤ i⟩
theorem turn_enumT {P : Program} {w : World} {K : PySem.W.Frag} {elts : List Expr} {kk : Nat} {tpos : Pos} (a e it : Addr) :
    Turn P w K (.Tuple elts kk tpos) (IteT K a) [e, it] e (fun i h => (∃ old, IsEnum h e it ((i : Nat) : Int) old) ∧ h.IsTupleIter it a i ∧ e ≠ it ∧ a ≠ it ∧ e ≠ a) where
  mem := by simp
  obj := fun i h st b hb => by
    obtain ⟨⟨old, he⟩, ⟨o, ho, hc, hd⟩, _⟩ := st
    have e' : b = e ∨ b = it := by simpa using hb
    rcases e' with z | z
    · rw [z]; exact ⟨_, he, fun v q => nomatch q⟩
    · rw [z]; exact ⟨o, ho, fun v q => by rw [hd] at q; cases q⟩
  keep := fun i h h' st k => by
    obtain ⟨⟨old, he⟩, hi, n1, n2, n3⟩ := st
    exact ⟨⟨old, k e (by simp) _ he⟩, hi.at fun o q => k it (by simp) o q, n1, n2, n3⟩
  item := by
    intro X hP hw hK hc i pins s σ H E I hf st hg
    subst hP hw hK
    obtain ⟨⟨old, he⟩, hit, hne, hai, hea⟩ := st
    obtain ⟨xs, x, hq, hx⟩ := hg
    obtain ⟨its, rv, p, hz⟩ := I.tuple hq
    obtain ⟨u, hu, ru⟩ := rv.get hx
    have lt1 : e < s.heap.objs.size := Heap.lt_size he
    have lt2 : it < s.heap.objs.size := by obtain ⟨_, q, _⟩ := hit; exact Heap.lt_size q
    have hil : i < its.toArray.size := by
      have := (List.getElem?_eq_some_iff.mp hu).1
      simpa using this
    refine wpAny_pyNext_enum_itemD (Draws.tuple (A := X.A.in1) (I.ok.hd hc) it a hai its.toArray) he ⟨hit, p⟩ hil hne (by simp [hne, hea]) fun x' h' tk hP' ho hst hT hsz hk => ?_
    have ex : x' = u := by
      have hP2 : its.toArray[i]? = some x' := hP'
      have : its[i]? = some x' := by simpa using hP2
      rw [hu] at this; exact (Option.some.inj this).symm
    subst ex
    refine ⟨_, rfl, wpAny_letOwnedTupleGo_enum (s := { s with heap := h', toks := tk + 1 }) ho fun h'' he' sb => ?_⟩
    have tup2 : h''.get? s.heap.objs.size = some { cls := .type "tuple", data := .seq #[.int i tk, x'] } := (sb.2 _ (Nat.ne_of_gt lt1)).trans hT
    have new : ObjOk X.prog X.w (upd H s.heap.objs.size (.tup [.int (i : Nat), x])) h'' s.heap.objs.size (.tup [.int (i : Nat), x]) := ⟨by show 2 ≤ sizeLine; decide, [.int i tk, x'], .cons ⟨_, rfl⟩ (.cons ru .nil), ⟨_, tup2, rfl, _, rfl⟩⟩
    have I1 : Inv X pins σ (upd H s.heap.objs.size (.tup [.int (i : Nat), x])) { s with heap := h'', toks := tk + 1 } :=
      I.turnedNew (t' := tk + 1) (ch := [e, it]) (fun b ob hb q => (sb.2 b (fun z => hb (by simp [z]))).trans (hk b ob (fun z => hb (by simp [z])) (fun z => hb (by simp [z])) q)) hf (Nat.le_refl _) new
    refine ⟨.ref s.heap.objs.size, _, I1, rfl, ⟨_, x, rfl, I.hok.fresh (Nat.le_refl _), rfl, fun ys hy => by rw [I.tuple_inj hy hq]; exact hx⟩, ⟨⟨x', ?_⟩, hst.1.at fun o q => (sb.2 it (Ne.symm hne)).trans q, hne, hai, hea⟩, fun b hb => ?_⟩
    · have e1 : ((i + 1 : Nat) : Int) = (i : Int) + 1 := by omega
      rw [e1]; exact he'
    · have lt3 : b < s.heap.objs.size := by
        have e' : b = e ∨ b = it := by simpa using hb
        rcases e' with z | z <;> rw [z] <;> assumption
      rw [upd_ne (Nat.ne_of_lt lt3)]
      exact (hf b hb).1
  done := by
    intro X hP hw hK hc i pins s σ H E I hf st hg
    subst hP hw hK
    obtain ⟨⟨old, he⟩, hit, hne, hai, hea⟩ := st
    obtain ⟨xs, hq, hx⟩ := hg
    obtain ⟨its, rv, p, hz⟩ := I.tuple hq
    obtain ⟨f0, f1, f2, f3, f4, f5⟩ := hf it (by simp)
    have hl := rv.length
    exact wpAny_pyNext_enumT_end (I.ok.hd hc) he hit p (by simp; omega) fun h' eb => ⟨rfl, I.turned (t' := s.toks) (fun b o hb e => eb b o hb e) f0 f1 f3 f4 f5⟩
  self := fun A i s Q E st h => by obtain ⟨⟨_, he⟩, _⟩ := st; exact wpAny_pyIter_enum he h
def iEnumT (K : PySem.W.Frag) (ta : TA) : TI := fun σ H R => ta σ H fun vs H1 => ∃ a xs, vs = [.ref a] ∧ SqT K H1 a xs ∧ R (IteT K a) H1
theorem pi_enumT {X : Cx} {e : Expr} {ta : TA} {p pos tpos : Pos} {elts : List Expr} {kk : Nat} (hg : Gl X "enumerate") (hm : X.mg "enumerate" = none) (ha : PA X [e] ta) (hs : starEach [e] X.env = [(false, eval e X.env)] := by rfl) : PI X (.Tuple elts kk tpos) (.Call (.Name "enumerate" p) [e] [] pos) (iEnumT X.K ta) := by
  refine ⟨fun pins s σ H R I h => ?_⟩
  refine Call_ (ld_blt I hg hm boot_enumerate (PyProof.Rows.callWith_type1 (thn (ha.run pos pins s σ H _ I h) fun us s1 ⟨vs, H1, I1, r1, q1⟩ => ?_) hs rfl))
  obtain ⟨a, xs, ex, hq, q⟩ := q1
  subst ex
  cases r1 with
  | cons r rr =>
    cases rr
    cases r
    obtain ⟨its, rv, pt, hz⟩ := I1.tuple hq
    have alt : a < s1.heap.objs.size := by obtain ⟨_, qo, _⟩ := pt; exact Heap.lt_size qo
    refine call_enum_tup pt fun h' he hit hsz hk => wpAny_pyIter_enum he ?_
    have I2 : Inv X pins σ H1 { s1 with heap := h' } := I1.kept (t' := s1.toks) hk
    refine ⟨s1.heap.objs.size + 1, [s1.heap.objs.size + 1, s1.heap.objs.size], _, _, H1, rfl, I2, turn_enumT a (s1.heap.objs.size + 1) s1.heap.objs.size, ⟨⟨.none, he⟩, hit, Nat.succ_ne_self _, Nat.ne_of_lt alt, Nat.ne_of_gt (Nat.lt_succ_of_lt alt)⟩, fun b hb => ?_, q⟩
    have hle : s1.heap.objs.size ≤ b := by
      have e' : b = s1.heap.objs.size + 1 ∨ b = s1.heap.objs.size := by simpa using hb
      rcases e' with z | z <;> rw [z]
      · exact Nat.le_succ _
      · exact Nat.le_refl _
    exact I1.fpOk hle (I1.hok.fresh hle)
section
variable {X : Cx} {H0 : Hp} {Γ : List AV} {e : Expr} {pos np : Pos} {xs : List D}
theorem gi_enumT {elts : List Expr} {kk : Nat} {tp : Pos} (ha : GE X H0 Γ e (.tup xs)) (hm : X.mg "enumerate" = none) (hg : Gl X "enumerate" := by rfl) (hs : starEach [e] X.env = [(false, eval e X.env)] := by rfl) (hs2 : starEach [e] X.env = (false, eval e X.env) :: starEach [] X.env := by rfl) : GI X H0 Γ (.Tuple elts kk tp) (.Call (.Name "enumerate" np) [e] [] pos) (enuD xs) := by
  refine ⟨_, pi_enumT hg hm (pa_cons pe_self pa_nil hs2) hs, fun σ H R F k => ?_⟩
  refine ha σ H _ F fun v H1 e1 ⟨t, vs, ev, s1, r1⟩ => ?_
  subst ev
  refine ⟨t, vs, rfl, s1, k _ H1 e1 fun Ex Hb xo eb hb => ?_⟩
  have sb := xo.baseTup e1 hb _ _ s1
  have rb := r1.mono (xo.baseTup e1 hb)
  have hl := r1.length
  refine ⟨fun i H' hi e' => ?_, fun H' e' => ⟨vs, Same.tup e' _ _ sb, by rw [enuD_len]; omega⟩, fun i x H' H'' hi e' hy => ?_⟩
  · rw [enuD_len] at hi
    exact ⟨vs, vs[i]'(by omega), Same.tup e' _ _ sb, List.getElem?_eq_getElem (by omega)⟩
  · obtain ⟨T, x1, q1, q2, q3, q4⟩ := hy
    subst q1 q3
    obtain ⟨d, g1, f1⟩ := rb.get' (q4 vs (Same.tup e' _ _ sb))
    have e4 : Same H' (upd H' T (.tup [.int (i : Nat), x1])) := fun b o q => by rw [upd_ne (ne_of_none q q2)]; exact q
    exact ⟨e4, _, enuD_get g1, T, _, rfl, SqT.of upd_same, _, _, rfl, rfl, x1, [], rfl, f1.mono (Same.tup (e'.trans e4)), rfl⟩
end
end WB
namespace WB
open PySem PySem.Spec PyProof.Rows L2
/-! ### dicts with keys of nested tuples -/
abbrev XE := NestedKey × Addr × V
def RelX (p : XE) (q : NestedKey × Addr × Value) : Prop := p.1 = q.1 ∧ p.2.1 = q.2.1 ∧ RelV p.2.2 q.2.2
def DicO (P : Program) (w : World) (d : Addr) (xs : List XE) : HO := .ext fun h => xs.length ≤ 1000000 ∧ (d == sysModules) = false ∧ (xs.map (·.1)).Nodup ∧ ∃ ys, Paired RelX xs ys ∧ ∃ o es ep, h.get? d = some o ∧ o.ExactDict ∧ o.data = .dict es ep ∧ es.toList = ys.map (entryOfKey (nestedKind P w))
theorem dicO_ok {P : Program} {w : World} {H : Hp} {h : Heap} {d : Addr} {xs : List XE} {ys : List (NestedKey × Addr × Value)} (hz : xs.length ≤ 1000000) (hd : (d == sysModules) = false) (hn : (xs.map (·.1)).Nodup) (r : Paired RelX xs ys) {o : Obj} {es : Array DictEntry} {ep : Nat} (h1 : h.get? d = some o) (h2 : o.ExactDict) (h3 : o.data = .dict es ep) (h4 : es.toList = ys.map (entryOfKey (nestedKind P w))) : ObjOk P w H h d (DicO P w d xs) :=
  ⟨⟨hz, hd, hn, ys, r, o, es, ep, h1, h2, h3, h4⟩, ⟨o, h1⟩, fun _ _ ⟨a1, a2, a3, y, a4, o', e', p', a5, a6⟩ k => ⟨a1, a2, a3, y, a4, o', e', p', k _ a5, a6⟩⟩
/-- the data of its entries -/
def DAll (K : PySem.W.Frag) (H : Hp) : List (D × D) → List XE → Prop
  | [], xs => xs = []
  | (k, v) :: m, xs => ∃ a x r, xs = (k.key, a, x) :: r ∧ Rp K H k (.ref a) ∧ Rp K H v x ∧ k.key.depth ≤ 8 ∧ DAll K H m r
def Dic (P : Program) (w : World) (K : PySem.W.Frag) (G : Hp) (d : Addr) (m : List (D × D)) : Prop := K.lookup d = none ∧ ∃ xs, G d = some (DicO P w d xs) ∧ DAll K G m xs
theorem DAll.mono {K : PySem.W.Frag} {H H' : Hp} (t : Tps K H H') : ∀ {m : List (D × D)} {xs : List XE}, DAll K H m xs → DAll K H' m xs
  | [], _, h => h
  | (_, _) :: _, _, ⟨a, x, r, e, h1, h2, h3, h4⟩ => ⟨a, x, r, e, h1.mono t, h2.mono t, h3, DAll.mono t h4⟩
theorem DAll.length {K : PySem.W.Frag} {H : Hp} : ∀ {m : List (D × D)} {xs : List XE}, DAll K H m xs → xs.length = m.length
  | [], _, h => by cases h; rfl
  | (_, _) :: _, _, ⟨a, x, r, e, h1, h2, h3, h4⟩ => by rw [e]; exact congrArg Nat.succ h4.length
theorem DAll.keys {K : PySem.W.Frag} {H : Hp} : ∀ {m : List (D × D)} {xs : List XE}, DAll K H m xs → xs.map (·.1) = m.map (·.1.key)
  | [], _, h => by cases h; rfl
  | (_, _) :: _, _, ⟨a, x, r, e, h1, h2, h3, h4⟩ => by rw [e, List.map_cons, List.map_cons, h4.keys]
def dget : List (D × D) → D → Option D
  | [], _ => none
  | (k, v) :: m, q => if k.key = q.key then some v else dget m q
def dset : List (D × D) → D → D → List (D × D)
  | [], k, v => [(k, v)]
  | (k0, v0) :: m, k, v => if k0.key = k.key then (k0, v) :: m else (k0, v0) :: dset m k v
theorem dget_dset (m : List (D × D)) (k v q : D) : dget (dset m k v) q = if k.key = q.key then some v else dget m q := by
  induction m with
  | nil => rfl
  | cons p m ih =>
    obtain ⟨k0, v0⟩ := p
    unfold dset
    by_cases h : k0.key = k.key
    · rw [if_pos h]
      unfold dget
      by_cases h2 : k0.key = q.key
      · rw [if_pos h2, if_pos (h ▸ h2)]
      · rw [if_neg h2, if_neg (h ▸ h2), if_neg h2]
    · rw [if_neg h]
      unfold dget
      by_cases h2 : k0.key = q.key
      · rw [if_pos h2, if_pos h2, if_neg (fun z => h (h2.trans z.symm))]
      · rw [if_neg h2, if_neg h2]; exact ih
theorem dset_keys (m : List (D × D)) (k v : D) : (dset m k v).map (·.1.key) = if (dget m k).isSome = true then m.map (·.1.key) else m.map (·.1.key) ++ [k.key] := by
  induction m with
  | nil => rfl
  | cons p m ih =>
    obtain ⟨k0, v0⟩ := p
    unfold dset dget
    by_cases h : k0.key = k.key
    · rw [if_pos h, if_pos h]; rfl
    · rw [if_neg h, if_neg h, List.map_cons, ih]
      split
      · rfl
      · rfl
theorem dget_none {m : List (D × D)} {k : D} (h : dget m k = none) : ∀ e ∈ m, e.1.key ≠ k.key := by
  induction m with
  | nil => intro e he; cases he
  | cons p m ih =>
    obtain ⟨k0, v0⟩ := p
    unfold dget at h
    split at h
    · cases h
    · rename_i hne
      intro e he
      rcases List.mem_cons.mp he with z | z
      · rw [z]; exact hne
      · exact ih h e z
theorem dset_len (m : List (D × D)) (k v : D) : (dset m k v).length ≤ m.length + 1 := by
  have := congrArg List.length (dset_keys m k v)
  rw [List.length_map] at this
  rw [this]
  split
  · rw [List.length_map]; omega
  · rw [List.length_append, List.length_map]; simp
/-! the key of data -/
mutual
theorem rp_nested {X : Cx} {pins : List (Addr × Obj)} {σ : L2.St} {H : Hp} {s : Shared} (I : Inv X pins σ H s) : ∀ {d : D} {v : V} {u : Value}, Rp X.K H d v → RelV v u → NestedIs s.heap d.key u
  | .non, _, _, h, r => by cases h; cases r; exact .none
  | .bl b, _, _, h, r => by cases h; cases r; exact .bool rfl
  | .int i, _, _, h, r => by cases h; obtain ⟨t, rfl⟩ := r; exact .int i t
  | .str x, _, _, h, r => by cases h; obtain ⟨t, rfl⟩ := r; exact .text x t
  | .tup ds, _, _, h, r => by
    obtain ⟨a, xs, rfl, hs, h2⟩ := h
    cases r
    obtain ⟨its, rv, ⟨o, h3, h4, n, h5⟩, _⟩ := I.tuple hs
    exact .tup h3 h4 h5 (rp_nestedAll I h2 rv)
theorem rp_nestedAll {X : Cx} {pins : List (Addr × Obj)} {σ : L2.St} {H : Hp} {s : Shared} (I : Inv X pins σ H s) : ∀ {ds : List D} {vs : List V} {us : List Value}, RpAll X.K H ds vs → Vals vs us → NestedAll s.heap (D.keys ds) us
  | [], _, _, h, r => by cases h; cases r; exact .nil
  | _ :: _, _, _, h, r => by
    obtain ⟨x, t, rfl, h1, h2⟩ := h
    cases r with
    | cons r1 r2 => exact .cons (rp_nested I h1 r1) (rp_nestedAll I h2 r2)
end
theorem key_is {X : Cx} {pins : List (Addr × Obj)} {σ : L2.St} {H : Hp} {s : Shared} (I : Inv X pins σ H s) {k : D} {a : Addr} (h : Rp X.K H k (.ref a)) (hd : k.key.depth ≤ 8) : (nestedKind X.prog X.w).is s.heap k.key a := ⟨rp_nested I h rfl, hd⟩
/-- its keys are data -/
def KAll (K : PySem.W.Frag) (H : Hp) (xs : List XE) : Prop := ∀ e ∈ xs, ∃ kd : D, Rp K H kd (.ref e.2.1) ∧ kd.key = e.1 ∧ e.1.depth ≤ 8
theorem DAll.kall {K : PySem.W.Frag} {H : Hp} : ∀ {m : List (D × D)} {xs : List XE}, DAll K H m xs → KAll K H xs
  | [], _, h => by cases h; exact fun e he => by cases he
  | (k, v) :: m, _, ⟨a, x, t, e, h1, h2, h3, h4⟩ => by
    subst e
    intro e he
    rcases List.mem_cons.mp he with z | z
    · rw [z]; exact ⟨k, h1, rfl, h3⟩
    · exact h4.kall e z
theorem dall_is {X : Cx} {pins : List (Addr × Obj)} {σ : L2.St} {H : Hp} {s : Shared} (I : Inv X pins σ H s) {xs : List XE} {ys : List (NestedKey × Addr × Value)} (h : KAll X.K H xs) (r : Paired RelX xs ys) : ∀ y ∈ ys, (nestedKind X.prog X.w).is s.heap y.1 y.2.1 := by
  induction r with
  | nil => intro y hy; cases hy
  | @cons a b as bs r1 r2 ih =>
    intro y hy
    rcases List.mem_cons.mp hy with z | z
    · obtain ⟨e1, e2, _⟩ := r1
      obtain ⟨kd, q1, q2, q3⟩ := h a List.mem_cons_self
      rw [z, ← e1, ← e2, ← q2]
      exact key_is I q1 (by rw [q2]; exact q3)
    · exact ih (fun e he => h e (List.mem_cons_of_mem _ he)) y z
theorem paired_keys : ∀ {xs : List XE} {ys : List (NestedKey × Addr × Value)}, Paired RelX xs ys → ys.map (·.1) = xs.map (·.1)
  | _, _, .nil => rfl
  | _, _, .cons r t => by rw [List.map_cons, List.map_cons, paired_keys t, r.1]
/-- the dict as the library tells it -/
theorem dic_at {X : Cx} {pins : List (Addr × Obj)} {σ : L2.St} {H : Hp} {s : Shared} (I : Inv X pins σ H s) {d : Addr} {xs : List XE} (h1 : H d = some (DicO X.prog X.w d xs)) (h2 : KAll X.K H xs) : (d == sysModules) = false ∧ xs.length ≤ 1000000 ∧ (xs.map (·.1)).Nodup ∧ ∃ ys, Paired RelX xs ys ∧ s.heap.DictOfH (nestedKind X.prog X.w) d ys := by
  obtain ⟨⟨hz, hd, hn, ys, r, o, es, ep, a1, a2, a3, a4⟩, _⟩ := I.hok d _ h1
  exact ⟨hd, hz, hn, ys, r, o, es, ep, a1, a2, a3, a4, dall_is I h2 r, by rw [paired_keys r]; exact hn⟩
theorem atKey_cons {K' : Type} [DecidableEq K'] (x : K' × Addr × Value) (xs : List (K' × Addr × Value)) (k : K') : atKey (x :: xs) k = if x.1 = k then some x.2 else atKey xs k := by
  unfold atKey
  rw [List.find?_cons]
  by_cases h : x.1 = k
  · rw [if_pos h, decide_eq_true h]; rfl
  · rw [if_neg h, decide_eq_false h]
theorem dget_at {K : PySem.W.Frag} {H : Hp} (q : D) : ∀ {m : List (D × D)} {xs : List XE} {ys : List (NestedKey × Addr × Value)}, DAll K H m xs → Paired RelX xs ys →
    (dget m q = none ∧ atKey ys q.key = none) ∨ ∃ v x u b, dget m q = some v ∧ atKey ys q.key = some (b, u) ∧ Rp K H v x ∧ RelV x u
  | [], _, _, h, r => by cases h; cases r; exact .inl ⟨rfl, rfl⟩
  | (k, v) :: m, _, _, ⟨a, x, t, e, h1, h2, h3, h4⟩, r => by
    subst e
    cases r with
    | @cons _ y _ ys' r1 r2 =>
      obtain ⟨k', b, u⟩ := y
      obtain ⟨e1, e2, e3⟩ := r1
      rw [atKey_cons]
      unfold dget
      by_cases hk : k.key = q.key
      · rw [if_pos hk, if_pos (by rw [← e1]; exact hk)]
        exact .inr ⟨v, x, u, b, rfl, rfl, h2, e3⟩
      · rw [if_neg hk, if_neg (by rw [← e1]; exact hk)]
        exact dget_at q h4 r2
/-! the store -/
def putX : List XE → NestedKey → Addr → V → List XE
  | [], k, a, v => [(k, a, v)]
  | (k0, a0, v0) :: r, k, a, v => if k0 = k then (k0, a0, v) :: r else (k0, a0, v0) :: putX r k a v
theorem putAt_miss {k : NestedKey} {u : Value} : ∀ {ys : List (NestedKey × Addr × Value)}, k ∉ ys.map (·.1) → ys.map (putAt k u) = ys
  | [], _ => rfl
  | y :: ys, h => by
    rw [List.map_cons, putAt_miss fun z => h (by rw [List.map_cons]; exact List.mem_cons_of_mem _ z)]
    unfold putAt
    rw [if_neg fun z => h (by rw [List.map_cons, z]; exact List.mem_cons_self)]
theorem putX_rel {k : NestedKey} {a : Addr} {v : V} {u : Value} (rv : RelV v u) : ∀ {xs : List XE} {ys : List (NestedKey × Addr × Value)}, Paired RelX xs ys → (xs.map (·.1)).Nodup → Paired RelX (putX xs k a v) (storedH ys k a u)
  | _, _, .nil, _ => .cons ⟨rfl, rfl, rv⟩ .nil
  | _, _, @Paired.cons _ _ _ (k0, a0, v0) (k1, b1, u1) xs ys ⟨e1, e2, e3⟩ t, hn => by
    have e1 : k0 = k1 := e1
    have e2 : a0 = b1 := e2
    subst e1; subst e2
    rw [List.map_cons, List.nodup_cons] at hn
    unfold putX
    by_cases h : k0 = k
    · subst h
      rw [if_pos rfl]
      have hs : storedH ((k0, a0, u1) :: ys) k0 a u = (k0, a0, u) :: ys := by
        unfold storedH
        rw [atKey_cons, if_pos rfl]
        show putAt k0 u (k0, a0, u1) :: ys.map (putAt k0 u) = (k0, a0, u) :: ys
        rw [putAt_miss (by rw [paired_keys t]; exact hn.1)]
        unfold putAt
        rw [if_pos rfl]
      rw [hs]
      exact .cons ⟨rfl, rfl, rv⟩ t
    · rw [if_neg h]
      have hs : storedH ((k0, a0, u1) :: ys) k a u = (k0, a0, u1) :: storedH ys k a u := by
        unfold storedH
        rw [atKey_cons, if_neg h]
        split
        · rw [List.map_cons]
          unfold putAt
          rw [if_neg h]
        · rfl
      rw [hs]
      exact .cons ⟨rfl, rfl, e3⟩ (putX_rel rv t hn.2)
theorem putX_keys (k : NestedKey) (a : Addr) (v : V) : ∀ xs : List XE, (putX xs k a v).map (·.1) = if k ∈ xs.map (·.1) then xs.map (·.1) else xs.map (·.1) ++ [k]
  | [] => by simp [putX]
  | (k0, a0, v0) :: r => by
    unfold putX
    by_cases h : k0 = k
    · rw [if_pos h, if_pos (by rw [List.map_cons, h]; exact List.mem_cons_self)]; rfl
    · rw [if_neg h, List.map_cons, putX_keys k a v r]
      by_cases h2 : k ∈ r.map (·.1)
      · rw [if_pos h2, if_pos (by rw [List.map_cons]; exact List.mem_cons_of_mem _ h2)]; rfl
      · rw [if_neg h2, if_neg (by rw [List.map_cons]; exact fun z => (List.mem_cons.mp z).elim (fun q => h q.symm) h2)]; rfl
theorem putX_nodup {k : NestedKey} {a : Addr} {v : V} {xs : List XE} (h : (xs.map (·.1)).Nodup) : ((putX xs k a v).map (·.1)).Nodup := by
  rw [putX_keys]
  split
  · exact h
  · rename_i hk
    exact List.nodup_append.mpr ⟨h, List.nodup_cons.mpr ⟨fun z => (by cases z), List.Pairwise.nil⟩, fun x hx y hy e => by
      rw [List.mem_singleton.mp hy] at e
      exact hk (e ▸ hx)⟩
theorem putX_len (k : NestedKey) (a : Addr) (v : V) (xs : List XE) : (putX xs k a v).length ≤ xs.length + 1 := by
  have := congrArg List.length (putX_keys k a v xs)
  rw [List.length_map] at this
  rw [this]
  split
  · rw [List.length_map]; omega
  · rw [List.length_append, List.length_map]; simp
theorem putX_all {K : PySem.W.Frag} {H : Hp} {k v : D} {a : Addr} {x : V} (hk : Rp K H k (.ref a)) (hv : Rp K H v x) (hd : k.key.depth ≤ 8) : ∀ {m : List (D × D)} {xs : List XE}, DAll K H m xs → DAll K H (dset m k v) (putX xs k.key a x)
  | [], _, h => by cases h; exact ⟨a, x, [], rfl, hk, hv, hd, rfl⟩
  | (k0, v0) :: m, _, ⟨a0, x0, r, e, h1, h2, h3, h4⟩ => by
    subst e
    unfold dset putX
    by_cases h : k0.key = k.key
    · rw [if_pos h, if_pos h]
      exact ⟨a0, x, r, rfl, h1, hv, h3, h4⟩
    · rw [if_neg h, if_neg h]
      exact ⟨a0, x0, _, rfl, h1, h2, h3, putX_all hk hv hd h4⟩
end WB
namespace WB
open PySem PySem.Spec PyProof.Rows L2
/-! ### what is known is forgotten -/
def WeakL : List AV → List AV → Prop
  | [], [] => True
  | a :: as, b :: bs => (b = .no ∨ b = a) ∧ WeakL as bs
  | _, _ => False
theorem WeakL.len : ∀ {as bs : List AV}, WeakL as bs → bs.length = as.length
  | [], [], _ => rfl
  | _ :: _, _ :: _, ⟨_, h⟩ => congrArg Nat.succ (WeakL.len h)
theorem WeakL.get : ∀ {as bs : List AV} {i : Nat} {b : AV}, WeakL as bs → bs[i]? = some b → b = .no ∧ (∃ a, as[i]? = some a) ∨ as[i]? = some b
  | [], [], _, _, _, e => by simp at e
  | [], _ :: _, _, _, h, _ => h.elim
  | _ :: _, [], _, _, h, _ => h.elim
  | _ :: _, _ :: _, 0, b, ⟨h, _⟩, e => by
    have e' := Option.some.inj e
    subst e'
    rcases h with h | h
    · exact .inl ⟨h, _, rfl⟩
    · exact .inr (by rw [h]; rfl)
  | _ :: as, _ :: bs, i + 1, b, ⟨_, h⟩, e => WeakL.get (as := as) (bs := bs) (i := i) (b := b) h e
theorem Fm.weak {K : PySem.W.Frag} {H0 H : Hp} {σ : L2.St} {Γ Γ' : List AV} (F : Fm K H0 σ Γ H) (h : WeakL Γ Γ') : Fm K H0 σ Γ' H := by
  refine ⟨F.ex, by rw [F.len, h.len], fun i b e => ?_, fun i j xs ys l hij e1 e2 => ?_⟩
  · rcases h.get e with ⟨eb, a, ea⟩ | ea
    · obtain ⟨o, e1, _⟩ := F.at_ i a ea
      exact ⟨o, e1, by rw [eb]; trivial⟩
    · exact F.at_ i b ea
  · have g1 : Γ[i]? = some (.own xs) := by
      rcases h.get e1 with ⟨eb, _⟩ | ea
      · cases eb
      · exact ea
    have g2 : Γ[j]? = some (.own ys) := by
      rcases h.get e2 with ⟨eb, _⟩ | ea
      · cases eb
      · exact ea
    exact F.dis i j xs ys l hij g1 g2
theorem gs_weak {X : Cx} {H0 : Hp} {Γ Γ' : List AV} {sts : List Stmt} {E : Ends} (w : WeakL Γ Γ') (h : GS X H0 Γ' sts E) : GS X H0 Γ sts E := fun σ H F => h σ H (F.weak w)

/-! ### the row's lock, told as data -/
def E0 : List Nat → List Int
  | [] => []
  | _ :: rs => E0 rs ++ [0]
def E1 : List Nat → List Int
  | [] => []
  | m :: rs => (if m % 2 = 0 then E0 rs else E1 rs) ++ [(m : Int) - 1]
def Wy (rs : List Nat) (h : Nat) : List Int := if h % 2 = 0 then E1 rs else E0 rs
def gapD (h t : Int) (w : List Int) : D := .tup [.int h, .int t, .int 1, .tup [ti w]]
def tiedR : Nat → List (List Int) → List D
  | _, [] => []
  | k, w :: ws => gapD (k : Int) ((k : Int) + 1) w :: gapD ((k : Int) + 1) (k : Int) w :: tiedR (k + 1) ws
theorem tiedR_snoc (w : List Int) : ∀ (ws : List (List Int)) (k : Nat), tiedR k (ws ++ [w]) = tiedR k ws ++ [gapD ((k + ws.length : Nat) : Int) (((k + ws.length : Nat) : Int) + 1) w] ++ [gapD (((k + ws.length : Nat) : Int) + 1) ((k + ws.length : Nat) : Int) w]
  | [], k => rfl
  | v :: ws, k => by
    show _ :: _ :: tiedR (k + 1) (ws ++ [w]) = _
    rw [tiedR_snoc w ws (k + 1)]
    have e : k + 1 + ws.length = k + (v :: ws).length := by rw [List.length_cons]; omega
    rw [e]
    rfl
theorem tiedR_len : ∀ (ws : List (List Int)) (k : Nat), (tiedR k ws).length = 2 * ws.length
  | [], _ => rfl
  | w :: ws, k => by
    show (tiedR (k + 1) ws).length + 1 + 1 = 2 * (ws.length + 1)
    rw [tiedR_len ws (k + 1)]; omega
theorem tiedR_key : ∀ (ws : List (List Int)) (k : Nat), ∀ d ∈ tiedR k ws, ∃ p, hd2 d = some p ∧ (p.1 > (k : Int) ∨ (p.1 = (k : Int) ∧ p.2 > (k : Int)))
  | [], _, d, h => by cases h
  | w :: ws, k, d, h => by
    rcases List.mem_cons.mp h with e | h
    · subst e
      exact ⟨((k : Int), (k : Int) + 1), rfl, .inr ⟨rfl, by show (k : Int) + 1 > k; omega⟩⟩
    · rcases List.mem_cons.mp h with e | h
      · subst e
        exact ⟨((k : Int) + 1, (k : Int)), rfl, .inl (by show (k : Int) + 1 > k; omega)⟩
      · obtain ⟨p, e, hp⟩ := tiedR_key ws (k + 1) d h
        refine ⟨p, e, .inl ?_⟩
        rcases hp with hp | ⟨hp, _⟩ <;> omega
theorem tiedR_rise : ∀ (ws : List (List Int)) (k : Nat), Rise (tiedR k ws)
  | [], _ => ⟨fun _ h => (by cases h), List.Pairwise.nil⟩
  | w :: ws, k => by
    obtain ⟨r1, r2⟩ := tiedR_rise ws (k + 1)
    refine ⟨fun d h => ?_, List.pairwise_cons.mpr ⟨fun d h => ?_, List.pairwise_cons.mpr ⟨fun d h => ?_, r2⟩⟩⟩
    · rcases List.mem_cons.mp h with e | h
      · subst e; rfl
      · rcases List.mem_cons.mp h with e | h
        · subst e; rfl
        · exact r1 d h
    · rcases List.mem_cons.mp h with e | h
      · subst e
        refine ⟨_, _, rfl, rfl, SrtO.lexB_iff.mpr (.inl ?_)⟩
        show (k : Int) < k + 1
        omega
      · obtain ⟨p, e, hp⟩ := tiedR_key ws (k + 1) d h
        refine ⟨_, _, rfl, e, SrtO.lexB_iff.mpr (.inl ?_)⟩
        show (k : Int) < p.1
        rcases hp with hp | ⟨hp, _⟩ <;> omega
    · obtain ⟨p, e, hp⟩ := tiedR_key ws (k + 1) d h
      refine ⟨_, _, rfl, e, SrtO.lexB_iff.mpr ?_⟩
      show (k : Int) + 1 < p.1 ∨ ((k : Int) + 1 = p.1 ∧ (k : Int) < p.2)
      rcases hp with hp | ⟨hp, hq⟩ <;> omega
def waysL (rs : List Nat) (n : Nat) : List (List Int) := (List.range n).map (Wy rs)
def gapsD (rs : List Nat) (m : Nat) : List D := tiedR 0 (waysL rs (m - 1))
def boltD (m : Nat) (rs : List Nat) : D := .tup [.int m, .tup (gapsD rs m)]
def lockD : List Nat → List D
  | [] => []
  | m :: rs => lockD rs ++ [boltD m rs]
theorem lockD_len : ∀ rs, (lockD rs).length = rs.length
  | [] => rfl
  | m :: rs => by
    show (lockD rs ++ [boltD m rs]).length = _
    rw [List.length_append, lockD_len rs]; rfl

section
variable {P : Program} {w : World} {K : PySem.W.Frag} {mg : Str → Option Value} {base : Heap}
def dTied (as : List AV) (r : AV) : Prop := ∃ ws : List (List Int), as = [.bw (ws.map ti)] ∧ ws.length ≤ 100 ∧ r = .d (.tup (tiedR 0 ws))
theorem sc_tied : FnScope ["pairs", "gaps", "here", "way"] ["pairs"] (defScope s_tied) := ⟨rfl, rfl, rfl, by decide +kernel, rfl, by decide +kernel, by decide +kernel⟩
theorem c_tied (T : Tx K mg) : Cal P w K mg base "tied" ["pairs"] 1 (spP K dTied) := by
  refine cal_pure (N := ["pairs", "gaps", "here", "way"]) (st := s_tied) (k := 0) T.g_tied T.f_tied sc_tied (fun _ _ _ _ _ _ us hl => match us, hl with | [_], _ => rfl) ?_ ?_
  · rintro as r ⟨ws, rfl, _⟩; rfl
  · rintro cdv A outer s H E C as r Q ⟨ws, rfl, hw, rfl⟩ hq
    refine gs_setL C 1 (gl_lst (ds := []) ga_nil) ?_
    refine gs_for C (js := [2, 3]) (fun d Γ => match d with | .tup [a, b] => (Γ.set 2 (.d a)).set 3 (.d b) | _ => Γ) (fun i => [.bw (ws.map ti), .own (tiedR 0 (ws.take i)), .no, .no]) (gi_enumV 0 T.z_enumerate) ?_ rfl ?_ ?_
    · intro i d hd
      have hi : i < (ws.map ti).length := by rw [← enuD_len]; exact (List.getElem?_eq_some_iff.mp hd).1
      rw [enuD_get (List.getElem?_eq_getElem hi)] at hd
      cases hd
      exact tg_tup C (tgs_cons (tg_name C 2) (tgs_cons (tg_name C 3) tgs_nil))
    · intro Hb s0 i d hd
      have hi : i < (ws.map ti).length := by rw [← enuD_len]; exact (List.getElem?_eq_some_iff.mp hd).1
      rw [enuD_get (List.getElem?_eq_getElem hi)] at hd
      cases hd
      rw [List.length_map] at hi
      have el : (ws.map ti)[i]'(by rw [List.length_map]; exact hi) = ti ws[i] := by rw [List.getElem_map]
      rw [el]
      have hlt : (tiedR 0 (ws.take i)).length ≤ 200 := by rw [tiedR_len, List.length_take]; omega
      refine gs_append 1 (xs := tiedR 0 (ws.take i)) (d := gapD (i : Int) ((i : Int) + 1) ws[i]) (ge_tup (ds := [.int (i : Int), .int ((i : Int) + 1), .int 1, .tup [ti ws[i]]]) (gac (ge_var 2) (gac (ge_op op_add (d_int0 (z := .int ((i : Int) + 1)) fun _ => rfl) (ge_var 2) ge_int) (gac ge_int (gac1 (ge_tup (ds := [ti ws[i]]) (gac1 (ge_var 3)))))))) ?_ (by omega)
      refine gs_append 1 (xs := tiedR 0 (ws.take i) ++ [gapD (i : Int) ((i : Int) + 1) ws[i]]) (d := gapD ((i : Int) + 1) (i : Int) ws[i]) (ge_tup (ds := [.int ((i : Int) + 1), .int (i : Int), .int 1, .tup [ti ws[i]]]) (gac (ge_op op_add (d_int0 (z := .int ((i : Int) + 1)) fun _ => rfl) (ge_var 2) ge_int) (gac (ge_var 2) (gac ge_int (gac1 (ge_tup (ds := [ti ws[i]]) (gac1 (ge_var 3)))))))) ?_ (by rw [List.length_append, List.length_singleton]; omega)
      refine gs_nil fun σ H F => ?_
      have e : tiedR 0 (ws.take (i + 1)) = tiedR 0 (ws.take i) ++ [gapD (i : Int) ((i : Int) + 1) ws[i]] ++ [gapD ((i : Int) + 1) (i : Int) ws[i]] := by
        rw [List.take_add_one, List.getElem?_eq_getElem hi]
        show tiedR 0 (ws.take i ++ [ws[i]]) = _
        rw [tiedR_snoc]
        have ei : 0 + (ws.take i).length = i := by rw [List.length_take]; omega
        rw [ei]
      show Fm _ Hb σ [.bw (ws.map ti), .own (tiedR 0 (ws.take (i + 1))), .no, .no] H
      rw [e]
      exact F.weak ⟨.inr rfl, .inr rfl, .inl rfl, .inl rfl, trivial⟩
    · intro Hb s0
      have e : (ws.take (enuD (ws.map ti)).length) = ws := by rw [enuD_len, List.length_map, List.take_length]
      rw [e]
      exact gs_ret (ge_tuple (GL.rd (gl_sorted (go_var 1) (tiedR_rise ws 0) T.z_sorted)) T.z_tuple) (hq.up s0)
end
end WB
namespace WB
open PySem PySem.Spec PyProof.Rows L2
/-! ### words of a lock -/
/-- a place of each bolt, the lowest first; rs: how many places, the highest bolt first -/
def Wd : List Nat → List Int → Prop
  | [], w => w = []
  | m :: rs, w => ∃ v p, w = v ++ [p] ∧ Wd rs v ∧ 0 ≤ p ∧ p ≤ (m : Int) - 1
theorem Wd.len : ∀ {rs : List Nat} {w : List Int}, Wd rs w → w.length = rs.length
  | [], _, h => by rw [show _ = ([] : List Int) from h]; rfl
  | m :: rs, _, ⟨v, p, e, h, _⟩ => by rw [e, List.length_append, Wd.len h]; rfl
def Ok24 (rs : List Nat) : Prop := ∀ m ∈ rs, 2 ≤ m ∧ m ≤ 4
theorem Ok24.tl {m : Nat} {rs : List Nat} (h : Ok24 (m :: rs)) : Ok24 rs := fun x hx => h x (List.mem_cons_of_mem _ hx)
theorem Ok24.hd {m : Nat} {rs : List Nat} (h : Ok24 (m :: rs)) : 2 ≤ m ∧ m ≤ 4 := h m List.mem_cons_self
theorem wd_E0 : ∀ {rs : List Nat}, Ok24 rs → Wd rs (E0 rs)
  | [], _ => rfl
  | m :: rs, h => ⟨E0 rs, 0, rfl, wd_E0 h.tl, Int.le_refl 0, by have := h.hd; omega⟩
theorem wd_E1 : ∀ {rs : List Nat}, Ok24 rs → Wd rs (E1 rs)
  | [], _ => rfl
  | m :: rs, h => by
    refine ⟨if m % 2 = 0 then E0 rs else E1 rs, (m : Int) - 1, rfl, ?_, ?_, Int.le_refl _⟩
    · split
      · exact wd_E0 h.tl
      · exact wd_E1 h.tl
    · have := h.hd; omega
theorem wd_Wy {rs : List Nat} (h : Ok24 rs) (i : Nat) : Wd rs (Wy rs i) := by
  unfold Wy
  split
  · exact wd_E1 h
  · exact wd_E0 h
/-- a word's places and the bolts -/
theorem zip_word : ∀ {rs : List Nat} {w : List Int}, Wd rs w → ∀ d ∈ zipD (w.map D.int) (lockD rs), ∃ (p : Int) (m : Nat) (gs : D), d = .tup [.int p, .tup [.int m, gs]] ∧ 0 ≤ p ∧ p ≤ (m : Int) - 1
  | [], w, h, d, hd => by
    have e : w = [] := h
    subst e
    cases hd
  | m :: rs, _, ⟨v, p, e, h, h0, h1⟩, d, hd => by
    subst e
    have hl : (v.map D.int).length = (lockD rs).length := by rw [List.length_map, h.len, lockD_len]
    have e2 : zipD ((v ++ [p]).map D.int) (lockD (m :: rs)) = zipD (v.map D.int) (lockD rs) ++ [.tup [.int p, boltD m rs]] := by
      unfold zipD
      rw [List.map_append, show lockD (m :: rs) = lockD rs ++ [boltD m rs] from rfl, List.zipWith_append hl]
      rfl
    rw [e2] at hd
    rcases List.mem_append.mp hd with z | z
    · exact zip_word h d z
    · rw [List.mem_singleton.mp z]
      exact ⟨p, m, _, rfl, h0, h1⟩
theorem all_true {α : Type} : ∀ l : List α, (l.map fun _ => D.bl true) = (List.replicate l.length true).map D.bl
  | [] => rfl
  | _ :: l => by rw [List.map_cons, all_true l]; rfl
theorem all_rep : ∀ n : Nat, (List.replicate n true).all _root_.id = true
  | 0 => rfl
  | n + 1 => by rw [List.replicate_succ, List.all_cons, all_rep n]; rfl
section
variable {P : Program} {w : World} {K : PySem.W.Frag} {mg : Str → Option Value} {base : Heap}
theorem fromB_in {p lo hi : Int} (h0 : lo ≤ p) (h1 : p ≤ hi) : fromB (.d (.int p)) lo hi = true := by
  show (decide (lo ≤ p) && decide (p ≤ hi)) = true
  rw [decide_eq_true h0, decide_eq_true h1]; rfl
theorem tupB_in {ds : List D} {lo hi : Int} (h0 : lo ≤ (ds.length : Int)) (h1 : (ds.length : Int) ≤ hi) : tupB (.d (.tup ds)) lo hi = true := by
  show (true && (decide (lo ≤ (ds.length : Int)) && decide ((ds.length : Int) ≤ hi))) = true
  rw [decide_eq_true h0, decide_eq_true h1]; rfl
def dWord (as : List AV) (r : AV) : Prop := ∃ (rs : List Nat) (v : List Int), as = [.d (.tup (lockD rs)), .d (ti v), .d (.int rs.length)] ∧ rs.length ≤ 100 ∧ Wd rs v ∧ r = .d (.bl true)
theorem sc_is_word : FnScope ["lock", "thing", "many", "place", "bolt"] ["lock", "thing", "many"] (defScope s_is_word) := ⟨rfl, rfl, rfl, by decide +kernel, rfl, by decide +kernel, by decide +kernel⟩
theorem c_is_word (T : Tx K mg) : Cal P w K mg base "is_word" ["lock", "thing", "many"] 3 (spP K dWord) := by
  refine cal_pure (N := ["lock", "thing", "many", "place", "bolt"]) (st := s_is_word) (k := 2) T.g_is_word T.f_is_word sc_is_word (fun _ _ _ _ _ _ us hl => match us, hl with | [_, _, _], _ => rfl) ?_ ?_
  · rintro as r ⟨rs, v, rfl, _⟩; rfl
  · rintro cdv A outer s H E C as r Q ⟨rs, v, rfl, hl, hw, rfl⟩ hq
    have hlen := hw.len
    refine gs_unless (gt_not (gt_val (k0 := true) (ge_call (c_is_tuple T) (C.hr.mono (by decide)) (gac (ge_var 1) (gac (ge_var 2) (gac1 (ge_var 2)))) ⟨.d (ti v), _, _, rfl, tb_d, ?_⟩))) ?_
    · have e : tupB (.d (ti v)) (rs.length : Int) (rs.length : Int) = true := tupB_in (by rw [List.length_map, hlen]; exact Int.le_refl _) (by rw [List.length_map, hlen]; exact Int.le_refl _)
      rw [e]
    · refine gs_ret (d := .bl ((List.replicate (zipD (v.map D.int) (lockD rs)).length true).all _root_.id)) (ge_all ?_ T.z_all C.hc) (by rw [all_rep]; exact hq)
      rw [← all_true]
      refine GL.rd (gl_lc0 C [("place", 3), ("bolt", 4)] (js := [3, 4]) (fun d Γ => match d with | .tup [a, b] => (Γ.set 3 (.d a)).set 4 (.d b) | _ => Γ) (fun _ => .bl true) (gi_zipT (ge_var (x := ti v) 1) (ge_var 0) T.z_zip) ?_ ?_ ?_)
      · intro d hd s H C' cl fp
        obtain ⟨p, m, gs, rfl, _⟩ := zip_word hw d hd
        exact tg_tup C.blk (tgs_cons (tg_name C.blk 3) (tgs_cons (tg_name C.blk 4) tgs_nil))
      · intro Hb s0 d hd s H C' cl fp
        obtain ⟨p, m, gs, rfl, h0, h1⟩ := zip_word hw d hd
        refine ge_call (c_is_from T) C.hr (gac (ge_var 3) (gac ge_int (gac1 (ge_op op_sub (d_int0 (z := .int ((m : Int) - 1)) fun _ => rfl) (ge_ixT (ge_var 4) ge_int) ge_int)))) ⟨_, _, _, rfl, tb_d, ?_⟩
        rw [fromB_in h0 h1]
      · have : (zipD (v.map D.int) (lockD rs)).length ≤ v.length := by
          unfold zipD; rw [List.length_zipWith, List.length_map]; omega
        omega
theorem sc_is_open_word : FnScope ["lock", "thing", "many", "place", "bolt"] ["lock", "thing", "many"] (defScope s_is_open_word) := ⟨rfl, rfl, rfl, by decide +kernel, rfl, by decide +kernel, by decide +kernel⟩
theorem c_is_open_word (T : Tx K mg) : Cal P w K mg base "is_open_word" ["lock", "thing", "many"] 3 (spP K dWord) := by
  refine cal_pure (N := ["lock", "thing", "many", "place", "bolt"]) (st := s_is_open_word) (k := 2) T.g_is_open_word T.f_is_open_word sc_is_open_word (fun _ _ _ _ _ _ us hl => match us, hl with | [_, _, _], _ => rfl) ?_ ?_
  · rintro as r ⟨rs, v, rfl, _⟩; rfl
  · rintro cdv A outer s H E C as r Q ⟨rs, v, rfl, hl, hw, rfl⟩ hq
    have hlen := hw.len
    refine gs_unless (gt_not (gt_val (k0 := true) (ge_call (c_is_tuple T) (C.hr.mono (by decide)) (gac (ge_var 1) (gac (ge_var 2) (gac1 (ge_var 2)))) ⟨.d (ti v), _, _, rfl, tb_d, ?_⟩))) ?_
    · have e : tupB (.d (ti v)) (rs.length : Int) (rs.length : Int) = true := tupB_in (by rw [List.length_map, hlen]; exact Int.le_refl _) (by rw [List.length_map, hlen]; exact Int.le_refl _)
      rw [e]
    · refine gs_ret (d := .bl ((List.replicate (zipD (v.map D.int) (lockD rs)).length true).all _root_.id)) (ge_all ?_ T.z_all C.hc) (by rw [all_rep]; exact hq)
      rw [← all_true]
      refine GL.rd (gl_lc0 C [("place", 3), ("bolt", 4)] (js := [3, 4]) (fun d Γ => match d with | .tup [a, b] => (Γ.set 3 (.d a)).set 4 (.d b) | _ => Γ) (fun _ => .bl true) (gi_zipT (ge_var (x := ti v) 1) (ge_var 0) T.z_zip) ?_ ?_ ?_)
      · intro d hd s H C' cl fp
        obtain ⟨p, m, gs, rfl, _⟩ := zip_word hw d hd
        exact tg_tup C.blk (tgs_cons (tg_name C.blk 3) (tgs_cons (tg_name C.blk 4) tgs_nil))
      · intro Hb s0 d hd s H C' cl fp
        obtain ⟨p, m, gs, rfl, h0, h1⟩ := zip_word hw d hd
        refine ge_or (k1 := false) (k2 := true) (ge_cmp op_isN (d_isN (x := .int p)) (ge_var 3) ge_non) fun _ => ge_one (ge_call (c_is_from T) C.hr (gac (ge_var 3) (gac ge_int (gac1 (ge_op op_sub (d_int0 (z := .int ((m : Int) - 1)) fun _ => rfl) (ge_ixT (ge_var 4) ge_int) ge_int)))) ⟨_, _, _, rfl, tb_d, ?_⟩)
        rw [fromB_in h0 h1]
      · have : (zipD (v.map D.int) (lockD rs)).length ≤ v.length := by
          unfold zipD; rw [List.length_zipWith, List.length_map]; omega
        omega
end
end WB
namespace WB
open PySem PySem.Spec PyProof.Rows L2
/-- tuples of ints, each below the next -/
def Asc (ls : List (List Int)) : Prop := ∀ (k : Nat) (a b : List Int), ls[k]? = some a → ls[k + 1]? = some b → HT.lexLt a b = true
theorem rng_mem {lo : Int} {n : Nat} {d : D} (h : d ∈ rng lo n) : ∃ i : Nat, i < n ∧ d = .int (lo + (i : Nat)) := by
  unfold rng at h
  obtain ⟨i, hi, e⟩ := List.mem_map.mp h
  exact ⟨i, List.mem_range.mp hi, e.symm⟩
section
variable {P : Program} {w : World} {K : PySem.W.Frag} {mg : Str → Option Value} {base : Heap}
def dRising (as : List AV) (r : AV) : Prop := ∃ ls : List (List Int), (as = [.d (.tup (ls.map ti))] ∨ as = [.bw (ls.map ti)]) ∧ ls.length ≤ 100 ∧ Asc ls ∧ r = .d (.bl true)
theorem sc_are_rising : FnScope ["row", "k"] ["row"] (defScope s_are_rising) := ⟨rfl, rfl, rfl, by decide +kernel, rfl, by decide +kernel, by decide +kernel⟩
theorem c_are_rising (T : Tx K mg) : Cal P w K mg base "are_rising" ["row"] 1 (spP K dRising) := by
  refine cal_pure (N := ["row", "k"]) (st := s_are_rising) (k := 0) T.g_are_rising T.f_are_rising sc_are_rising (fun _ _ _ _ _ _ us hl => match us, hl with | [_], _ => rfl) ?_ ?_
  · rintro as r ⟨ls, h, _⟩; rcases h with rfl | rfl <;> rfl
  · rintro cdv A outer s H E C as r Q ⟨ls, h, hl, ha, rfl⟩ hq
    have key : ∀ d ∈ rng 0 (((ls.map ti).length : Int) - 1).toNat, ∃ (i : Nat) (a b : List Int), d = .int (i : Nat) ∧ (ls.map ti)[i]? = some (ti a) ∧ (ls.map ti)[i + 1]? = some (ti b) ∧ HT.lexLt a b = true := by
      intro d hd
      obtain ⟨i, hi, rfl⟩ := rng_mem hd
      rw [List.length_map] at hi
      have h1 : i < ls.length := by omega
      have h2 : i + 1 < ls.length := by omega
      refine ⟨i, ls[i], ls[i + 1], by rw [Int.zero_add], ?_, ?_, ha i _ _ (List.getElem?_eq_getElem h1) (List.getElem?_eq_getElem h2)⟩
      · rw [List.getElem?_map, List.getElem?_eq_getElem h1]; rfl
      · rw [List.getElem?_map, List.getElem?_eq_getElem h2]; rfl
    have hr : (rng 0 (((ls.map ti).length : Int) - 1).toNat).length ≤ 100 := by rw [rng_len, List.length_map]; omega
    have hb : -1000000 ≤ ((ls.map ti).length : Int) - 1 ∧ ((ls.map ti).length : Int) - 1 ≤ 1000000 := by rw [List.length_map]; omega
    rcases h with rfl | rfl
    · refine gs_ret (d := .bl ((List.replicate (rng 0 (((ls.map ti).length : Int) - 1).toNat).length true).all _root_.id)) (ge_all ?_ T.z_all C.hc) (by rw [all_rep]; exact hq)
      rw [← all_true]
      refine GL.rd (gl_lc0 C [("k", 1)] (js := [1]) (fun d Γ => Γ.set 1 (.d d)) (fun _ => .bl true) (gi_range1 (ge_op op_sub (d_int0 (z := .int (((ls.map ti).length : Int) - 1)) fun _ => rfl) (ge_lenT (ge_var 0) T.z_len) ge_int) T.z_range hb.1 hb.2) ?_ ?_ (by omega))
      · intro d hd s H C' cl fp
        exact tg_name C.blk 1
      · intro Hb s0 d hd s H C' cl fp
        obtain ⟨i, a, b, rfl, g1, g2, g3⟩ := key d hd
        rw [← g3]
        exact ge_cmp (op_ltT C.h0) d_ltT (ge_ixT (ge_var 0) (ge_var 1) (atI_nat g1)) (ge_ixT (ge_var 0) (ge_op op_add (d_int0 (z := .int ((i : Int) + 1)) fun _ => rfl) (ge_var 1) ge_int) (atI_nat (j := i + 1) g2))
    · refine gs_ret (d := .bl ((List.replicate (rng 0 (((ls.map ti).length : Int) - 1).toNat).length true).all _root_.id)) (ge_all ?_ T.z_all C.hc) (by rw [all_rep]; exact hq)
      rw [← all_true]
      refine GL.rd (gl_lc0 C [("k", 1)] (js := [1]) (fun d Γ => Γ.set 1 (.d d)) (fun _ => .bl true) (gi_range1 (ge_op op_sub (d_int0 (z := .int (((ls.map ti).length : Int) - 1)) fun _ => rfl) (ge_lenL (gb_var 0) T.z_len) ge_int) T.z_range hb.1 hb.2) ?_ ?_ (by omega))
      · intro d hd s H C' cl fp
        exact tg_name C.blk 1
      · intro Hb s0 d hd s H C' cl fp
        obtain ⟨i, a, b, rfl, g1, g2, g3⟩ := key d hd
        rw [← g3]
        exact ge_cmp (op_ltT C.h0) d_ltT (ge_ixL (gb_var 0) (ge_var 1) (atI_nat g1)) (ge_ixL (gb_var 0) (ge_op op_add (d_int0 (z := .int ((i : Int) + 1)) fun _ => rfl) (ge_var 1) ge_int) (atI_nat (j := i + 1) g2))
theorem sc_is_gap : FnScope ["below", "many", "thing", "here", "there", "price", "ways", "way"] ["below", "many", "thing"] (defScope s_is_gap) := ⟨rfl, rfl, rfl, by decide +kernel, rfl, by decide +kernel, by decide +kernel⟩
def dGap (as : List AV) (r : AV) : Prop := ∃ (rs : List Nat) (m h t : Int) (v : List Int), as = [.d (.tup (lockD rs)), .d (.int m), .d (gapD h t v)] ∧ rs.length ≤ 100 ∧ Wd rs v ∧ 0 ≤ h ∧ h ≤ m - 1 ∧ 0 ≤ t ∧ t ≤ m - 1 ∧ h ≠ t ∧ r = .d (.bl true)
theorem gt_of {X : Cx} {H0 : Hp} {Γ : List AV} {e : Expr} {b k : Bool} (h : GT X H0 Γ e b) (hb : b = k) : GT X H0 Γ e k := hb ▸ h
theorem ge_of {X : Cx} {H0 : Hp} {Γ : List AV} {e : Expr} {b k : D} (h : GE X H0 Γ e b) (hb : b = k) : GE X H0 Γ e k := hb ▸ h
theorem Asc.one (v : List Int) : Asc [v] := fun k a b _ h2 => by
  have := (List.getElem?_eq_some_iff.mp h2).1
  simp at this
theorem c_is_gap (T : Tx K mg) : Cal P w K mg base "is_gap" ["below", "many", "thing"] 4 (spP K dGap) := by
  refine cal_pure (N := ["below", "many", "thing", "here", "there", "price", "ways", "way"]) (st := s_is_gap) (k := 3) T.g_is_gap T.f_is_gap sc_is_gap (fun _ _ _ _ _ _ us hl => match us, hl with | [_, _, _], _ => rfl) ?_ ?_
  · rintro as r ⟨rs, m, h, t, v, rfl, _⟩; rfl
  · rintro cdv A outer s H E C as r Q ⟨rs, m, h, t, v, rfl, hl, hv, h0, h1, t0, t1, ht, rfl⟩ hq
    refine gs_unless (gt_not (gt_val (k0 := true) (ge_call (c_is_tuple T) (C.hr.mono (by decide)) (gac (ge_var 2) (gac ge_int (gac1 ge_int))) ⟨_, _, _, rfl, tb_d, rfl⟩))) ?_
    refine gs_unp C (ge_var 2) (tg_tup C (tgs_cons (tg_name C 3) (tgs_cons (tg_name C 4) (tgs_cons (tg_name C 5) (tgs_cons (tg_name C 6) tgs_nil))))) ?_
    refine gs_unless (GW.t (k0 := !true || (!true || false)) (gw_or (gt_not (gt_val (k0 := true) (ge_call (c_is_from T) (C.hr.mono (by decide)) (gac (ge_var 3) (gac ge_int (gac1 (ge_sub (ge_var 1) ge_int)))) ⟨_, _, _, rfl, tb_d, by rw [fromB_in h0 h1]⟩))) fun _ =>
      gw_or (gt_not (gt_val (k0 := true) (ge_call (c_is_from T) (C.hr.mono (by decide)) (gac (ge_var 4) (gac ge_int (gac1 (ge_sub (ge_var 1) ge_int)))) ⟨_, _, _, rfl, tb_d, by rw [fromB_in t0 t1]⟩))) fun _ =>
      gw_or1 (gt_of (gt_eqi C (ge_var 3) (ge_var 4)) (decide_eq_false ht)))) ?_
    refine gs_unless (GW.t (k0 := !true || !true) (gw_or (gt_not (gt_val (k0 := true) (ge_call (c_is_from T) (C.hr.mono (by decide)) (gac (ge_var 5) (gac ge_int (gac1 (ge_glob T.i_MOST_PRICE)))) ⟨_, _, _, rfl, tb_d, by rw [fromB_in (by decide) (by decide)]⟩))) fun _ =>
      gw_or1 (gt_not (gt_of (k := true) (gt_val (ge_isTup (p := .d (.tup [ti v])) T (gd_var 6) tb_d)) rfl)))) ?_
    refine gs_ret (d := .bl (([true] : List Bool).all _root_.id && true)) (ge_and (ge_all ?_ T.z_all C.hc) fun _ => ge_one (ge_call (c_are_rising T) (C.hr.mono (by decide)) (gac1 (ge_var 6)) ⟨[v], .inl rfl, Nat.le_of_ble_eq_true rfl, Asc.one v, rfl⟩)) hq
    refine GL.rd (gl_lc0 (els := [ti v]) C [("way", 7)] (js := [7]) (fun d Γ => Γ.set 7 (.d d)) (fun _ => .bl true) (gi_tup (ge_var 6)) ?_ ?_ (Nat.le_of_ble_eq_true rfl))
    · intro d hd s H C' cl fp
      exact tg_name C.blk 7
    · intro Hb s0 d hd s H C' cl fp
      rw [List.mem_singleton.mp hd]
      exact ge_call (c_is_word T) C.hr (gac (ge_var 0) (gac (ge_var 7) (gac1 (ge_of (ge_lenT (ge_var 0) T.z_len) (by rw [lockD_len]))))) ⟨rs, v, rfl, hl, hv, rfl⟩
theorem Asc.cons {a b : List Int} {l : List (List Int)} (h : HT.lexLt a b = true) (hl : Asc (b :: l)) : Asc (a :: b :: l) := fun k x y h1 h2 => by
  cases k with
  | zero =>
    have e1 : a = x := Option.some.inj h1
    have e2 : b = y := Option.some.inj h2
    rw [← e1, ← e2]; exact h
  | succ k => exact hl k x y h1 h2
def prs : Nat → Nat → List (List Int)
  | _, 0 => []
  | k, n + 1 => [(k : Int), (k : Int) + 1] :: [(k : Int) + 1, (k : Int)] :: prs (k + 1) n
theorem prs_asc : ∀ (n k : Nat), Asc (prs k n)
  | 0, _ => fun k a b h _ => by simp [prs] at h
  | n + 1, k => by
    have l1 : HT.lexLt [(k : Int), (k : Int) + 1] [(k : Int) + 1, (k : Int)] = true := by
      rw [HT.lexLt_cons, if_neg (by omega)]; exact decide_eq_true (by omega)
    refine Asc.cons l1 ?_
    cases n with
    | zero => exact Asc.one _
    | succ n =>
      refine Asc.cons ?_ (prs_asc (n + 1) (k + 1))
      have e : ((k + 1 : Nat) : Int) = (k : Int) + 1 := by omega
      rw [e, HT.lexLt_cons, if_pos rfl, HT.lexLt_cons, if_neg (by omega)]; exact decide_eq_true (by omega)
def fTwo : D → D
  | .tup (a :: b :: _) => .tup [a, b]
  | d => d
theorem tiedR_two : ∀ (ws : List (List Int)) (k : Nat), (tiedR k ws).map fTwo = (prs k ws.length).map ti
  | [], _ => rfl
  | w :: ws, k => by
    show _ :: _ :: (tiedR (k + 1) ws).map fTwo = _ :: _ :: (prs (k + 1) ws.length).map ti
    rw [tiedR_two ws (k + 1)]; rfl
theorem tiedR_mem : ∀ (ws : List (List Int)) (k : Nat), ∀ d ∈ tiedR k ws, ∃ (h t : Int) (v : List Int), d = gapD h t v ∧ v ∈ ws ∧ (k : Int) ≤ h ∧ h ≤ (k : Int) + ws.length ∧ (k : Int) ≤ t ∧ t ≤ (k : Int) + ws.length ∧ h ≠ t
  | [], _, d, hd => by cases hd
  | w :: ws, k, d, hd => by
    rcases List.mem_cons.mp hd with e | hd
    · exact ⟨_, _, w, e, List.mem_cons_self, by omega, by rw [List.length_cons]; omega, by omega, by rw [List.length_cons]; omega, by omega⟩
    · rcases List.mem_cons.mp hd with e | hd
      · exact ⟨_, _, w, e, List.mem_cons_self, by omega, by rw [List.length_cons]; omega, by omega, by rw [List.length_cons]; omega, by omega⟩
      · obtain ⟨h, t, v, e, hv, h1, h2, h3, h4, h5⟩ := tiedR_mem ws (k + 1) d hd
        exact ⟨h, t, v, e, List.mem_cons_of_mem _ hv, by omega, by rw [List.length_cons]; omega, by omega, by rw [List.length_cons]; omega, h5⟩
theorem waysL_len (rs : List Nat) (n : Nat) : (waysL rs n).length = n := by simp [waysL]
theorem waysL_mem {rs : List Nat} {n : Nat} {v : List Int} (h : v ∈ waysL rs n) : ∃ i, i < n ∧ v = Wy rs i := by
  unfold waysL at h
  obtain ⟨i, hi, e⟩ := List.mem_map.mp h
  exact ⟨i, List.mem_range.mp hi, e.symm⟩
theorem gapsD_mem {rs : List Nat} {m : Nat} (ok : Ok24 (m :: rs)) {d : D} (hd : d ∈ gapsD rs m) : ∃ (h t : Int) (v : List Int), d = gapD h t v ∧ (∃ i, i < m - 1 ∧ v = Wy rs i) ∧ Wd rs v ∧ 0 ≤ h ∧ h ≤ (m : Int) - 1 ∧ 0 ≤ t ∧ t ≤ (m : Int) - 1 ∧ h ≠ t := by
  obtain ⟨h, t, v, e, hv, h1, h2, h3, h4, h5⟩ := tiedR_mem _ _ d hd
  rw [waysL_len] at h2 h4
  have := ok.hd
  obtain ⟨i, hi, ev⟩ := waysL_mem hv
  exact ⟨h, t, v, e, ⟨i, hi, ev⟩, ev ▸ wd_Wy ok.tl i, by omega, by omega, by omega, by omega, h5⟩
theorem gapsD_len (rs : List Nat) (m : Nat) : (gapsD rs m).length = 2 * (m - 1) := by unfold gapsD; rw [tiedR_len, waysL_len]
theorem ones_map {α : Type} : ∀ l : List α, (l.map fun _ => D.int 1) = (List.replicate l.length (1 : Int)).map D.int
  | [] => rfl
  | _ :: l => by rw [List.map_cons, ones_map l]; rfl
theorem sum_ones : ∀ n : Nat, (List.replicate n (1 : Int)).sum = n
  | 0 => rfl
  | n + 1 => by rw [List.replicate_succ, List.sum_cons, sum_ones n]; omega
theorem sc_is_bolt : FnScope ["below", "thing", "many", "gaps", "gap"] ["below", "thing"] (defScope s_is_bolt) := ⟨rfl, rfl, rfl, by decide +kernel, rfl, by decide +kernel, by decide +kernel⟩
def dBolt (as : List AV) (r : AV) : Prop := ∃ (rs : List Nat) (m : Nat), as = [.d (.tup (lockD rs)), .d (boltD m rs)] ∧ rs.length ≤ 100 ∧ Ok24 (m :: rs) ∧ r = .d (.bl true)
theorem c_is_bolt (T : Tx K mg) : Cal P w K mg base "is_bolt" ["below", "thing"] 5 (spP K dBolt) := by
  refine cal_pure (N := ["below", "thing", "many", "gaps", "gap"]) (st := s_is_bolt) (k := 4) T.g_is_bolt T.f_is_bolt sc_is_bolt (fun _ _ _ _ _ _ us hl => match us, hl with | [_, _], _ => rfl) ?_ ?_
  · rintro as r ⟨rs, m, rfl, _⟩; rfl
  · rintro cdv A outer s H E C as r Q ⟨rs, m, rfl, hl, ok, rfl⟩ hq
    have hm := ok.hd
    have gl := gapsD_len rs m
    have gl2 : (gapsD rs m).length ≤ 12 := by omega
    refine gs_unless (GW.t (k0 := !true || (!true || !true)) (gw_or (gt_not (gt_val (k0 := true) (ge_call (c_is_tuple T) (C.hr.mono (by decide)) (gac (ge_var 1) (gac ge_int (gac1 ge_int))) ⟨_, _, _, rfl, tb_d, rfl⟩))) fun _ =>
      gw_or (gt_not (gt_val (k0 := true) (ge_call (c_is_from T) (C.hr.mono (by decide)) (gac (ge_ixT (d := .int m) (ge_var (x := boltD m rs) 1) ge_int) (gac ge_int (gac1 ge_int))) ⟨_, _, _, rfl, tb_d, by rw [fromB_in (by omega) (by omega)]⟩))) fun _ =>
      gw_or1 (gt_not (gt_val (k0 := true) (ge_call (c_is_tuple T) (C.hr.mono (by decide)) (gac (ge_ixT (d := .tup (gapsD rs m)) (ge_var (x := boltD m rs) 1) ge_int) (gac ge_int (gac1 ge_int))) ⟨_, _, _, rfl, tb_d, by rw [tupB_in (by omega) (by omega)]⟩))))) ?_
    refine gs_unp C (ge_var (x := boltD m rs) 1) (tg_tup C (tgs_cons (tg_name C 2) (tgs_cons (tg_name C 3) tgs_nil))) ?_
    refine gs_unless (gt_of (k := false) (gt_not (gt_val (ge_all (bs := List.replicate (gapsD rs m).length true) ?_ T.z_all C.hc))) (by rw [all_rep]; rfl)) ?_
    · rw [← all_true]
      refine GL.rd (gl_lc0 (els := gapsD rs m) C [("gap", 4)] (js := [4]) (fun d Γ => Γ.set 4 (.d d)) (fun _ => .bl true) (gi_tup (ge_var 3)) ?_ ?_ (by omega))
      · intro d hd s H C' cl fp
        exact tg_name C.blk 4
      · intro Hb s0 d hd s H C' cl fp
        obtain ⟨h, t, v, rfl, _, hv, h1, h2, h3, h4, h5⟩ := gapsD_mem ok hd
        exact ge_call (c_is_gap T) C.hr (gac (ge_var 0) (gac (ge_var 2) (gac1 (ge_var 4)))) ⟨rs, m, h, t, v, rfl, hl, hv, h1, h2, h3, h4, h5, rfl⟩
    refine gs_ret (d := .bl (true && true)) (ge_and (ge_call (c_are_rising T) (C.hr.mono (by decide)) (ga1 (GL.rd (gl_lc0 (els := gapsD rs m) C [("gap", 4)] (js := [4]) (fun d Γ => Γ.set 4 (.d d)) fTwo (gi_tup (ge_var 3)) ?_ ?_ (by omega)))) ⟨prs 0 (m - 1), .inr ?_, ?_, prs_asc _ _, rfl⟩) fun _ => ge_one (ge_of (ge_le' (ge_sum (ns := List.replicate (gapsD rs m).length 1) ?_ T.z_sum C.hc) (ge_glob T.i_MOST_WAYS)) ?_)) hq
    · intro d hd s H C' cl fp
      exact tg_name C.blk 4
    · intro Hb s0 d hd s H C' cl fp
      obtain ⟨h, t, v, rfl, _, hv, _⟩ := gapsD_mem ok hd
      exact ge_slT (ge_var (x := gapD h t v) 4) gp_none (gp_some ge_int)
    · have e := tiedR_two (waysL rs (m - 1)) 0
      rw [waysL_len] at e
      show [AV.bw ((gapsD rs m).map fTwo)] = _
      unfold gapsD
      rw [e]
    · have : ∀ n k, (prs k n).length = 2 * n := by
        intro n
        induction n with
        | zero => intro k; rfl
        | succ n ih => intro k; show (prs (k + 1) n).length + 1 + 1 = _; rw [ih]; omega
      rw [this]; omega
    · rw [← ones_map]
      refine GL.rd (gl_lc0 (els := gapsD rs m) C [("gap", 4)] (js := [4]) (fun d Γ => Γ.set 4 (.d d)) (fun _ => .int 1) (gi_tup (ge_var 3)) ?_ ?_ (by omega))
      · intro d hd s H C' cl fp
        exact tg_name C.blk 4
      · intro Hb s0 d hd s H C' cl fp
        obtain ⟨h, t, v, rfl, _, hv, _⟩ := gapsD_mem ok hd
        exact ge_lenT (ds := [ti v]) (ge_ixT (d := .tup [ti v]) (ge_var (x := gapD h t v) 4) ge_int) T.z_len
    · rw [sum_ones, decide_eq_true (by omega)]
end
end WB
namespace WB
open PySem PySem.Spec PyProof.Rows L2
section
variable {X : Cx} {H0 : Hp} {Γ : List AV} {a b c e : Expr} {pos p1 np np2 pos2 : Pos} {i : Int} {k : Nat}
theorem ge_neg (ha : GE X H0 Γ a (.int i)) : GE X H0 Γ (.UnaryOp .USub a pos) (.int (-i)) := fun σ H Q F kq => by
  refine er_of (pe_un un_neg pe_self) ?_
  refine ha σ H _ F fun v H1 e1 r1 => ?_
  exact ⟨i, r1, kq _ H1 e1 rfl⟩
theorem glx_sortset (C : Cok X k) {ws : List (List Int)} {d : Nat} {B : Int} (ha : GL X H0 Γ e (ws.map ti)) (hd : ∀ v ∈ ws, v.length = d ∧ TS.Bd B v) (hlen : ws.length < 64) (hm1 : X.mg "sorted" = none) (hm2 : X.mg "set" = none) (hg : Gl X "sorted" := by rfl) (hg2 : Gl X "set" := by rfl)
    (he : starEach [e] X.env = (false, eval e X.env) :: starEach [] X.env := by rfl) (hpl : (backTo pos2 (starEach [] X.env)).any (·.1) = false := by rfl) (he2 : starEach [.Call (.Name "set" np2) [e] [] pos2] X.env = (false, eval (.Call (.Name "set" np2) [e] [] pos2) X.env) :: starEach [] X.env := by rfl) (hpl2 : (backTo pos (starEach [] X.env)).any (·.1) = false := by rfl) :
    GLx X H0 Γ (.Call (.Name "sorted" np) [.Call (.Name "set" np2) [e] [] pos2] [] pos) (fun xs => ∃ ys : List (List Int), xs = ys.map ti ∧ ys.Nodup ∧ (∀ y ∈ ys, y ∈ ws) ∧ ys.length < 64) := fun σ H Q F kq => by
  have inner : ∀ (R : VK), (∀ a L H1, H a = none → Same H H1 → H1 a = some (SetTO X.prog X.w a L) → (∀ p ∈ L, SqT X.K H1 p.1 (p.2.map V.int)) → (∀ p ∈ L, p.2 ∈ ws) → R (.ref a) H1) → ER X (.Call (.Name "set" np2) [e] [] pos2) σ H R := fun R hR => by
    refine er_of (pe_callTy (cr_setOfT C.hc C.h64) hg2 hm2 boot_set pa_self (by decide) (by decide) he hpl) ?_
    refine (ga1 (GL.rd ha) he) σ H _ F fun vs H1 e1 r1 => ?_
    obtain ⟨v, r, ev, ⟨l, xs, el, s, rp⟩, er⟩ := r1
    subst ev; subst el; cases er
    obtain ⟨ks, ek, hk, hw⟩ := rp_words rp
    subst ek
    refine ⟨l, ks, rfl, s, hk, by rw [← List.length_map (f := (·.2)), hw]; exact hlen, fun a L hn h1 h2 => ?_⟩
    have e2 : Same H1 (upd H1 a (SetTO X.prog X.w a L)) := fun b o q => by rw [upd_ne (ne_of_none q hn)]; exact q
    exact hR a L _ (e1.free hn) (e1.trans e2) upd_same (fun p hp => Same.tup e2 _ _ (hk p (h1 p hp))) fun p hp => by rw [← hw]; exact List.mem_map.mpr ⟨p, h1 p hp, rfl⟩
  cases d with
  | zero =>
    refine er_of (pe_callB (cr_sorted1 C.hc) hg hm1 boot_sorted (pa_cons pe_self pa_nil he2) (by decide) (by decide) he2 hpl2) ?_
    refine inner _ fun a L H1 hn e1 h1 h2 h3 => ?_
    refine ⟨a, L, rfl, h1, h2, fun p hp => List.eq_nil_of_length_eq_zero (hd _ (h3 p hp)).1, fun p hl hp => ?_⟩
    have e2 : Same H1 (upd H1 p (.lst (L.map fun q => V.ref q.1))) := fun b o q => by rw [upd_ne (ne_of_none q hp)]; exact q
    refine kq p _ _ _ ⟨L.map (·.2), rfl, ?_, fun y hy => ?_, by rw [List.length_map]; omega⟩ (e1.free hp) (e1.trans e2) upd_same (words_rp fun q hq => Same.tup e2 _ _ (h2 q hq))
    · match L, hl with
      | [], _ => exact List.Pairwise.nil
      | [_], _ => exact List.pairwise_cons.mpr ⟨fun _ h => (by cases h), List.Pairwise.nil⟩
    · obtain ⟨q, hq, eq⟩ := List.mem_map.mp hy
      rw [← eq]; exact h3 q hq
  | succ d =>
    refine er_of (pe_callB (cr_sortedT C.hc) hg hm1 boot_sorted (pa_cons pe_self pa_nil he2) (by decide) (by decide) he2 hpl2) ?_
    refine inner _ fun a L H1 hn e1 h1 h2 h3 => ?_
    refine ⟨a, L, d + 1, B, rfl, h1, h2, Nat.succ_le_succ (Nat.zero_le _), fun p hp => hd _ (h3 p hp), fun L' p pm nd hl64 _ hp => ?_⟩
    have e2 : Same H1 (upd H1 p (.lst (L'.map fun q => V.ref q.1))) := fun b o q => by rw [upd_ne (ne_of_none q hp)]; exact q
    refine kq p _ _ _ ⟨L'.map (·.2), rfl, nd, fun y hy => ?_, by rw [List.length_map]; exact hl64⟩ (e1.free hp) (e1.trans e2) upd_same (words_rp fun q hq => Same.tup e2 _ _ (h2 q (pm.mem_iff.mp hq)))
    obtain ⟨q, hq, eq⟩ := List.mem_map.mp hy
    rw [← eq]; exact h3 q (pm.mem_iff.mp hq)
end
/-! ### ways_of, first_wide -/
def fWays : D → List D
  | .tup [_, _, _, .tup ws] => ws
  | _ => []
def waysD (rs : List Nat) (m : Nat) : List D := (gapsD rs m).flatMap fWays
def waysW (rs : List Nat) (m : Nat) : List (List Int) := (waysL rs (m - 1)).flatMap fun v => [v, v]
theorem tiedR_ways : ∀ (ws : List (List Int)) (k : Nat), (tiedR k ws).flatMap fWays = (ws.flatMap fun v => [v, v]).map ti
  | [], _ => rfl
  | w :: ws, k => by
    show ti w :: ti w :: (tiedR (k + 1) ws).flatMap fWays = ti w :: ti w :: (ws.flatMap fun v => [v, v]).map ti
    rw [tiedR_ways ws (k + 1)]
theorem waysD_eq (rs : List Nat) (m : Nat) : waysD rs m = (waysW rs m).map ti := tiedR_ways _ _
theorem waysW_mem {rs : List Nat} {m : Nat} {v : List Int} (h : v ∈ waysW rs m) : v = E0 rs ∨ v = E1 rs := by
  unfold waysW at h
  obtain ⟨w, hw, hv⟩ := List.mem_flatMap.mp h
  obtain ⟨i, _, e⟩ := waysL_mem hw
  have ev : v = w := by simpa using hv
  rw [ev, e]; unfold Wy
  split
  · exact .inr rfl
  · exact .inl rfl
theorem waysW_len (rs : List Nat) (m : Nat) : (waysW rs m).length = 2 * (m - 1) := by
  unfold waysW
  have : ∀ l : List (List Int), (l.flatMap fun v => [v, v]).length = 2 * l.length := by
    intro l
    induction l with
    | nil => rfl
    | cons x l ih => rw [List.flatMap_cons, List.length_append, ih, List.length_cons]; simp; omega
  rw [this, waysL_len]
theorem flat_id {l : List D} : l.flatMap (fun d => [d]) = l := by simp
section
variable {P : Program} {w : World} {K : PySem.W.Frag} {mg : Str → Option Value} {base : Heap}
theorem sc_ways_of : FnScope ["bolt", "gap", "way"] ["bolt"] (defScope s_ways_of) := ⟨rfl, rfl, rfl, by decide +kernel, rfl, by decide +kernel, by decide +kernel⟩
def dWays (as : List AV) (r : AV) : Prop := ∃ (rs : List Nat) (m : Nat), as = [.d (boltD m rs)] ∧ Ok24 (m :: rs) ∧ r = .own (waysD rs m)
theorem c_ways_of (T : Tx K mg) : Cal P w K mg base "ways_of" ["bolt"] 1 (spP K dWays) := by
  refine cal_pure (N := ["bolt", "gap", "way"]) (st := s_ways_of) (k := 0) T.g_ways_of T.f_ways_of sc_ways_of (fun _ _ _ _ _ _ us hl => match us, hl with | [_], _ => rfl) ?_ ?_
  · rintro as r ⟨rs, m, rfl, _⟩; rfl
  · rintro cdv A outer s H E C as r Q ⟨rs, m, rfl, ok, rfl⟩ hq
    have hm := ok.hd
    refine gs_retL (xs := waysD rs m) (gl_lcI (js := [1]) (ws := [2]) C [("gap", 1), ("way", 2)] (fun d Γ => Γ.set 1 (.d d)) fWays (gi_tup (ge_ixT (d := .tup (gapsD rs m)) (ge_var (x := boltD m rs) 0) ge_int)) ?_ ?_ ?_ ?_) hq
    · intro d hd s H C' cl fp
      exact tg_name C.blk 1
    · intro d hd
      exact no_set no_id
    · intro Hb s0 d hd s H C' cl fp
      obtain ⟨h, t, v, rfl, _⟩ := gapsD_mem ok hd
      refine gb_of (gb_last (els := [ti v]) (js := [2]) (outs := fun d => d) (by exact C.hc) rfl [2] (fun d Γ => Γ.set 2 (.d d)) (gi_tup (ge_ixT (d := .tup [ti v]) (ge_var (x := gapD h t v) 1) ge_int)) ?_ ?_ ?_) rfl
      · intro d hd
        exact tg_name C.blk 2
      · intro d hd
        exact no_set no_id
      · intro Hb' s1 d hd
        exact ge_var 2
    · show (waysD rs m).length < 100000
      rw [waysD_eq, List.length_map, waysW_len]; omega
end
end WB
namespace WB
open PySem PySem.Spec PyProof.Rows L2
/-! ### parts of locks and words -/
theorem lock_pre : ∀ (pre rs : List Nat), ∃ t, lockD (pre ++ rs) = lockD rs ++ t
  | [], rs => ⟨[], by rw [List.append_nil]; rfl⟩
  | p :: pre, rs => by
    obtain ⟨t, e⟩ := lock_pre pre rs
    refine ⟨t ++ [boltD p (pre ++ rs)], ?_⟩
    show lockD (pre ++ rs) ++ _ = _
    rw [e, List.append_assoc]; rfl
theorem lock_get (pre rs : List Nat) (m : Nat) : (lockD (pre ++ m :: rs))[rs.length]? = some (boltD m rs) := by
  obtain ⟨t, e⟩ := lock_pre pre (m :: rs)
  rw [e, show lockD (m :: rs) = lockD rs ++ [boltD m rs] from rfl, List.append_assoc, List.getElem?_append_right (by rw [lockD_len]; exact Nat.le_refl _), lockD_len, Nat.sub_self]
  rfl
theorem lock_take (pre rs : List Nat) : (lockD (pre ++ rs)).take rs.length = lockD rs := by
  obtain ⟨t, e⟩ := lock_pre pre rs
  rw [e, List.take_append_of_le_length (by rw [lockD_len]; exact Nat.le_refl _)]
  exact List.take_of_length_le (by rw [lockD_len]; exact Nat.le_refl _)
theorem cut_take (xs : List D) (k : Nat) : cutD xs none (some (k : Int)) = xs.take k := by
  unfold cutD
  rw [HT.sIx_nat, HT.sIx_none, List.drop_zero, Nat.sub_zero]
  by_cases h : k ≤ xs.length
  · rw [Nat.min_eq_left h]
  · rw [Nat.min_eq_right (by omega), List.take_of_length_le (Nat.le_refl _), List.take_of_length_le (by omega)]
theorem cut_drop (xs : List D) (k : Nat) : cutD xs (some (k : Int)) none = xs.drop k := by
  unfold cutD
  rw [HT.sIx_nat, HT.sIx_none]
  by_cases h : k ≤ xs.length
  · rw [Nat.min_eq_left h]; exact List.take_of_length_le (by rw [List.length_drop]; exact Nat.le_refl _)
  · rw [Nat.min_eq_right (by omega), List.drop_of_length_le (Nat.le_refl _), List.drop_of_length_le (by omega)]; exact List.take_nil
theorem cut_init (xs : List D) (x : D) : cutD (xs ++ [x]) none (some (-1)) = xs := by
  have e : HT.sIx (xs ++ [x]).length (xs ++ [x]).length (some (-1)) = xs.length := by
    unfold HT.sIx
    simp only
    rw [if_pos (by decide), List.length_append, List.length_singleton]
    omega
  unfold cutD
  rw [e, HT.sIx_none, List.drop_zero, Nat.sub_zero, List.take_append_of_le_length (Nat.le_refl _), List.take_of_length_le (Nat.le_refl _)]
theorem E0_snoc (m : Nat) (rs : List Nat) : E0 (m :: rs) = E0 rs ++ [0] := rfl
theorem E1_snoc (m : Nat) (rs : List Nat) : E1 (m :: rs) = (if m % 2 = 0 then E0 rs else E1 rs) ++ [(m : Int) - 1] := rfl
def Ends2 (rs : List Nat) (v : List Int) : Prop := v = E0 rs ∨ v = E1 rs
theorem Ends2.wd {rs : List Nat} (ok : Ok24 rs) {v : List Int} (h : Ends2 rs v) : Wd rs v := by
  rcases h with h | h
  · rw [h]; exact wd_E0 ok
  · rw [h]; exact wd_E1 ok
theorem Ends2.down {m : Nat} {rs : List Nat} {v : List Int} (h : Ends2 (m :: rs) v) : ∃ u p, v = u ++ [p] ∧ Ends2 rs u := by
  rcases h with h | h
  · exact ⟨E0 rs, 0, h, .inl rfl⟩
  · refine ⟨_, _, h.trans (E1_snoc m rs), ?_⟩
    split
    · exact .inl rfl
    · exact .inr rfl
theorem wd_bd : ∀ {rs : List Nat} {v : List Int}, Ok24 rs → Wd rs v → TS.Bd 4 v
  | [], _, _, h, x, hx => by
    have e : _ = [] := h
    rw [e] at hx; cases hx
  | m :: rs, _, ok, ⟨u, p, e, hu, h0, h1⟩, x, hx => by
    have := ok.hd
    rw [e] at hx
    rcases List.mem_append.mp hx with z | z
    · exact wd_bd ok.tl hu x z
    · rw [List.mem_singleton.mp z]; omega
theorem two_len {α : Type} {a b : α} : ∀ {l : List α}, l.Nodup → (∀ x ∈ l, x = a ∨ x = b) → l.length ≤ 2
  | [], _, _ => by simp
  | [_], _, _ => by simp
  | [_, _], _, _ => by simp
  | x :: y :: z :: l, nd, h => by
    obtain ⟨n1, nd⟩ := List.pairwise_cons.mp nd
    obtain ⟨n2, nd⟩ := List.pairwise_cons.mp nd
    have n12 := n1 y (by simp)
    have n13 := n1 z (by simp)
    have n23 := n2 z (by simp)
    rcases h x (by simp) with e1 | e1 <;> rcases h y (by simp) with e2 | e2 <;> rcases h z (by simp) with e3 | e3 <;> subst e1 <;> subst e2 <;> first | exact absurd rfl n12 | (subst e3; first | exact absurd rfl n13 | exact absurd rfl n23)
theorem rngD_get {lo : Int} {n i : Nat} {d : D} (h : (rngD lo n)[i]? = some d) : i < n ∧ d = .int (lo - (i : Nat)) := by
  have hi : i < n := by rw [← rngD_len lo n]; exact (List.getElem?_eq_some_iff.mp h).1
  refine ⟨hi, ?_⟩
  unfold rngD at h
  rw [List.getElem?_map, List.getElem?_range hi] at h
  exact (Option.some.inj h).symm
section
variable {P : Program} {w : World} {K : PySem.W.Frag} {mg : Str → Option Value} {base : Heap}
theorem sc_first_wide : FnScope ["lock", "found", "words", "k", "word"] ["lock"] (defScope s_first_wide) := ⟨rfl, rfl, rfl, by decide +kernel, rfl, by decide +kernel, by decide +kernel⟩
def dLock (r : D) (as : List AV) (q : AV) : Prop := ∃ rs : List Nat, as = [.d (.tup (lockD rs))] ∧ rs.length ≤ 60 ∧ Ok24 rs ∧ q = .d r
def fCut (k : Nat) : D → D
  | .tup ds => .tup (ds.take k)
  | d => d
/-- the words at the turn i -/
structure WideI (R : List Nat) (i : Nat) (ws : List (List Int)) : Prop where
  fst : i = 0 → ws = []
  all : ∀ v ∈ ws, Ends2 (R.drop i) v
  len : ws.length ≤ 2
theorem c_first_wide (T : Tx K mg) : Cal P w K mg base "first_wide" ["lock"] 2 (spP K (dLock .non)) := by
  refine cal_pure (N := ["lock", "found", "words", "k", "word"]) (st := s_first_wide) (k := 1) T.g_first_wide T.f_first_wide sc_first_wide (fun _ _ _ _ _ _ us hl => match us, hl with | [_], _ => rfl) ?_ ?_
  · rintro as r ⟨rs, rfl, _⟩; rfl
  · rintro cdv A outer s H E C as r Q ⟨R, rfl, hl, ok, rfl⟩ hq
    have ln : (lockD R).length = R.length := lockD_len R
    refine gs_parL C 1 2 ge_non (gl_lst (ds := []) ga_nil) ?_
    refine gs_forX (els := rngD ((R.length : Int) - 1) ((R.length : Int) - 1 - -1).toNat) C (js := [3]) (fun d Γ => Γ.set 3 (.d d)) NoZ (fun _ i _ Γ' => ∃ ws : List (List Int), WideI R i ws ∧ Γ' = [.d (.tup (lockD R)), .d .non, .own (ws.map ti), .no, .no])
      (gi_range3 (ge_sub (ge_of (ge_lenT (ge_var 0) T.z_len) (by rw [ln])) ge_int) (ge_neg ge_int) (ge_neg ge_int) T.z_range (by decide) (by decide) (by omega) (by omega)) ?_ zok_no ?_ ?_ ?_
    · intro i d hd
      exact tg_name C 3
    · intro Hc G c1 c2 c3 _
      exact ⟨[], ⟨fun _ => rfl, fun v hv => (by cases hv), by simp⟩, rfl⟩
    · intro Hc core _ i d hd G Γ' cg hJ
      obtain ⟨ws, W, rfl⟩ := hJ
      obtain ⟨hi, rfl⟩ := rngD_get hd
      have hiR : i < R.length := by omega
      obtain ⟨m, rs, hdrop⟩ : ∃ m rs, R.drop i = m :: rs := by
        cases h : R.drop i with
        | nil => have := congrArg List.length h; rw [List.length_drop] at this; simp at this; omega
        | cons m rs => exact ⟨m, rs, rfl⟩
      have hR : R = R.take i ++ m :: rs := by rw [← hdrop, List.take_append_drop]
      have hrs : rs.length = R.length - (i + 1) := by
        have := congrArg List.length hdrop
        rw [List.length_drop, List.length_cons] at this; omega
      have hk : (R.length : Int) - 1 - (i : Nat) = ((rs.length : Nat) : Int) := by rw [hrs]; omega
      have okm : Ok24 (m :: rs) := fun x hx => ok x (by rw [hR]; exact List.mem_append_right _ hx)
      have hdrop1 : R.drop (i + 1) = rs := by
        have e1 : R.drop (i + 1) = (R.drop i).drop 1 := by rw [List.drop_drop]
        rw [e1, hdrop]; rfl
      have hcut : ∀ v ∈ ws, ∃ u, fCut rs.length (ti v) = ti u ∧ Ends2 rs u := by
        intro v hv
        obtain ⟨u, p, e, hu⟩ := (hdrop ▸ W.all v hv : Ends2 (m :: rs) v).down
        refine ⟨u, ?_, hu⟩
        rw [e]
        show D.tup (((u ++ [p]).map D.int).take rs.length) = _
        rw [← (hu.wd okm.tl).len, List.map_append, ← List.length_map (f := D.int), List.take_append_of_le_length (Nat.le_refl _), List.take_of_length_le (Nat.le_refl _)]; rfl
      have hcuts : ∃ us : List (List Int), (ws.map ti).map (fCut rs.length) = us.map ti ∧ (∀ u ∈ us, Ends2 rs u) ∧ us.length = ws.length := by
        have : ∀ l : List (List Int), (∀ v ∈ l, ∃ u, fCut rs.length (ti v) = ti u ∧ Ends2 rs u) → ∃ us : List (List Int), (l.map ti).map (fCut rs.length) = us.map ti ∧ (∀ u ∈ us, Ends2 rs u) ∧ us.length = l.length := by
          intro l
          induction l with
          | nil => intro _; exact ⟨[], rfl, fun _ h => (by cases h), rfl⟩
          | cons v l ih =>
            intro h
            obtain ⟨u, e, hu⟩ := h v List.mem_cons_self
            obtain ⟨us, e2, h2, h3⟩ := ih fun x hx => h x (List.mem_cons_of_mem _ hx)
            refine ⟨u :: us, by rw [List.map_cons, List.map_cons, List.map_cons, e, e2], fun x hx => ?_, by rw [List.length_cons, List.length_cons, h3]⟩
            rcases List.mem_cons.mp hx with z | z
            · rw [z]; exact hu
            · exact h2 x z
        exact this ws hcut
      obtain ⟨us, eus, hus, lus⟩ := hcuts
      have hm := okm.hd
      have hall : ∀ v ∈ us ++ waysW rs m, v.length = rs.length ∧ TS.Bd 4 v := by
        intro v hv
        have e : Ends2 rs v := by
          rcases List.mem_append.mp hv with z | z
          · exact hus v z
          · exact waysW_mem z
        exact ⟨(e.wd okm.tl).len, wd_bd okm.tl (e.wd okm.tl)⟩
      have hlen : (us ++ waysW rs m).length < 64 := by rw [List.length_append, waysW_len, lus]; have := W.len; omega
      refine gs_freeze (xs := ws.map ti) 2 fun G1 sG1 => ?_
      refine gs_setLx C 2 (glx_sortset C (ws := us ++ waysW rs m) ?_ hall hlen T.z_sorted T.z_set) ?_
      · rw [List.map_append, ← waysD_eq, ← eus]
        refine gl_cat (gl_lc0 (els := ws.map ti) C [("word", 4)] (js := [4]) (fun d Γ => Γ.set 4 (.d d)) (fCut rs.length) (gi_var 2) ?_ ?_ ?_) (gl_call (c_ways_of T) C.hr (gac1 (ge_ixT (d := boltD m rs) (ge_var 0) (ge_of (k := .int ((rs.length : Nat) : Int)) (ge_var 3) (by rw [hk])) (by rw [hR]; exact atI_nat (lock_get _ _ _)))) ⟨rs, m, rfl, okm, rfl⟩) ?_
        · intro d hd s H C' cl fp
          exact tg_name C.blk 4
        · intro Hb s0 d hd s H C' cl fp
          obtain ⟨v, hv, rfl⟩ := List.mem_map.mp hd
          have e := cut_take (v.map D.int) rs.length
          show GE _ _ _ _ (.tup ((v.map D.int).take rs.length))
          rw [← e]
          exact ge_slT (ge_var (x := ti v) 4) gp_none (gp_some (ge_of (ge_var 3) (by rw [hk])))
        · rw [List.length_map]; have := W.len; omega
        · rw [List.length_map, List.length_map, waysD_eq, List.length_map, waysW_len]; have := W.len; omega
      · rintro xs ⟨ys, rfl, nd, hy, h64⟩
        have hye : ∀ y ∈ ys, y = E0 rs ∨ y = E1 rs := fun y h => by
          rcases List.mem_append.mp (hy y h) with z | z
          · exact hus y z
          · exact waysW_mem z
        have h2 := two_len nd hye
        refine gs_unless (gt_of (gt_gt' (ge_lenL (go_var 2) T.z_len) (ge_glob T.i_MOST_WORDS)) (decide_eq_false (by rw [List.length_map]; omega))) ?_
        refine gs_nil fun σ H F => ⟨G1, _, cg.trans sG1, ⟨ys, ⟨fun h => absurd h (Nat.succ_ne_zero i), fun v hv => ?_, h2⟩, rfl⟩, F.weak ⟨.inr rfl, .inr rfl, .inr rfl, .inl rfl, .inl rfl, trivial⟩⟩
        rw [hdrop1]; exact hye v hv
    · intro Hc core _ G Γ' cg hJ
      obtain ⟨ws, W, rfl⟩ := hJ
      exact gs_ret (ge_var 1) (hq.up (core.same.trans cg))
end
end WB
namespace WB
open PySem PySem.Spec PyProof.Rows L2
/-! ### calls that leave defaults out -/
structure CalD (P : Program) (w : World) (K : PySem.W.Frag) (mg : Str → Option Value) (base : Heap) (x : Str) (ps : List Str) (k : Nat) (dvs : List V) (sp : Sp) : Prop where
  ex : ∃ f fd ds, FnOk P w K mg base CX0 k f fd ps sp ∧ mg x = some (.ref f) ∧ PySem.W.keepIn K (.ref f) = true ∧ Vals dvs ds ∧ Binds K fd ps ds
theorem argsOk_app {K : PySem.W.Frag} {H : Hp} {bs : List AV} {ws : List V} (h2 : ArgsOk K H bs ws) : ∀ {as : List AV} {vs : List V}, ArgsOk K H as vs → ArgsOk K H (as ++ bs) (vs ++ ws)
  | [], _, h => by cases h; exact h2
  | _ :: _, _, ⟨v, r, e, h1, h3⟩ => ⟨v, r ++ ws, by rw [e]; rfl, h1, argsOk_app h2 h3⟩
section
variable {X : Cx} {H0 : Hp} {Γ : List AV} {e : Expr} {es : List Expr} {pos np p2 : Pos} {d : D} {n : Str} {ps : List Str} {k : Nat} {as ds : List AV} {dvs : List V} {dom : List AV → AV → Prop} {sts : List Stmt} {E : Ends}
theorem ge_callD (C : CalD X.prog X.w X.K X.mg X.base n ps k dvs (spP X.K dom)) (hdv : ∀ H, ArgsOk X.K H ds dvs) (hr : Room k X.A) (ha : GA X H0 Γ (e :: es) as) (hd : dom (as ++ ds) (.d d)) (hg : Gl X n := by rfl) (hdb : (n == ("__debug__" : Str)) = false := by decide)
    (he : starEach (e :: es) X.env = (false, eval e X.env) :: starEach es X.env := by rfl) (hpl : (backTo pos (starEach es X.env)).any (·.1) = false := by rfl) : GE X H0 Γ (.Call (.Name n np) (e :: es) [] pos) d := fun σ H Q F kq => by
  obtain ⟨f, fd, dsv, G, hm, hk, hv, hb⟩ := C.ex
  refine er_of (pe_call G hr hg hm hk hb hv pass0 pa_self hdb he hpl) ?_
  refine ha σ H _ F fun vs H1 e1 r1 => ?_
  exact ⟨as ++ ds, .d d, argsOk_app (hdv H1) r1, hd, fun v H2 e2 r2 => kq v H2 (e1.trans e2) r2⟩
/-- an expression as a statement -/
theorem gs_expr (he : GE X H0 Γ e d) (h : GS X H0 Γ sts E) (hs : swapsWith e none pos.line X.env = pure false := by rfl) : GS X H0 Γ (.Expr e pos :: sts) E := fun σ H F => by
  refine sr_cons (s1_of (ps_expr pe_self hs) ?_)
  exact he σ H _ F fun v H1 e1 _ => h σ H1 (F.same e1)
/-- the def's end -/
theorem gs_fall {Q : VK} (hq : RetOk X.K H0 (.d .non) Q) (hE : ∀ σ H, Q .non H → E.nx σ H := by exact fun _ _ h => h) : GS X H0 Γ [] E := gs_nil fun σ H F => hE σ H (hq .non H F.ex rfl)
end
theorem split_at (R : List Nat) (k : Nat) (h : k < R.length) : ∃ pre m rs, R = pre ++ m :: rs ∧ rs.length = k := by
  have h1 : (R.drop (R.length - 1 - k)).length = k + 1 := by rw [List.length_drop]; omega
  cases e : R.drop (R.length - 1 - k) with
  | nil => rw [e] at h1; simp at h1
  | cons m rs =>
    rw [e] at h1
    exact ⟨R.take (R.length - 1 - k), m, rs, by rw [← e, List.take_append_drop], by simpa using h1⟩
theorem Ok24.part {pre rs : List Nat} (ok : Ok24 (pre ++ rs)) : Ok24 rs := fun x hx => ok x (List.mem_append_right _ hx)
section
variable {P : Program} {w : World} {K : PySem.W.Frag} {mg : Str → Option Value} {base : Heap}
theorem sc_fault_of : FnScope ["thing", "k", "bolt", "wide"] ["thing"] (defScope s_fault_of) := ⟨rfl, rfl, rfl, by decide +kernel, rfl, by decide +kernel, by decide +kernel⟩
def dLock1 (r : D) (as : List AV) (q : AV) : Prop := ∃ rs : List Nat, as = [.d (.tup (lockD rs))] ∧ 1 ≤ rs.length ∧ rs.length ≤ 60 ∧ Ok24 rs ∧ q = .d r
theorem c_fault_of (T : Tx K mg) : Cal P w K mg base "fault_of" ["thing"] 6 (spP K (dLock1 .non)) := by
  refine cal_pure (N := ["thing", "k", "bolt", "wide"]) (st := s_fault_of) (k := 5) T.g_fault_of T.f_fault_of sc_fault_of (fun _ _ _ _ _ _ us hl => match us, hl with | [_], _ => rfl) ?_ ?_
  · rintro as r ⟨rs, rfl, _⟩; rfl
  · rintro cdv A outer s H E C as r Q ⟨R, rfl, h1, h2, ok, rfl⟩ hq
    have ln : (lockD R).length = R.length := lockD_len R
    refine gs_unless (gt_not (gt_val (k0 := true) (ge_call (c_is_tuple T) (C.hr.mono (by decide)) (gac (ge_var 0) (gac ge_int (gac1 (ge_glob T.i_MOST_BOLTS_locks)))) ⟨_, _, _, rfl, tb_d, by rw [tupB_in (by omega) (by omega)]⟩))) ?_
    refine gs_for (els := enuD (lockD R)) C (js := [1, 2]) (fun d Γ => match d with | .tup [a, b] => (Γ.set 1 (.d a)).set 2 (.d b) | _ => Γ) (fun _ => [.d (.tup (lockD R)), .no, .no, .no]) (gi_enumT (ge_var 0) T.z_enumerate) ?_ rfl ?_ ?_
    · intro i d hd
      have hi : i < (lockD R).length := by rw [← enuD_len]; exact (List.getElem?_eq_some_iff.mp hd).1
      rw [enuD_get (List.getElem?_eq_getElem hi)] at hd
      cases hd
      exact tg_tup C (tgs_cons (tg_name C 1) (tgs_cons (tg_name C 2) tgs_nil))
    · intro Hb s0 i d hd
      have hi : i < (lockD R).length := by rw [← enuD_len]; exact (List.getElem?_eq_some_iff.mp hd).1
      obtain ⟨pre, m, rs, eR, hrs⟩ := split_at R i (by omega)
      have eb : (lockD R)[i]? = some (boltD m rs) := by rw [eR, ← hrs]; exact lock_get _ _ _
      rw [enuD_get eb] at hd
      cases hd
      have okm : Ok24 (m :: rs) := (eR ▸ ok : Ok24 (pre ++ m :: rs)).part
      have ecut : D.tup (cutD (lockD R) none (some (i : Int))) = .tup (lockD rs) := by
        rw [cut_take, ← hrs, eR]
        have := lock_take (pre ++ [m]) rs
        rw [List.append_assoc] at this
        exact congrArg D.tup this
      refine gs_unless (gt_not (gt_val (k0 := true) (ge_call (c_is_bolt T) (C.hr.mono (by decide)) (gac (ge_of (ge_slT (ge_var 0) gp_none (gp_some (ge_var (x := .int (i : Nat)) 1))) ecut) (gac1 (ge_var 2))) ⟨rs, m, rfl, by omega, okm, rfl⟩))) ?_
      exact gs_nil fun σ H F => F.weak ⟨.inr rfl, .inl rfl, .inl rfl, .inr rfl, trivial⟩
    · intro Hb s0
      refine gs_set C 3 (ge_call (c_first_wide T) (C.hr.mono (by decide)) (gac1 (ge_var 0)) ⟨R, rfl, h2, ok, rfl⟩) ?_
      exact gs_ret (GV.exp (gv_if (k0 := true) (gt_isN (ge_var (x := .non) 3)) (fun _ => GE.val (d := .non) ge_non) fun q => by cases q)) (hq.up s0)
theorem sc_must_be_lock : FnScope ["thing", "fault"] ["thing"] (defScope s_must_be_lock) := ⟨rfl, rfl, rfl, by decide +kernel, rfl, by decide +kernel, by decide +kernel⟩
theorem c_must_be_lock (T : Tx K mg) : Cal P w K mg base "must_be_lock" ["thing"] 7 (spP K (dLock1 .non)) := by
  refine cal_pure (N := ["thing", "fault"]) (st := s_must_be_lock) (k := 6) T.g_must_be_lock T.f_must_be_lock sc_must_be_lock (fun _ _ _ _ _ _ us hl => match us, hl with | [_], _ => rfl) ?_ ?_
  · rintro as r ⟨rs, rfl, _⟩; rfl
  · rintro cdv A outer s H E C as r Q ⟨R, rfl, h1, h2, ok, rfl⟩ hq
    refine gs_set C 1 (ge_call (c_fault_of T) C.hr (gac1 (ge_var 0)) ⟨R, rfl, h1, h2, ok, rfl⟩) ?_
    refine gs_unless (gt_of (gt_notN (ge_var (x := .non) 1)) rfl) ?_
    exact gs_fall hq
theorem sc_must_stand : FnScope ["lock", "thing"] ["lock", "thing"] (defScope s_must_stand) := ⟨rfl, rfl, rfl, by decide +kernel, rfl, by decide +kernel, by decide +kernel⟩
def dStand (as : List AV) (q : AV) : Prop := ∃ (rs : List Nat) (v : List Int), as = [.d (.tup (lockD rs)), .d (ti v)] ∧ rs.length ≤ 60 ∧ Wd rs v ∧ q = .d .non
theorem c_must_stand (T : Tx K mg) : Cal P w K mg base "must_stand" ["lock", "thing"] 4 (spP K dStand) := by
  refine cal_pure (N := ["lock", "thing"]) (st := s_must_stand) (k := 3) T.g_must_stand T.f_must_stand sc_must_stand (fun _ _ _ _ _ _ us hl => match us, hl with | [_, _], _ => rfl) ?_ ?_
  · rintro as r ⟨rs, v, rfl, _⟩; rfl
  · rintro cdv A outer s H E C as r Q ⟨rs, v, rfl, hl, hv, rfl⟩ hq
    refine gs_unless (gt_not (gt_val (k0 := true) (ge_call (c_is_word T) C.hr (gac (ge_var 0) (gac (ge_var 1) (gac1 (ge_of (ge_lenT (ge_var 0) T.z_len) (by rw [lockD_len]))))) ⟨rs, v, rfl, by omega, hv, rfl⟩))) ?_
    exact gs_fall hq
theorem sc_must_wish_all : FnScope ["lock", "row", "low", "high", "wish"] ["lock", "row", "low", "high"] (defScope s_must_wish_all) := ⟨rfl, rfl, rfl, by decide +kernel, rfl, by decide +kernel, by decide +kernel⟩
def dWish (as : List AV) (q : AV) : Prop := ∃ (rs : List Nat) (u v : List Int), as = [.d (.tup (lockD rs)), .d (.tup [ti u, ti v]), .d (.int 2), .d (.int 4)] ∧ rs.length ≤ 60 ∧ Wd rs u ∧ Wd rs v ∧ q = .d .non
theorem c_must_wish_all (T : Tx K mg) : CalD P w K mg base "must_wish_all" ["lock", "row", "low", "high"] 4 [.int 2, .int 4] (spP K dWish) := by
  obtain ⟨fd, F⟩ := T.f_must_wish_all
  obtain ⟨ds, hv, hb⟩ := F.binds0 (ps := ["lock", "row", "low", "high"]) 2 (fun q => by cases q) rfl (fun D doc pm an cdv ct us ks h1 h2 => match us, ks, h1, h2 with
    | [_, _], [_, _], _, _ => ⟨_, _, _, _, _, _, rfl, rfl, ⟨_, _, _, _, _, _, rfl, rfl, rfl⟩⟩)
  refine ⟨_, fd, ds, fnx (N := ["lock", "row", "low", "high", "wish"]) (k := 3) F sc_must_wish_all (fun vs H Q E ⟨as, r, h1, ⟨rs, u, v, h2, _⟩, _⟩ => by rw [h1.length, h2]; rfl) (fun cdv A outer s H vs Q E C ⟨as, r, h1, ⟨rs, u, v, h2, hl, hu, hw, hr⟩, h3⟩ => ?_), T.g_must_wish_all, F.kp, hv, hb⟩
  subst h2; subst hr
  have hq : RetOk K H (.d .non) Q := h3
  refine (?_ : GS _ H ([.d (.tup (lockD rs)), .d (.tup [ti u, ti v]), .d (.int 2), .d (.int 4)] ++ [.no]) _ _) _ _ (fm_start h1 (Nat.le_of_ble_eq_true rfl))
  refine gs_unless (GW.t (k0 := !true || !true) (gw_or (gt_not (gt_val (k0 := true) (ge_call (c_is_tuple T) (C.hr.mono (by decide)) (gac (ge_var 1) (gac (ge_var 2) (gac1 (ge_var 3)))) ⟨_, _, _, rfl, tb_d, rfl⟩))) fun _ => gw_or1 (gt_not (gt_of (k := true) (gt_val (ge_all (bs := [true, true]) ?_ T.z_all C.hc)) rfl)))) ?_
  · refine GL.rd (gl_lc0 (els := [ti u, ti v]) C [("wish", 4)] (js := [4]) (fun d Γ => Γ.set 4 (.d d)) (fun _ => .bl true) (gi_tup (ge_var 1)) ?_ ?_ (Nat.le_of_ble_eq_true rfl))
    · intro d hd s H C' cl fp
      exact tg_name C.blk 4
    · intro Hb s0 d hd s H C' cl fp
      have hx : ∃ x, d = ti x ∧ Wd rs x := by
        rcases List.mem_cons.mp hd with z | z
        · exact ⟨u, z, hu⟩
        · exact ⟨v, List.mem_singleton.mp z, hw⟩
      obtain ⟨x, rfl, hx⟩ := hx
      exact ge_call (c_is_open_word T) C.hr (gac (ge_var 0) (gac (ge_var 4) (gac1 (ge_of (ge_lenT (ge_var 0) T.z_len) (by rw [lockD_len]))))) ⟨rs, x, rfl, by omega, hx, rfl⟩
  · exact gs_fall hq
end
end WB
namespace WB
open PySem PySem.Spec PyProof.Rows L2
/-! ### the steps at a word -/
def fSt (k : Nat) (u : List Int) (p : Int) : D → List D
  | .tup [.int h, .int t, pr, .tup ws] => if (decide (h = p) && ws.any fun z => D.eqv z (ti u)) = true then [.tup [.int k, .int t, pr]] else []
  | _ => []
def stepsD : List Nat → List Int → List D
  | [], _ => []
  | m :: rs, v => stepsD rs v.dropLast ++ (gapsD rs m).flatMap (fSt rs.length v.dropLast (v.getLastD 0))
theorem fSt_gap (k : Nat) (u : List Int) (p h t : Int) (w : List Int) : fSt k u p (gapD h t w) = if h = p ∧ w = u then [ti [(k : Int), t, 1]] else [] := by
  have e : fSt k u p (gapD h t w) = if (decide (h = p) && (D.eqv (ti w) (ti u) || false)) = true then [ti [(k : Int), t, 1]] else [] := rfl
  rw [e, ti_eqv, Bool.or_false]
  by_cases h1 : h = p <;> by_cases h2 : w = u <;> simp [h1, h2]
theorem fSt_len (k : Nat) (u : List Int) (p : Int) (d : D) : (fSt k u p d).length ≤ 1 := by
  unfold fSt
  split
  · split <;> simp
  · simp
theorem flat_le {f : D → List D} (h : ∀ d, (f d).length ≤ 1) : ∀ l : List D, (l.flatMap f).length ≤ l.length
  | [] => by simp
  | x :: l => by
    rw [List.flatMap_cons, List.length_append, List.length_cons]
    have := h x
    have := flat_le h l
    omega
theorem stepsD_len : ∀ (rs : List Nat) (v : List Int), Ok24 rs → (stepsD rs v).length ≤ 6 * rs.length
  | [], _, _ => by simp [stepsD]
  | m :: rs, v, ok => by
    have h1 := stepsD_len rs v.dropLast ok.tl
    have h2 := flat_le (fSt_len rs.length v.dropLast (v.getLastD 0)) (gapsD rs m)
    rw [gapsD_len] at h2
    have := ok.hd
    show (stepsD rs v.dropLast ++ _).length ≤ 6 * (rs.length + 1)
    rw [List.length_append]; omega
/-- the word's part below, its place -/
theorem wd_part : ∀ {pre rs : List Nat} {m : Nat} {v : List Int}, Wd (pre ++ m :: rs) v → ∃ u p t, v = u ++ p :: t ∧ Wd rs u ∧ 0 ≤ p ∧ p ≤ (m : Int) - 1
  | [], rs, m, _, ⟨u, p, e, h, h0, h1⟩ => ⟨u, p, [], e, h, h0, h1⟩
  | _ :: pre, rs, m, _, ⟨v, q, e, h, _⟩ => by
    obtain ⟨u, p, t, e2, h2, h3, h4⟩ := wd_part (pre := pre) (rs := rs) (m := m) h
    exact ⟨u, p, t ++ [q], by rw [e, e2, List.append_assoc]; rfl, h2, h3, h4⟩
/-- the lower k bolts -/
def low (R : List Nat) (k : Nat) : List Nat := R.drop (R.length - k)
theorem low_app (pre rs : List Nat) : low (pre ++ rs) rs.length = rs := by
  unfold low
  rw [List.length_append, Nat.add_sub_cancel, List.drop_left]
theorem low_succ {R : List Nat} {k : Nat} (h : k < R.length) : ∃ m, low R (k + 1) = m :: low R k ∧ R = R.take (R.length - 1 - k) ++ m :: low R k ∧ (low R k).length = k := by
  obtain ⟨pre, m, rs, e, hl⟩ := split_at R k h
  have e1 : low R k = rs := by rw [e, ← hl]; have := low_app (pre ++ [m]) rs; rwa [List.append_assoc] at this
  have e2 : low R (k + 1) = m :: rs := by rw [e, ← hl]; exact low_app pre (m :: rs)
  have l1 : R.length - 1 - k = pre.length := by rw [e, List.length_append, List.length_cons, hl]; omega
  refine ⟨m, by rw [e1, e2], ?_, by rw [e1, hl]⟩
  rw [e1, l1, e, List.take_left]
theorem low_zero (R : List Nat) : low R 0 = [] := by unfold low; rw [Nat.sub_zero, List.drop_length]
theorem low_all (R : List Nat) : low R R.length = R := by unfold low; rw [Nat.sub_self]; rfl
section
variable {P : Program} {w : World} {K : PySem.W.Frag} {mg : Str → Option Value} {base : Heap}
theorem sc_steps_at : FnScope ["lock", "stand", "found", "k", "bolt", "here", "there", "price", "ways"] ["lock", "stand"] (defScope s_steps_at) := ⟨rfl, rfl, rfl, by decide +kernel, rfl, by decide +kernel, by decide +kernel⟩
def dSteps (as : List AV) (q : AV) : Prop := ∃ (R : List Nat) (v : List Int), as = [.d (.tup (lockD R)), .d (ti v)] ∧ R.length ≤ 60 ∧ Ok24 R ∧ Wd R v ∧ q = .own (stepsD R v)
/-- what a turn of both loops has -/
theorem steps_turn {R : List Nat} {v : List Int} {k : Nat} (hw : Wd R v) (ok : Ok24 R) (hk : k < R.length) : ∃ m u p t, low R (k + 1) = m :: low R k ∧ (low R k).length = k ∧ v = u ++ p :: t ∧ u.length = k ∧ Wd (low R k) u ∧ Ok24 (m :: low R k) ∧ (lockD R)[k]? = some (boltD m (low R k)) ∧ v.take k = u ∧ v[k]? = some p ∧
    stepsD (low R (k + 1)) (v.take (k + 1)) = stepsD (low R k) (v.take k) ++ (gapsD (low R k) m).flatMap (fSt k u p) := by
  obtain ⟨m, e1, e2, e3⟩ := low_succ hk
  have hw2 : Wd (R.take (R.length - 1 - k) ++ m :: low R k) v := by rw [← e2]; exact hw
  obtain ⟨u, p, t, ev, hu, h0, h1⟩ := wd_part hw2
  have hul : u.length = k := by rw [hu.len, e3]
  have okm : Ok24 (m :: low R k) := (e2 ▸ ok : Ok24 (R.take (R.length - 1 - k) ++ m :: low R k)).part
  have eb : (lockD R)[k]? = some (boltD m (low R k)) := by
    have := lock_get (R.take (R.length - 1 - k)) (low R k) m
    rwa [← e2, e3] at this
  have et : v.take k = u := by rw [ev, ← hul, List.take_left]
  have et1 : v.take (k + 1) = u ++ [p] := by
    rw [ev, ← hul, List.take_append, List.take_of_length_le (Nat.le_succ _), Nat.add_sub_cancel_left]; rfl
  refine ⟨m, u, p, t, e1, e3, ev, hul, hu, okm, eb, et, ?_, ?_⟩
  · rw [ev, List.getElem?_append_right (by omega), hul, Nat.sub_self]; rfl
  · rw [e1, et1, et]
    show stepsD (low R k) (u ++ [p]).dropLast ++ (gapsD (low R k) m).flatMap (fSt (low R k).length (u ++ [p]).dropLast ((u ++ [p]).getLastD 0)) = _
    rw [e3, List.dropLast_concat, List.getLastD_concat]
theorem c_steps_at (T : Tx K mg) : Cal P w K mg base "steps_at" ["lock", "stand"] 1 (spP K dSteps) := by
  refine cal_pure (N := ["lock", "stand", "found", "k", "bolt", "here", "there", "price", "ways"]) (st := s_steps_at) (k := 0) T.g_steps_at T.f_steps_at sc_steps_at (fun _ _ _ _ _ _ us hl => match us, hl with | [_, _], _ => rfl) ?_ ?_
  · rintro as r ⟨R, v, rfl, _⟩; rfl
  · rintro cdv A outer s H E C as r Q ⟨R, v, rfl, hl, ok, hw, rfl⟩ hq
    have ln : (lockD R).length = R.length := lockD_len R
    refine gs_setL C 2 (gl_lst (ds := []) ga_nil) ?_
    refine gs_for (els := enuD (lockD R)) C (js := [3, 4]) (fun d Γ => match d with | .tup [a, b] => (Γ.set 3 (.d a)).set 4 (.d b) | _ => Γ) (fun k => [.d (.tup (lockD R)), .d (ti v), .own (stepsD (low R k) (v.take k)), .no, .no, .no, .no, .no, .no]) (gi_enumT (ge_var 0) T.z_enumerate) ?_ (by rw [low_zero]; rfl) ?_ ?_
    · intro i d hd
      have hi : i < (lockD R).length := by rw [← enuD_len]; exact (List.getElem?_eq_some_iff.mp hd).1
      rw [enuD_get (List.getElem?_eq_getElem hi)] at hd
      cases hd
      exact tg_tup C (tgs_cons (tg_name C 3) (tgs_cons (tg_name C 4) tgs_nil))
    · intro Hb s0 k d hd
      have hi : k < (lockD R).length := by rw [← enuD_len]; exact (List.getElem?_eq_some_iff.mp hd).1
      obtain ⟨m, u, p, t, e1, e3, ev, hul, hu, okm, eb, et, ep, es⟩ := steps_turn hw ok (k := k) (by omega)
      rw [enuD_get eb] at hd
      cases hd
      have hm := okm.hd
      have hsl := stepsD_len (low R k) (v.take k) okm.tl
      rw [e3] at hsl
      refine gs_for (els := gapsD (low R k) m) C (js := [5, 6, 7, 8]) (fun d Γ => match d with | .tup [a, b, c, e] => (((Γ.set 5 (.d a)).set 6 (.d b)).set 7 (.d c)).set 8 (.d e) | _ => Γ) (fun i => [.d (.tup (lockD R)), .d (ti v), .own (stepsD (low R k) (v.take k) ++ ((gapsD (low R k) m).take i).flatMap (fSt k u p)), .d (.int (k : Nat)), .d (boltD m (low R k)), .no, .no, .no, .no]) (gi_tup (ge_ixT (d := .tup (gapsD (low R k) m)) (ge_var (x := boltD m (low R k)) 4) ge_int)) ?_ (by rw [List.take_zero, List.flatMap_nil, List.append_nil]; rfl) ?_ ?_
      · intro i d hd
        obtain ⟨h', t', v', rfl, _⟩ := gapsD_mem okm (List.mem_of_getElem? hd)
        exact tg_tup C (tgs_cons (tg_name C 5) (tgs_cons (tg_name C 6) (tgs_cons (tg_name C 7) (tgs_cons (tg_name C 8) tgs_nil))))
      · intro Hb' s1 i d hd
        obtain ⟨h', t', v', rfl, _⟩ := gapsD_mem okm (List.mem_of_getElem? hd)
        have etk : ((gapsD (low R k) m).take (i + 1)).flatMap (fSt k u p) = ((gapsD (low R k) m).take i).flatMap (fSt k u p) ++ fSt k u p (gapD h' t' v') := by
          rw [List.take_add_one, hd, List.flatMap_append]
          simp
        have hfl := flat_le (fSt_len k u p) ((gapsD (low R k) m).take i)
        have hgl := gapsD_len (low R k) m
        have htl : ((gapsD (low R k) m).take i).length ≤ 6 := by rw [List.length_take]; omega
        refine gs_if (k0 := decide (h' = p) && ([ti v'] : List D).any fun z => D.eqv z (ti u)) (GW.t (gw_and (gt_eqi C (ge_var 5) (ge_ixT (d := .int p) (ge_var (x := ti v) 1) (ge_var (x := .int (k : Nat)) 3) (atI_nat (by rw [List.getElem?_map, ep]; rfl)))) fun _ => gw_and1 (gt_cmp (op_inT C.hu) (d_inT (x := ti u) (ys := [ti v']) (ti_sh u) (sh_of ?_ ?_)) (ge_of (ge_slT (ge_var (x := ti v) 1) gp_none (gp_some (ge_var (x := .int (k : Nat)) 3))) ?_) (gd_var 8)))) (fun hk => ?_) (fun hk => ?_)
        · show (D.soks [ti v']) = true
          rw [D.soks, ti_sok]; rfl
        · show D.deps [ti v'] + 1 ≤ 60
          rw [D.deps, ti_dep]; decide
        · rw [cut_take, ← List.map_take, et]; rfl
        · refine gs_append 2 (xs := stepsD (low R k) (v.take k) ++ ((gapsD (low R k) m).take i).flatMap (fSt k u p)) (d := .tup [.int (k : Nat), .int t', .int 1]) (ge_tup (ds := [.int (k : Nat), .int t', .int 1]) (gac (ge_var 3) (gac (ge_var 6) (gac1 (ge_var 7))))) ?_ (by rw [List.length_append]; omega)
          refine gs_end (gs_nil fun σ H F => ?_)
          have e4 : fSt k u p (gapD h' t' v') = [.tup [.int (k : Nat), .int t', .int 1]] := by
            show (if (decide (h' = p) && ([ti v'] : List D).any fun z => D.eqv z (ti u)) = true then _ else _) = _
            rw [if_pos hk]
          show Fm _ Hb' σ [.d (.tup (lockD R)), .d (ti v), .own (stepsD (low R k) (v.take k) ++ ((gapsD (low R k) m).take (i + 1)).flatMap (fSt k u p)), .d (.int (k : Nat)), .d (boltD m (low R k)), .no, .no, .no, .no] H
          rw [etk, e4, ← List.append_assoc]
          exact F.weak ⟨.inr rfl, .inr rfl, .inr rfl, .inr rfl, .inr rfl, .inl rfl, .inl rfl, .inl rfl, .inl rfl, trivial⟩
        · refine gs_end (gs_nil fun σ H F => ?_)
          have e4 : fSt k u p (gapD h' t' v') = [] := by
            show (if (decide (h' = p) && ([ti v'] : List D).any fun z => D.eqv z (ti u)) = true then _ else _) = _
            rw [if_neg (by rw [hk]; decide)]
          show Fm _ Hb' σ [.d (.tup (lockD R)), .d (ti v), .own (stepsD (low R k) (v.take k) ++ ((gapsD (low R k) m).take (i + 1)).flatMap (fSt k u p)), .d (.int (k : Nat)), .d (boltD m (low R k)), .no, .no, .no, .no] H
          rw [etk, e4, List.append_nil]
          exact F.weak ⟨.inr rfl, .inr rfl, .inr rfl, .inr rfl, .inr rfl, .inl rfl, .inl rfl, .inl rfl, .inl rfl, trivial⟩
      · intro Hb' s1
        refine gs_nil fun σ H F => ?_
        rw [List.take_length, ← es] at F
        exact (F.down s1 rfl).weak ⟨.inr rfl, .inr rfl, .inr rfl, .inl rfl, .inl rfl, .inr rfl, .inr rfl, .inr rfl, .inr rfl, trivial⟩
    · intro Hb s0
      have e : stepsD (low R (enuD (lockD R)).length) (v.take (enuD (lockD R)).length) = stepsD R v := by
        rw [enuD_len, ln, low_all, List.take_of_length_le (by rw [hw.len]; exact Nat.le_refl _)]
      rw [e]
      exact gs_retO 2 rfl (hq.up s0)
end
end WB
namespace WB
open PySem PySem.Spec PyProof.Rows L2
section
variable {P : Program} {w : World} {K : PySem.W.Frag} {mg : Str → Option Value} {base : Heap}
theorem sc_can_step : FnScope ["lock", "stand"] ["lock", "stand"] (defScope s_can_step) := ⟨rfl, rfl, rfl, by decide +kernel, rfl, by decide +kernel, by decide +kernel⟩
def dCan (as : List AV) (q : AV) : Prop := ∃ (R : List Nat) (v : List Int), as = [.d (.tup (lockD R)), .d (ti v)] ∧ 1 ≤ R.length ∧ R.length ≤ 60 ∧ Ok24 R ∧ Wd R v ∧ q = .own (stepsD R v)
theorem c_can_step (T : Tx K mg) : Cal P w K mg base "can_step" ["lock", "stand"] 8 (spP K dCan) := by
  refine cal_pure (N := ["lock", "stand"]) (st := s_can_step) (k := 7) T.g_can_step T.f_can_step sc_can_step (fun _ _ _ _ _ _ us hl => match us, hl with | [_, _], _ => rfl) ?_ ?_
  · rintro as r ⟨R, v, rfl, _⟩; rfl
  · rintro cdv A outer s H E C as r Q ⟨R, v, rfl, h1, h2, ok, hw, rfl⟩ hq
    refine gs_expr (ge_call (c_must_be_lock T) (C.hr.mono (by decide)) (gac1 (ge_var 0)) ⟨R, rfl, h1, h2, ok, rfl⟩) ?_
    refine gs_expr (ge_call (c_must_stand T) (C.hr.mono (by decide)) (gac (ge_var 0) (gac1 (ge_var 1))) ⟨R, v, rfl, h2, hw, rfl⟩) ?_
    exact gs_retL (gl_call (c_steps_at T) (C.hr.mono (by decide)) (gac (ge_var 0) (gac1 (ge_var 1))) ⟨R, v, rfl, h2, ok, hw, rfl⟩) hq
/-! ### row_of, good places -/
def nD (m : Nat) : D := .int (m : Nat)
def dRow (as : List AV) (q : AV) : Prop := ∃ L : List Nat, as = [.bw (L.map nD)] ∧ 1 ≤ L.length ∧ L.length ≤ 60 ∧ Ok24 L ∧ q = .d (.tup [.tup (lockD L.reverse), ti (E0 L.reverse), ti (E1 L.reverse)])
theorem sc_row_of : FnScope ["places", "many", "lock", "ends", "here"] ["places"] (defScope s_row_of) := ⟨rfl, rfl, rfl, by decide +kernel, rfl, by decide +kernel, by decide +kernel⟩
def fWy (rs : List Nat) : D → D
  | .int i => ti (Wy rs i.toNat)
  | d => d
theorem rng_ways (rs : List Nat) (n : Nat) : (rng 0 n).map (fWy rs) = (waysL rs n).map ti := by
  unfold rng waysL
  rw [List.map_map, List.map_map]
  refine List.map_congr_left fun i _ => ?_
  show ti (Wy rs ((0 : Int) + (i : Nat)).toNat) = ti (Wy rs i)
  rw [Int.zero_add, Int.toNat_natCast]
theorem ti_cat (xs : List Int) (y : Int) : D.tup (xs.map D.int ++ [D.int y]) = ti (xs ++ [y]) := by unfold ti; rw [List.map_append]; rfl
theorem c_row_of (T : Tx K mg) : Cal P w K mg base "row_of" ["places"] 4 (spP K dRow) := by
  refine cal_pure (N := ["places", "many", "lock", "ends", "here"]) (st := s_row_of) (k := 3) T.g_row_of T.f_row_of sc_row_of (fun _ _ _ _ _ _ us hl => match us, hl with | [_], _ => rfl) ?_ ?_
  · rintro as r ⟨L, rfl, _⟩; rfl
  · rintro cdv A outer s H E C as r Q ⟨L, rfl, h1, h2, ok, rfl⟩ hq
    have ln : (L.map nD).length = L.length := List.length_map ..
    refine gs_unless (GW.t (k0 := !true || !true) (gw_or (gt_not (gt_of (k := true) (gt_val (ge_isList (p := .bw (L.map nD)) T (gb_var 0) tb_bw)) rfl)) fun _ => gw_or1 (gt_not (gt_of (gt_lele ge_int (ge_lenL (gb_var 0) T.z_len) (ge_glob T.i_MOST_BOLTS_made)) ?_)))) ?_
    · rw [ln, decide_eq_true (by omega), decide_eq_true (by omega)]; rfl
    refine gs_unless (gt_not (gt_of (k := true) (gt_val (ge_all (bs := List.replicate (L.map nD).length true) ?_ T.z_all C.hc)) (all_rep _))) ?_
    · rw [← all_true]
      refine GL.rd (gl_lc0 (els := L.map nD) C [("many", 1)] (js := [1]) (fun d Γ => Γ.set 1 (.d d)) (fun _ => .bl true) (gi_var 0) ?_ ?_ (by omega))
      · intro d hd s H C' cl fp
        exact tg_name C.blk 1
      · intro Hb s0 d hd s H C' cl fp
        obtain ⟨m, hm, rfl⟩ := List.mem_map.mp hd
        have := ok m hm
        exact ge_call (c_is_from T) (C.hr.mono (by decide)) (gac (ge_var 1) (gac ge_int (gac1 ge_int))) ⟨_, _, _, rfl, tb_d, by rw [show nD m = .int (m : Nat) from rfl, fromB_in (by omega) (by omega)]⟩
    refine gs_unp (d := .tup [.tup [], .tup [.tup [], .tup []]]) C (ge_tup (ds := [.tup [], .tup [.tup [], .tup []]]) (gac (ge_tup (ds := []) ga_nil) (gac1 (ge_tup (ds := [.tup [], .tup []]) (gac (ge_tup (ds := []) ga_nil) (gac1 (ge_tup (ds := []) ga_nil))))))) (tg_tup C (tgs_cons (tg_name C 2) (tgs_cons (tg_name C 3) tgs_nil))) ?_
    refine gs_for (els := L.map nD) C (js := [1]) (fun d Γ => Γ.set 1 (.d d)) (fun i => [.bw (L.map nD), .no, .d (.tup (lockD (L.take i).reverse)), .d (.tup [ti (E0 (L.take i).reverse), ti (E1 (L.take i).reverse)]), .no]) (gi_var 0) ?_ rfl ?_ ?_
    · intro i d hd
      exact tg_name C 1
    · intro Hb s0 i d hd
      have hi : i < L.length := by rw [← ln]; exact (List.getElem?_eq_some_iff.mp hd).1
      rw [List.getElem?_map, List.getElem?_eq_getElem hi] at hd
      obtain rfl : nD L[i] = d := Option.some.inj hd
      generalize hm : L[i] = m
      have om := ok m (by rw [← hm]; exact List.getElem_mem hi)
      have etk : (L.take (i + 1)).reverse = m :: (L.take i).reverse := by
        rw [List.take_add_one, List.getElem?_eq_getElem hi, hm, List.reverse_append]; rfl
      rw [etk]
      generalize hrs : (L.take i).reverse = rs
      have lrs : rs.length ≤ 60 := by rw [← hrs, List.length_reverse, List.length_take]; omega
      have l0 : (E0 rs).length = rs.length := by
        have : Ok24 rs := fun x hx => ok x (by rw [← hrs, List.mem_reverse] at hx; exact List.mem_of_mem_take hx)
        exact (wd_E0 this).len
      have l1 : (E1 rs).length = rs.length := by
        have : Ok24 rs := fun x hx => ok x (by rw [← hrs, List.mem_reverse] at hx; exact List.mem_of_mem_take hx)
        exact (wd_E1 this).len
      refine gs_aug C 2 iop_catA (d_cat (xs := lockD rs) (ys := [boltD m rs]) (by rw [lockD_len]; simp; omega)) (ge_tup (ds := [boltD m rs]) (gac1 (ge_tup (ds := [.int m, .tup (gapsD rs m)]) (gac (ge_var (x := nD m) 1) (gac1 (ge_call (c_tied T) (C.hr.mono (by decide)) (ga1 (GL.rd (gl_lc0 (els := rng 0 ((m : Int) - 1).toNat) C [("here", 4)] (js := [4]) (fun d Γ => Γ.set 4 (.d d)) (fWy rs) (gi_range1 (ge_sub (ge_var (x := nD m) 1) ge_int) T.z_range (by omega) (by omega)) ?_ ?_ ?_))) ⟨waysL rs (m - 1), ?_, ?_, rfl⟩)))))) ?_
      · intro d hd s H C' cl fp
        exact tg_name C.blk 4
      · intro Hb s0 d hd s H C' cl fp
        obtain ⟨j, hj, rfl⟩ := rng_mem hd
        rw [Int.zero_add]
        have e2 : ((j : Int) % 2) = ((j % 2 : Nat) : Int) := by omega
        refine ge_ixT (ds := [ti (E0 rs), ti (E1 rs)]) (i := 1 - (j : Int) % 2) (ge_var 3) (ge_sub ge_int (ge_modp (by decide) (ge_var 4) ge_int)) ?_
        show atI [ti (E0 rs), ti (E1 rs)] (1 - (j : Int) % 2) = some (ti (Wy rs (Int.toNat (j : Nat))))
        rw [Int.toNat_natCast]
        unfold Wy
        rcases Nat.mod_two_eq_zero_or_one j with z | z
        · rw [if_pos z, e2, z]; rfl
        · rw [if_neg (by omega), e2, z]; rfl
      · rw [rng_len]; omega
      · rw [rng_ways, show ((m : Int) - 1).toNat = m - 1 by omega]
      · rw [waysL_len]; omega
      have em : ((m : Int) % 2) = ((m % 2 : Nat) : Int) := by omega
      have eix : atI [ti (E0 rs), ti (E1 rs)] ((m : Int) % 2) = some (ti (if m % 2 = 0 then E0 rs else E1 rs)) := by
        rcases Nat.mod_two_eq_zero_or_one m with z | z
        · rw [em, z, if_pos rfl]; rfl
        · rw [em, z, if_neg (by decide)]; rfl
      refine gs_set C 3 (ge_tup (ds := [ti (E0 (m :: rs)), ti (E1 (m :: rs))]) (gac (ge_of (ge_cat' (xs := (E0 rs).map D.int) (ys := [.int 0]) (ge_ixT (d := ti (E0 rs)) (ge_var (x := .tup [ti (E0 rs), ti (E1 rs)]) 3) ge_int) (ge_tup (ds := [.int 0]) (gac1 ge_int)) ?_) ?_) (gac1 (ge_of (ge_cat' (xs := (if m % 2 = 0 then E0 rs else E1 rs).map D.int) (ys := [.int ((m : Int) - 1)]) (ge_ixT (d := ti (if m % 2 = 0 then E0 rs else E1 rs)) (ge_var (x := .tup [ti (E0 rs), ti (E1 rs)]) 3) (ge_modp (by decide) (ge_var (x := nD m) 1) ge_int) eix) (ge_tup (ds := [.int ((m : Int) - 1)]) (gac1 (ge_sub (ge_var (x := nD m) 1) ge_int))) ?_) ?_)))) ?_
      · rw [List.length_map, l0]; simp; omega
      · exact ti_cat _ _
      · rw [List.length_map]; split <;> simp <;> omega
      · exact ti_cat _ _
      refine gs_nil fun σ H F => ?_
      exact F.weak ⟨.inr rfl, .inl rfl, .inr rfl, .inr rfl, .inr rfl, trivial⟩
    · intro Hb s0
      rw [ln, List.take_length]
      refine gs_ret (ge_tup (ds := [.tup (lockD L.reverse), ti (E0 L.reverse), ti (E1 L.reverse)]) (gac (ge_var 2) (gac (ge_ixT (d := ti (E0 L.reverse)) (ge_var (x := .tup [ti (E0 L.reverse), ti (E1 L.reverse)]) 3) ge_int) (gac1 (ge_ixT (d := ti (E1 L.reverse)) (ge_var (x := .tup [ti (E0 L.reverse), ti (E1 L.reverse)]) 3) ge_int))))) (hq.up s0)
end
end WB
namespace WB
open PySem PySem.Spec PyProof.Rows L2
/-! ### the solver's small functions -/
def rowD (x y : List Int) : D := .tup [ti x, ti y]
def fInit : D → D
  | .tup ds => .tup ds.dropLast
  | d => d
def fLast : D → D
  | .tup ds => ds.getLastD .non
  | d => d
theorem fInit_snoc (u : List Int) (p : Int) : fInit (ti (u ++ [p])) = ti u := by
  show D.tup ((u ++ [p]).map D.int).dropLast = _
  rw [List.map_append, List.map_singleton, List.dropLast_concat]; rfl
theorem fLast_snoc (u : List Int) (p : Int) : fLast (ti (u ++ [p])) = .int p := by
  show ((u ++ [p]).map D.int).getLastD .non = _
  rw [List.map_append, List.map_singleton, List.getLastD_concat]
theorem ti_snoc (u : List Int) (p : Int) : ti (u ++ [p]) = .tup (u.map D.int ++ [.int p]) := by unfold ti; rw [List.map_append]; rfl
section
variable {X : Cx} {H0 : Hp} {Γ : List AV} {e : Expr} {pos p2 p3 : Pos} {u : List Int} {p : Int} {j : Nat}
theorem ge_last (h : GE X H0 Γ e (ti (u ++ [p]))) : GE X H0 Γ (.Subscript e (.UnaryOp .USub (.Constant (.int 1) j p2) p3) pos) (.int p) := ge_ixT (ds := u.map D.int ++ [.int p]) (by rw [← ti_snoc]; exact h) (ge_neg ge_int) (atI_last _ _)
theorem ge_init {p4 : Pos} (h : GE X H0 Γ e (ti (u ++ [p]))) : GE X H0 Γ (.Subscript e (.Slice none (some (.UnaryOp .USub (.Constant (.int 1) j p2) p3)) none p4) pos) (ti u) := ge_of (ge_slT (ds := u.map D.int ++ [.int p]) (by rw [← ti_snoc]; exact h) gp_none (gp_some (ge_neg ge_int))) (by show D.tup (cutD _ none (some (-1))) = _; rw [cut_init]; rfl)
end
section
variable {P : Program} {w : World} {K : PySem.W.Frag} {mg : Str → Option Value} {base : Heap}
/-- words with a last place -/
def Snocs (ls : List (List Int × Int)) : List D := ls.map fun q => ti (q.1 ++ [q.2])
def dLower (as : List AV) (q : AV) : Prop := ∃ ls : List (List Int × Int), as = [.d (.tup (Snocs ls))] ∧ ls.length ≤ 10 ∧ q = .d (.tup (ls.map fun q => ti q.1))
theorem snocs_init (ls : List (List Int × Int)) : (Snocs ls).map fInit = ls.map fun q => ti q.1 := by
  unfold Snocs
  rw [List.map_map]
  exact List.map_congr_left fun q _ => fInit_snoc q.1 q.2
theorem sc_lower : FnScope ["row", "wish"] ["row"] (defScope s_lower) := ⟨rfl, rfl, rfl, by decide +kernel, rfl, by decide +kernel, by decide +kernel⟩
theorem c_lower (T : Tx K mg) : Cal P w K mg base "lower" ["row"] 1 (spP K dLower) := by
  refine cal_pure (N := ["row", "wish"]) (st := s_lower) (k := 0) T.g_lower T.f_lower sc_lower (fun _ _ _ _ _ _ us hl => match us, hl with | [_], _ => rfl) ?_ ?_
  · rintro as r ⟨ls, rfl, _⟩; rfl
  · rintro cdv A outer s H E C as r Q ⟨ls, rfl, hl, rfl⟩ hq
    refine gs_ret (ge_tuple ?_ T.z_tuple) hq
    rw [← snocs_init]
    refine GL.rd (gl_lc0 (els := Snocs ls) C [("wish", 1)] (js := [1]) (fun d Γ => Γ.set 1 (.d d)) fInit (gi_tup (ge_var 0)) ?_ ?_ (by unfold Snocs; rw [List.length_map]; omega))
    · intro d hd s H C' cl fp
      exact tg_name C.blk 1
    · intro Hb s0 d hd s H C' cl fp
      obtain ⟨q, _, rfl⟩ := List.mem_map.mp hd
      rw [fInit_snoc]
      exact ge_init (ge_var 1)
theorem sc_below : FnScope ["row", "wish"] ["row"] (defScope s_below) := ⟨rfl, rfl, rfl, by decide +kernel, rfl, by decide +kernel, by decide +kernel⟩
theorem c_below (T : Tx K mg) : Cal P w K mg base "below" ["row"] 1 (spP K dLower) := by
  refine cal_pure (N := ["row", "wish"]) (st := s_below) (k := 0) T.g_below T.f_below sc_below (fun _ _ _ _ _ _ us hl => match us, hl with | [_], _ => rfl) ?_ ?_
  · rintro as r ⟨ls, rfl, _⟩; rfl
  · rintro cdv A outer s H E C as r Q ⟨ls, rfl, hl, rfl⟩ hq
    refine gs_ret (ge_tuple ?_ T.z_tuple) hq
    rw [← snocs_init]
    refine GL.rd (gl_lc0 (els := Snocs ls) C [("wish", 1)] (js := [1]) (fun d Γ => Γ.set 1 (.d d)) fInit (gi_tup (ge_var 0)) ?_ ?_ (by unfold Snocs; rw [List.length_map]; omega))
    · intro d hd s H C' cl fp
      exact tg_name C.blk 1
    · intro Hb s0 d hd s H C' cl fp
      obtain ⟨q, _, rfl⟩ := List.mem_map.mp hd
      rw [fInit_snoc]
      exact ge_init (ge_var 1)
/-- of a row of two -/
def dRow2 (f : List Int → Int → List Int → Int → D) (as : List AV) (q : AV) : Prop := ∃ (u v : List Int) (p t : Int), as = [.d (rowD (u ++ [p]) (v ++ [t]))] ∧ q = .d (f u p v t)
theorem row_mem {u v : List Int} {p t : Int} {d : D} (h : d ∈ [ti (u ++ [p]), ti (v ++ [t])]) : ∃ a b, d = ti (a ++ [b]) ∧ (b = p ∨ b = t) := by
  rcases List.mem_cons.mp h with z | z
  · exact ⟨u, p, z, .inl rfl⟩
  · exact ⟨v, t, List.mem_singleton.mp z, .inr rfl⟩
theorem sc_first_place : FnScope ["row", "places", "wish"] ["row"] (defScope s_first_place) := ⟨rfl, rfl, rfl, by decide +kernel, rfl, by decide +kernel, by decide +kernel⟩
theorem c_first_place (T : Tx K mg) : Cal P w K mg base "first_place" ["row"] 1 (spP K (dRow2 fun _ p _ _ => .int p)) := by
  refine cal_pure (N := ["row", "places", "wish"]) (st := s_first_place) (k := 0) T.g_first_place T.f_first_place sc_first_place (fun _ _ _ _ _ _ us hl => match us, hl with | [_], _ => rfl) ?_ ?_
  · rintro as r ⟨u, v, p, t, rfl, _⟩; rfl
  · rintro cdv A outer s H E C as r Q ⟨u, v, p, t, rfl, rfl⟩ hq
    have efl : (([ti (u ++ [p]), ti (v ++ [t])] : List D).filter fun d => !D.eqv (fLast d) .non).map fLast = [.int p, .int t] := by
      rw [List.filter_cons_of_pos (by rw [fLast_snoc]; rfl), List.filter_cons_of_pos (by rw [fLast_snoc]; rfl), List.filter_nil, List.map_cons, List.map_cons, fLast_snoc, fLast_snoc]; rfl
    refine gs_setLc1 (els := [ti (u ++ [p]), ti (v ++ [t])]) C 1 [("wish", 2)] (js := [2]) (fun d Γ => Γ.set 2 (.d d)) fLast (fun d => !D.eqv (fLast d) .non) (gi_tup (ge_var 0)) ?_ ?_ ?_ (Nat.le_of_ble_eq_true rfl) ?_ (hsw := sw_true rfl rfl rfl rfl)
    · intro d hd s H C' cl fp
      exact tg_name C.blk 2
    · intro Hb s0 d hd s H C' cl fp
      obtain ⟨a, b, rfl, _⟩ := row_mem hd
      rw [fLast_snoc]
      exact gt_notN (ge_last (ge_var 2))
    · intro Hb s0 d hd _ s H C' cl fp
      obtain ⟨a, b, rfl, _⟩ := row_mem hd
      rw [fLast_snoc]
      exact ge_last (ge_var 2)
    · rw [efl]
      exact gs_ret (GV.exp (gv_if (k0 := true) (gt_of (gt_cmp (op_neD C.h64) (d_neL (xs := [.int p, .int t]) (ys := []) (ti_sh [p, t]) (ti_sh [])) (go_var 1) (GL.rd (gl_lst (ds := []) ga_nil))) rfl) (fun _ => GE.val (ge_ixL (d := .int p) (go_var 1) ge_int)) fun q => by cases q)) hq
theorem sc_is_still : FnScope ["row", "here", "wish"] ["row"] (defScope s_is_still) := ⟨rfl, rfl, rfl, by decide +kernel, rfl, by decide +kernel, by decide +kernel⟩
theorem c_is_still (T : Tx K mg) : Cal P w K mg base "is_still" ["row"] 2 (spP K (dRow2 fun _ p _ t => .bl (decide (t = p)))) := by
  refine cal_pure (N := ["row", "here", "wish"]) (st := s_is_still) (k := 1) T.g_is_still T.f_is_still sc_is_still (fun _ _ _ _ _ _ us hl => match us, hl with | [_], _ => rfl) ?_ ?_
  · rintro as r ⟨u, v, p, t, rfl, _⟩; rfl
  · rintro cdv A outer s H E C as r Q ⟨u, v, p, t, rfl, rfl⟩ hq
    refine gs_set C 1 (ge_call (c_first_place T) C.hr (gac1 (ge_var 0)) ⟨u, v, p, t, rfl, rfl⟩) ?_
    have e1 : (([true, decide (t = p)] : List Bool).all _root_.id) = decide (t = p) := by simp
    refine gs_ret (d := .bl (([true, decide (t = p)] : List Bool).all _root_.id)) (ge_all ?_ T.z_all C.hc) (by rw [e1]; exact hq)
    have e2 : ([true, decide (t = p)] : List Bool).map D.bl = ([ti (u ++ [p]), ti (v ++ [t])] : List D).map fun d => .bl (false || D.eqv (fLast d) (.int p)) := by
      rw [List.map_cons, List.map_cons, List.map_cons, List.map_cons, fLast_snoc, fLast_snoc, int_eqv, int_eqv, decide_eq_true (Eq.refl p)]; rfl
    rw [e2]
    refine GL.rd (gl_lc0 (els := [ti (u ++ [p]), ti (v ++ [t])]) C [("wish", 2)] (js := [2]) (fun d Γ => Γ.set 2 (.d d)) (fun d => .bl (false || D.eqv (fLast d) (.int p))) (gi_tup (ge_var 0)) ?_ ?_ (Nat.le_of_ble_eq_true rfl))
    · intro d hd s H C' cl fp
      exact tg_name C.blk 2
    · intro Hb s0 d hd s H C' cl fp
      obtain ⟨a, b, rfl, _⟩ := row_mem hd
      rw [fLast_snoc]
      exact ge_or (k1 := false) (ge_of (ge_isN (ge_last (ge_var 2))) rfl) fun _ => ge_one (ge_eq' C.blk (ge_last (ge_var 2)) (ge_var 1) (sh_of rfl (Nat.zero_le _)) (sh_of rfl (Nat.zero_le _)))
def dRow2n (f : List Int → Int → List Int → Int → D) (as : List AV) (q : AV) : Prop := ∃ (u v : List Int) (p t : Int), as = [.d (rowD (u ++ [p]) (v ++ [t]))] ∧ t ≠ p ∧ q = .d (f u p v t)
theorem sc_ahead_most : FnScope ["row", "here", "many", "wish"] ["row"] (defScope s_ahead_most) := ⟨rfl, rfl, rfl, by decide +kernel, rfl, by decide +kernel, by decide +kernel⟩
theorem c_ahead_most (T : Tx K mg) : Cal P w K mg base "ahead_most" ["row"] 2 (spP K (dRow2n fun _ _ _ _ => .int 1)) := by
  refine cal_pure (N := ["row", "here", "many", "wish"]) (st := s_ahead_most) (k := 1) T.g_ahead_most T.f_ahead_most sc_ahead_most (fun _ _ _ _ _ _ us hl => match us, hl with | [_], _ => rfl) ?_ ?_
  · rintro as r ⟨u, v, p, t, rfl, _⟩; rfl
  · rintro cdv A outer s H E C as r Q ⟨u, v, p, t, rfl, hne, rfl⟩ hq
    refine gs_set C 1 (ge_call (c_first_place T) C.hr (gac1 (ge_var 0)) ⟨u, v, p, t, rfl, rfl⟩) ?_
    refine gs_forX (els := enuD [ti (u ++ [p]), ti (v ++ [t])]) C (js := [2, 3]) (fun d Γ => match d with | .tup [a, b] => (Γ.set 2 (.d a)).set 3 (.d b) | _ => Γ) NoZ (fun _ i _ Γ' => i < 2 ∧ Γ' = [.d (rowD (u ++ [p]) (v ++ [t])), .d (.int p), .no, .no]) (gi_enumT (ge_var (x := rowD (u ++ [p]) (v ++ [t])) 0) T.z_enumerate) ?_ zok_no ?_ ?_ ?_
    · intro i d hd
      have hi : i < ([ti (u ++ [p]), ti (v ++ [t])] : List D).length := by rw [← enuD_len]; exact (List.getElem?_eq_some_iff.mp hd).1
      rw [enuD_get (List.getElem?_eq_getElem hi)] at hd
      cases hd
      exact tg_tup C (tgs_cons (tg_name C 2) (tgs_cons (tg_name C 3) tgs_nil))
    · intro Hc G _ _ _ _
      exact ⟨by decide, rfl⟩
    · intro Hc core _ i d hd G Γ' cg hJ
      obtain ⟨hi, rfl⟩ := hJ
      have cases2 : i = 0 ∨ i = 1 := by omega
      rcases cases2 with rfl | rfl
      · rw [enuD_get (d := ti (u ++ [p])) rfl] at hd
        cases hd
        refine gs_unless (GW.t (k0 := true && false) (gw_and (gt_of (gt_notN (ge_last (ge_var (x := ti (u ++ [p])) 3))) rfl) fun _ => gw_and1 (gt_of (gt_nei C (ge_last (ge_var (x := ti (u ++ [p])) 3)) (ge_var 1)) (by rw [decide_eq_true (Eq.refl p)]; rfl)))) ?_
        exact gs_nil fun σ H F => ⟨G, _, cg, ⟨by decide, rfl⟩, F.weak ⟨.inr rfl, .inr rfl, .inl rfl, .inl rfl, trivial⟩⟩
      · rw [enuD_get (d := ti (v ++ [t])) rfl] at hd
        cases hd
        refine gs_when (GW.t (k0 := true && true) (gw_and (gt_of (gt_notN (ge_last (ge_var (x := ti (v ++ [t])) 3))) rfl) fun _ => gw_and1 (gt_of (gt_nei C (ge_last (ge_var (x := ti (v ++ [t])) 3)) (ge_var 1)) (by rw [decide_eq_false hne]; rfl)))) ?_
        exact gs_ret (ge_var (x := .int 1) 2) (hq.up (core.same.trans cg))
    · intro Hc core _ G Γ' cg hJ
      rw [enuD_len] at hJ
      exact absurd hJ.1 (by simp)
theorem sc_added : FnScope ["one", "other", "part", "more"] ["one", "other"] (defScope s_added) := ⟨rfl, rfl, rfl, by decide +kernel, rfl, by decide +kernel, by decide +kernel⟩
def dAdd (as : List AV) (q : AV) : Prop := ∃ a b : Int, as = [.d (ti [a]), .d (ti [b])] ∧ q = .d (ti [a + b])
theorem c_added (T : Tx K mg) : Cal P w K mg base "added" ["one", "other"] 1 (spP K dAdd) := by
  refine cal_pure (N := ["one", "other", "part", "more"]) (st := s_added) (k := 0) T.g_added T.f_added sc_added (fun _ _ _ _ _ _ us hl => match us, hl with | [_, _], _ => rfl) ?_ ?_
  · rintro as r ⟨a, b, rfl, _⟩; rfl
  · rintro cdv A outer s H E C as r Q ⟨a, b, rfl, rfl⟩ hq
    refine gs_ret (ge_tuple (ds := [.int (a + b)]) (GL.rd (gl_lc0 (els := zipD [.int a] [.int b]) C [("part", 2), ("more", 3)] (js := [2, 3]) (fun d Γ => match d with | .tup [a, b] => (Γ.set 2 (.d a)).set 3 (.d b) | _ => Γ) (fun _ => .int (a + b)) (gi_zipT (ge_var (x := ti [a]) 0) (ge_var (x := ti [b]) 1) T.z_zip) ?_ ?_ (Nat.le_of_ble_eq_true rfl))) T.z_tuple) hq
    · intro d hd s H C' cl fp
      obtain rfl := List.mem_singleton.mp hd
      exact tg_tup C.blk (tgs_cons (tg_name C.blk 2) (tgs_cons (tg_name C.blk 3) tgs_nil))
    · intro Hb s0 d hd s H C' cl fp
      obtain rfl := List.mem_singleton.mp hd
      exact ge_add (ge_var 2) (ge_var 3)
theorem sc_price_alone : FnScope ["k", "gap"] ["k", "gap"] (defScope s_price_alone) := ⟨rfl, rfl, rfl, by decide +kernel, rfl, by decide +kernel, by decide +kernel⟩
def dAlone (as : List AV) (q : AV) : Prop := ∃ a b c d e : D, as = [.d e, .d (.tup [a, b, c, d])] ∧ q = .d (.tup [c])
theorem c_price_alone (T : Tx K mg) : Cal P w K mg base "price_alone" ["k", "gap"] 1 (spP K dAlone) := by
  refine cal_pure (N := ["k", "gap"]) (st := s_price_alone) (k := 0) T.g_price_alone T.f_price_alone sc_price_alone (fun _ _ _ _ _ _ us hl => match us, hl with | [_, _], _ => rfl) ?_ ?_
  · rintro as r ⟨a, b, c, d, e, rfl, _⟩; rfl
  · rintro cdv A outer s H E C as r Q ⟨a, b, c, d, e, rfl, rfl⟩ hq
    exact gs_ret (ge_tup (ds := [c]) (gac1 (ge_ixT (d := c) (ge_var (x := .tup [a, b, c, d]) 1) ge_int))) hq
theorem sc_first_last : FnScope ["row", "wish"] ["row"] (defScope s_first_last) := ⟨rfl, rfl, rfl, by decide +kernel, rfl, by decide +kernel, by decide +kernel⟩
theorem c_first_last (T : Tx K mg) : Cal P w K mg base "first_last" ["row"] 1 (spP K (dRow2 fun _ p _ _ => .int p)) := by
  refine cal_pure (N := ["row", "wish"]) (st := s_first_last) (k := 0) T.g_first_last T.f_first_last sc_first_last (fun _ _ _ _ _ _ us hl => match us, hl with | [_], _ => rfl) ?_ ?_
  · rintro as r ⟨u, v, p, t, rfl, _⟩; rfl
  · rintro cdv A outer s H E C as r Q ⟨u, v, p, t, rfl, rfl⟩ hq
    have efl : (([ti (u ++ [p]), ti (v ++ [t])] : List D).filter fun d => !D.eqv (fLast d) .non).map fLast = [.int p, .int t] := by
      rw [List.filter_cons_of_pos (by rw [fLast_snoc]; rfl), List.filter_cons_of_pos (by rw [fLast_snoc]; rfl), List.filter_nil, List.map_cons, List.map_cons, fLast_snoc, fLast_snoc]; rfl
    refine gs_ret (ge_ixL (ds := [.int p, .int t] ++ [.int 0]) (d := .int p) (GL.rd (gl_cat ?_ (gl_lst (ds := [.int 0]) (gac1 ge_int)) (Nat.le_of_ble_eq_true rfl))) ge_int) hq
    rw [← efl]
    refine gl_lc1 (els := [ti (u ++ [p]), ti (v ++ [t])]) C [("wish", 1)] (js := [1]) (fun d Γ => Γ.set 1 (.d d)) fLast (fun d => !D.eqv (fLast d) .non) (gi_tup (ge_var 0)) ?_ ?_ ?_ (Nat.le_of_ble_eq_true rfl)
    · intro d hd s H C' cl fp
      exact tg_name C.blk 1
    · intro Hb s0 d hd s H C' cl fp
      obtain ⟨a, b, rfl, _⟩ := row_mem hd
      rw [fLast_snoc]
      exact gt_notN (ge_last (ge_var 1))
    · intro Hb s0 d hd _ s H C' cl fp
      obtain ⟨a, b, rfl, _⟩ := row_mem hd
      rw [fLast_snoc]
      exact ge_last (ge_var 1)
theorem sc_used : FnScope ["number"] ["number"] (defScope s_used) := ⟨rfl, rfl, rfl, by decide +kernel, rfl, by decide +kernel, by decide +kernel⟩
def optD : Option Nat → D
  | none => .non
  | some n => .int n
def usedD : Option Nat → List D
  | none => []
  | some n => [.tup [.str "part", .int n]]
def dUsed (as : List AV) (q : AV) : Prop := ∃ o : Option Nat, as = [.d (optD o)] ∧ q = .d (.tup (usedD o))
theorem c_used (T : Tx K mg) : Cal P w K mg base "used" ["number"] 1 (spP K dUsed) := by
  refine cal_pure (N := ["number"]) (st := s_used) (k := 0) T.g_used T.f_used sc_used (fun _ _ _ _ _ _ us hl => match us, hl with | [_], _ => rfl) ?_ ?_
  · rintro as r ⟨o, rfl, _⟩; rfl
  · rintro cdv A outer s H E C as r Q ⟨o, rfl, rfl⟩ hq
    cases o with
    | none => exact gs_ret (GV.exp (gv_if (k0 := true) (gt_of (gt_isN (ge_var (x := .non) 0)) rfl) (fun _ => GE.val (ge_tup (ds := []) ga_nil)) fun q => by cases q)) hq
    | some n => exact gs_ret (GV.exp (gv_if (k0 := false) (gt_of (gt_isN (ge_var (x := .int n) 0)) rfl) (fun q => by cases q) fun _ => GE.val (ge_tup (ds := [.tup [.str "part", .int n]]) (gac1 (ge_tup (ds := [.str "part", .int n]) (gac ge_str (gac1 (ge_var 0)))))))) hq
end
end WB
namespace WB
open PySem PySem.Spec PyProof.Rows L2
def fHead : D → D
  | .tup (a :: _) => a
  | d => d
def splD (u y : List Int) : D → D
  | .tup [h, t, c, .tup [.tup w]] => .tup [.tup [ti u, .tup w], .tup [h, t, c, .tup [.tup w]], .tup [.tup (w ++ [t]), ti y]]
  | d => d
theorem splD_gap (u y : List Int) (h t : Int) (w : List Int) : splD u y (gapD h t w) = .tup [.tup [ti u, ti w], gapD h t w, .tup [ti (w ++ [t]), ti y]] := by
  rw [ti_snoc]; rfl
/-- the gaps from a place -/
def gapsAt (rs : List Nat) (m : Nat) (p : Int) : List D := (gapsD rs m).filter fun d => D.eqv (fHead d) (.int p)
theorem gapsAt_mem {rs : List Nat} {m : Nat} {p : Int} {d : D} (h : d ∈ gapsAt rs m p) : d ∈ gapsD rs m := (List.mem_filter.mp h).1
def splitsD (rs : List Nat) (m : Nat) (u : List Int) (p : Int) (y : List Int) : List D := (gapsAt rs m p).flatMap fun d => [splD u y d]
section
variable {P : Program} {w : World} {K : PySem.W.Frag} {mg : Str → Option Value} {base : Heap}
def dSplits (as : List AV) (q : AV) : Prop := ∃ (pre rs : List Nat) (m : Nat) (u v : List Int) (p t : Int), as = [.d (.tup (lockD (pre ++ m :: rs))), .d (rowD (u ++ [p]) (v ++ [t]))] ∧ Ok24 (m :: rs) ∧ u.length = rs.length ∧ u.length ≤ 100 ∧ t ≠ p ∧ q = .own (splitsD rs m u p (v ++ [t]))
theorem sc_splits : FnScope ["lock", "row", "here", "most", "gaps", "gap", "way", "met"] ["lock", "row"] (defScope s_splits) := ⟨rfl, rfl, rfl, by decide +kernel, rfl, by decide +kernel, by decide +kernel⟩
theorem c_splits (T : Tx K mg) : Cal P w K mg base "splits" ["lock", "row"] 3 (spP K dSplits) := by
  refine cal_pure (N := ["lock", "row", "here", "most", "gaps", "gap", "way", "met"]) (st := s_splits) (k := 2) T.g_splits T.f_splits sc_splits (fun _ _ _ _ _ _ us hl => match us, hl with | [_, _], _ => rfl) ?_ ?_
  · rintro as r ⟨pre, rs, m, u, v, p, t, rfl, _⟩; rfl
  · rintro cdv A outer s H E C as r Q ⟨pre, rs, m, u, v, p, t, rfl, ok, hul, hu1, hne, rfl⟩ hq
    have hgl := gapsD_len rs m
    have hm := ok.hd
    refine gs_unp (d := .tup [.int p, .int 1]) C (ge_tup (ds := [.int p, .int 1]) (gac (ge_call (c_first_place T) (C.hr.mono (by decide)) (gac1 (ge_var 1)) ⟨u, v, p, t, rfl, rfl⟩) (gac1 (ge_call (c_ahead_most T) C.hr (gac1 (ge_var 1)) ⟨u, v, p, t, rfl, hne, rfl⟩)))) (tg_tup C (tgs_cons (tg_name C 2) (tgs_cons (tg_name C 3) tgs_nil))) ?_
    refine gs_setLc1 (els := gapsD rs m) C 4 [("gap", 5)] (js := [5]) (fun d Γ => Γ.set 5 (.d d)) (fun d => d) (fun d => D.eqv (fHead d) (.int p)) (gi_tup (ge_ixT (d := .tup (gapsD rs m)) (ge_ixT (d := boltD m rs) (ge_var 0) (ge_sub (ge_lenT (ds := (u ++ [p]).map D.int) (ge_ixT (d := ti (u ++ [p])) (ge_var (x := rowD (u ++ [p]) (v ++ [t])) 1) ge_int) T.z_len) ge_int) ?_) ge_int)) ?_ ?_ ?_ (by omega) ?_ (hsw := sw_true rfl rfl rfl rfl)
    · have e : (((u ++ [p]).map D.int).length : Int) - 1 = ((rs.length : Nat) : Int) := by rw [List.length_map, List.length_append, List.length_singleton, hul]; omega
      rw [e]; exact atI_nat (lock_get _ _ _)
    · intro d hd s H C' cl fp
      exact tg_name C.blk 5
    · intro Hb s0 d hd s H C' cl fp
      obtain ⟨h', t', v', rfl, _⟩ := gapsD_mem ok hd
      exact gt_eq' C.blk (ge_ixT (d := .int h') (ge_var (x := gapD h' t' v') 5) ge_int) (ge_var 2) (sh_of rfl (Nat.zero_le _)) (sh_of rfl (Nat.zero_le _))
    · intro Hb s0 d hd _ s H C' cl fp
      exact ge_var 5
    rw [List.map_id']
    refine gs_freeze (xs := gapsAt rs m p) 4 fun H1 s1 => ?_
    have hl2 : (splitsD rs m u p (v ++ [t])).length < 100000 := by
      have h1 := flat_le (f := fun d => [splD u (v ++ [t]) d]) (fun _ => Nat.le_refl _) (gapsAt rs m p)
      have h2 : (gapsAt rs m p).length ≤ (gapsD rs m).length := List.length_filter_le _ _
      show ((gapsAt rs m p).flatMap fun d => [splD u (v ++ [t]) d]).length < 100000
      omega
    refine gs_retL (xs := splitsD rs m u p (v ++ [t])) (gl_lcI (els := gapsAt rs m p) (js := [5]) (ws := [6, 7]) C [("gap", 5), ("way", 6), ("met", 7)] (fun d Γ => Γ.set 5 (.d d)) (fun d => [splD u (v ++ [t]) d]) (gi_var 4) ?_ ?_ ?_ hl2) (hq.up s1)
    · intro d hd s H C' cl fp
      exact tg_name C.blk 5
    · intro d hd
      exact no_set no_id
    · intro Hb s0 d hd s H C' cl fp
      obtain ⟨h', t', w', rfl, _, hw', _⟩ := gapsD_mem ok (gapsAt_mem hd)
      refine gb_of (gb_mid (els := [ti w']) (js := [6]) (ws := [7]) (outs := fun _ => [splD u (v ++ [t]) (gapD h' t' w')]) (by exact C.hc) rfl [6, 7] (fun d Γ => Γ.set 6 (.d d)) (gi_tup (ge_ixT (d := .tup [ti w']) (ge_var (x := gapD h' t' w') 5) ge_int)) ?_ ?_ ?_) rfl
      · intro d hd
        exact tg_name C.blk 6
      · intro d hd
        exact no_set no_id
      · intro Hb' s2 d hd
        obtain rfl := List.mem_singleton.mp hd
        refine gb_of (gb_last (els := rng 1 1) (js := [7]) (outs := fun _ => splD u (v ++ [t]) (gapD h' t' w')) (by exact C.hc) rfl [7] (fun d Γ => Γ.set 7 (.d d)) (gi_range2 (lo := 1) (hi := 2) ge_int (ge_of (ge_add (i := 1) (j := 1) (ge_var 3) ge_int) rfl) T.z_range (by decide) (by decide) (by decide) (by decide)) ?_ ?_ ?_) rfl
        · intro d hd
          exact tg_name C.blk 7
        · intro d hd
          exact no_set no_id
        · intro Hb3 s3 d hd
          obtain ⟨i, hi, rfl⟩ := rng_mem hd
          have ei : (1 : Int) + (i : Nat) = 1 := by omega
          rw [ei, splD_gap]
          have hwl : w'.length ≤ 100 := by rw [hw'.len, ← hul]; exact hu1
          refine ge_tup (ds := [.tup [ti u, ti w'], gapD h' t' w', .tup [ti (w' ++ [t']), ti (v ++ [t])]]) (gac (ge_cat' (xs := [ti u]) (ys := [ti w']) (ge_call (c_lower T) (C.hr.mono (by decide)) (gac1 (ge_slT (ds := [ti (u ++ [p]), ti (v ++ [t])]) (l := none) (u := some 1) (ge_var (x := rowD (u ++ [p]) (v ++ [t])) 1) gp_none (gp_some (ge_var 7)))) ⟨[(u, p)], rfl, Nat.le_of_ble_eq_true rfl, rfl⟩) (ge_tup (ds := [ti w']) (gac1 (ge_var 6))) (Nat.le_of_ble_eq_true rfl)) (gac (ge_var 5) (gac1 (ge_cat' (xs := [ti (w' ++ [t'])]) (ys := [ti (v ++ [t])]) (ge_tup (ds := [ti (w' ++ [t'])]) (gac1 (ge_of (ge_cat' (xs := w'.map D.int) (ys := [.int t']) (ge_var (x := ti w') 6) (ge_tup (ds := [.int t']) (gac1 (ge_ixT (d := .int t') (ge_var (x := gapD h' t' w') 5) ge_int))) ?_) (ti_snoc _ _).symm))) (ge_slT (ds := [ti (u ++ [p]), ti (v ++ [t])]) (l := some 1) (u := none) (ge_var (x := rowD (u ++ [p]) (v ++ [t])) 1) (gp_some (ge_var 7)) gp_none) (Nat.le_of_ble_eq_true rfl)))))
          rw [List.length_map]; simp; omega
end
end WB
namespace WB
open PySem PySem.Spec PyProof.Rows L2
/-! ### where a word lies on the row -/
def Nn : List Nat → Int
  | [] => 1
  | m :: rs => (m : Int) * Nn rs
def pos : List Nat → List Int → Int
  | [], _ => 0
  | _ :: rs, v => v.getLastD 0 * Nn rs + (if v.getLastD 0 % 2 = 0 then pos rs v.dropLast else Nn rs - 1 - pos rs v.dropLast)
theorem pos_snoc (m : Nat) (rs : List Nat) (u : List Int) (p : Int) : pos (m :: rs) (u ++ [p]) = p * Nn rs + (if p % 2 = 0 then pos rs u else Nn rs - 1 - pos rs u) := by
  show (u ++ [p]).getLastD 0 * Nn rs + (if (u ++ [p]).getLastD 0 % 2 = 0 then pos rs (u ++ [p]).dropLast else Nn rs - 1 - pos rs (u ++ [p]).dropLast) = _
  rw [List.getLastD_concat, List.dropLast_concat]
theorem Nn_pos : ∀ {rs : List Nat}, Ok24 rs → 1 ≤ Nn rs
  | [], _ => Int.le_refl 1
  | m :: rs, h => by
    have h1 := Nn_pos h.tl
    have h2 := h.hd
    show (1 : Int) ≤ (m : Int) * Nn rs
    have : (1 : Int) * 1 ≤ (m : Int) * Nn rs := Int.mul_le_mul (by omega) h1 (by decide) (by omega)
    omega
theorem pos_bd : ∀ {rs : List Nat} {v : List Int}, Ok24 rs → Wd rs v → 0 ≤ pos rs v ∧ pos rs v ≤ Nn rs - 1
  | [], _, _, _ => ⟨Int.le_refl 0, by show (0 : Int) ≤ 1 - 1; decide⟩
  | m :: rs, _, ok, ⟨u, p, e, hu, h0, h1⟩ => by
    subst e
    have hp := pos_bd ok.tl hu
    have hn := Nn_pos ok.tl
    rw [pos_snoc]
    have a1 : 0 ≤ p * Nn rs := Int.mul_nonneg h0 (by omega)
    have a2 : p * Nn rs ≤ ((m : Int) - 1) * Nn rs := Int.mul_le_mul_of_nonneg_right h1 (by omega)
    have a3 : ((m : Int) - 1) * Nn rs = (m : Int) * Nn rs - Nn rs := by rw [Int.sub_mul, Int.one_mul]
    show 0 ≤ p * Nn rs + _ ∧ p * Nn rs + _ ≤ (m : Int) * Nn rs - 1
    split <;> omega
theorem pos_E0 : ∀ rs : List Nat, pos rs (E0 rs) = 0
  | [] => rfl
  | m :: rs => by
    rw [E0_snoc, pos_snoc, Int.zero_mul, if_pos (show (0 : Int) % 2 = 0 from rfl), pos_E0 rs]; rfl
theorem pos_E1 : ∀ {rs : List Nat}, Ok24 rs → pos rs (E1 rs) = Nn rs - 1
  | [], _ => rfl
  | m :: rs, ok => by
    have hm := ok.hd
    rw [E1_snoc, pos_snoc]
    have a3 : ((m : Int) - 1) * Nn rs = (m : Int) * Nn rs - Nn rs := by rw [Int.sub_mul, Int.one_mul]
    show _ = (m : Int) * Nn rs - 1
    rw [a3]
    by_cases h : m % 2 = 0
    · rw [if_pos h, if_neg (by omega), pos_E0]; omega
    · rw [if_neg h, if_pos (by omega), pos_E1 ok.tl]; omega
theorem pos_Wy {rs : List Nat} (ok : Ok24 rs) (j : Nat) : pos rs (Wy rs j) = if j % 2 = 0 then Nn rs - 1 else 0 := by
  unfold Wy
  split
  · exact pos_E1 ok
  · exact pos_E0 rs
/-- both sides of the j-th gap -/
theorem pos_gap {m : Nat} {rs : List Nat} (ok : Ok24 rs) (j : Nat) : pos (m :: rs) (Wy rs j ++ [(j : Int)]) = (j : Int) * Nn rs + Nn rs - 1 ∧ pos (m :: rs) (Wy rs j ++ [(j : Int) + 1]) = (j : Int) * Nn rs + Nn rs := by
  rw [pos_snoc, pos_snoc, pos_Wy ok, Int.add_mul, Int.one_mul]
  by_cases h : j % 2 = 0
  · rw [if_pos h, if_pos (by omega), if_neg (by omega)]
    constructor <;> omega
  · rw [if_neg h, if_neg (by omega), if_pos (by omega)]
    constructor <;> omega
def dst (a b : Int) : Int := if a ≤ b then b - a else a - b
theorem dst_self (a : Int) : dst a a = 0 := by unfold dst; rw [if_pos (Int.le_refl a)]; omega
/-- in one block -/
theorem dst_block {m : Nat} {rs : List Nat} (u v : List Int) (p : Int) : dst (pos (m :: rs) (u ++ [p])) (pos (m :: rs) (v ++ [p])) = dst (pos rs u) (pos rs v) := by
  rw [pos_snoc, pos_snoc]
  unfold dst
  split <;> split <;> split <;> omega
/-! ### values and what is told -/
def exV (rs : List Nat) (x y : List Int) : Int := dst (pos rs x) (pos rs y)
def belowD : D := .tup [.str "below"]
/-- the j-th gap, from h -/
def gapT (rs : List Nat) (h t : Int) : D := .tup [.str "gap", gapD h t (Wy rs (min h t).toNat), ti (Wy rs (min h t).toNat), .int 1]
def toldD : List Nat → List Int → List Int → D
  | [], _, _ => belowD
  | _ :: rs, x, y => if x.getLastD 0 = y.getLastD 0 then belowD else if x.getLastD 0 < y.getLastD 0 then gapT rs (x.getLastD 0) (x.getLastD 0 + 1) else gapT rs (x.getLastD 0) (x.getLastD 0 - 1)
def exC (rs : List Nat) (x y : List Int) : D := .tup [ti [exV rs x y], toldD rs x y]
def noneC : D := .tup [.non, belowD]
/-- the neighbour towards q -/
def stepT (h q : Int) : Int := if h < q then h + 1 else h - 1
def fwdW (rs : List Nat) (h q : Int) : List Int := Wy rs (min h (stepT h q)).toNat ++ [stepT h q]
/-- the gaps of a bolt -/
theorem tiedR_gap : ∀ (ws : List (List Int)) (k : Nat) (d : D), d ∈ tiedR k ws → ∃ (j : Nat) (w : List Int), ws[j]? = some w ∧ (d = gapD ((k + j : Nat) : Int) (((k + j : Nat) : Int) + 1) w ∨ d = gapD (((k + j : Nat) : Int) + 1) ((k + j : Nat) : Int) w)
  | [], _, d, h => by cases h
  | w :: ws, k, d, h => by
    rcases List.mem_cons.mp h with e | h
    · exact ⟨0, w, rfl, .inl e⟩
    · rcases List.mem_cons.mp h with e | h
      · exact ⟨0, w, rfl, .inr e⟩
      · obtain ⟨j, v, h1, h2⟩ := tiedR_gap ws (k + 1) d h
        refine ⟨j + 1, v, h1, ?_⟩
        have e : k + 1 + j = k + (j + 1) := by omega
        rwa [e] at h2
theorem tiedR_has : ∀ (ws : List (List Int)) (k j : Nat) (w : List Int), ws[j]? = some w → gapD ((k + j : Nat) : Int) (((k + j : Nat) : Int) + 1) w ∈ tiedR k ws ∧ gapD (((k + j : Nat) : Int) + 1) ((k + j : Nat) : Int) w ∈ tiedR k ws
  | [], _, _, _, h => by simp at h
  | w :: ws, k, 0, v, h => by
    have e : w = v := Option.some.inj h
    subst e
    exact ⟨List.mem_cons_self, List.mem_cons_of_mem _ List.mem_cons_self⟩
  | w :: ws, k, j + 1, v, h => by
    obtain ⟨h1, h2⟩ := tiedR_has ws (k + 1) j v h
    have e : k + 1 + j = k + (j + 1) := by omega
    rw [e] at h1 h2
    exact ⟨List.mem_cons_of_mem _ (List.mem_cons_of_mem _ h1), List.mem_cons_of_mem _ (List.mem_cons_of_mem _ h2)⟩
theorem waysL_get {rs : List Nat} {n j : Nat} {w : List Int} : (waysL rs n)[j]? = some w ↔ j < n ∧ w = Wy rs j := by
  unfold waysL
  rw [List.getElem?_map]
  by_cases h : j < n
  · rw [List.getElem?_range h]
    constructor
    · intro e; exact ⟨h, (Option.some.inj e).symm⟩
    · rintro ⟨_, rfl⟩; rfl
  · rw [List.getElem?_eq_none (by rw [List.length_range]; omega)]
    constructor
    · intro e; cases e
    · rintro ⟨h2, _⟩; exact absurd h2 h
/-- a gap of the bolt m: its two places lie together, its way is told by the lower -/
theorem gapsD_iff {rs : List Nat} {m : Nat} {d : D} : d ∈ gapsD rs m ↔ ∃ j : Nat, j + 1 < m ∧ (d = gapD (j : Int) ((j : Int) + 1) (Wy rs j) ∨ d = gapD ((j : Int) + 1) (j : Int) (Wy rs j)) := by
  unfold gapsD
  constructor
  · intro h
    obtain ⟨j, w, h1, h2⟩ := tiedR_gap _ _ _ h
    obtain ⟨h3, e⟩ := waysL_get.mp h1
    subst e
    rw [Nat.zero_add] at h2
    exact ⟨j, by omega, h2⟩
  · rintro ⟨j, hj, h⟩
    obtain ⟨h1, h2⟩ := tiedR_has (waysL rs (m - 1)) 0 j (Wy rs j) (waysL_get.mpr ⟨by omega, rfl⟩)
    rw [Nat.zero_add] at h1 h2
    rcases h with e | e <;> rw [e] <;> assumption
theorem min_l (j : Nat) : (min (j : Int) ((j : Int) + 1)).toNat = j := by omega
theorem min_r (j : Nat) : (min ((j : Int) + 1) (j : Int)).toNat = j := by omega
/-- the gaps from place h: to each side one -/
theorem gapsAt_iff {rs : List Nat} {m : Nat} {h : Int} {d : D} (h0 : 0 ≤ h) (h1 : h ≤ (m : Int) - 1) : d ∈ gapsAt rs m h ↔ ∃ t : Int, (t = h + 1 ∨ t = h - 1) ∧ 0 ≤ t ∧ t ≤ (m : Int) - 1 ∧ d = gapD h t (Wy rs (min h t).toNat) := by
  unfold gapsAt
  rw [List.mem_filter, gapsD_iff]
  constructor
  · rintro ⟨⟨j, hj, e⟩, hf⟩
    rcases e with e | e
    · subst e
      have hf' : D.eqv (.int (j : Int)) (.int h) = true := hf
      rw [int_eqv] at hf'
      have eh := of_decide_eq_true hf'
      refine ⟨(j : Int) + 1, .inl (by rw [eh]), by omega, by omega, ?_⟩
      rw [← eh, min_l]
    · subst e
      have hf' : D.eqv (.int ((j : Int) + 1)) (.int h) = true := hf
      rw [int_eqv] at hf'
      have eh := of_decide_eq_true hf'
      refine ⟨(j : Int), .inr (by rw [← eh]; omega), by omega, by omega, ?_⟩
      rw [← eh, min_r]
  · rintro ⟨t, ht, t0, t1, e⟩
    subst e
    have hf : D.eqv (.int h) (.int h) = true := D.eqv_self _
    rcases ht with ht | ht
    · refine ⟨⟨h.toNat, by omega, .inl ?_⟩, hf⟩
      rw [ht]
      have e1 : ((h.toNat : Nat) : Int) = h := by omega
      have e2 : (min h (h + 1)).toNat = h.toNat := by omega
      rw [e1, e2]
    · refine ⟨⟨t.toNat, by omega, .inr ?_⟩, hf⟩
      have e1 : ((t.toNat : Nat) : Int) = t := by omega
      have e2 : (min h t).toNat = t.toNat := by omega
      have e3 : t + 1 = h := by omega
      rw [e1, e2, e3]
/-- positions about a gap from h to t -/
theorem pos_side {m : Nat} {rs : List Nat} (ok : Ok24 rs) {h t : Int} (ht : t = h + 1 ∨ t = h - 1) (h0 : 0 ≤ h) (t0 : 0 ≤ t) :
    (t = h + 1 → pos (m :: rs) (Wy rs (min h t).toNat ++ [h]) = h * Nn rs + Nn rs - 1 ∧ pos (m :: rs) (Wy rs (min h t).toNat ++ [t]) = h * Nn rs + Nn rs) ∧
    (t = h - 1 → pos (m :: rs) (Wy rs (min h t).toNat ++ [h]) = h * Nn rs ∧ pos (m :: rs) (Wy rs (min h t).toNat ++ [t]) = h * Nn rs - 1) := by
  constructor
  · intro e
    have e2 : (min h t).toNat = h.toNat := by omega
    obtain ⟨a, b⟩ := pos_gap (m := m) ok h.toNat
    have e1 : ((h.toNat : Nat) : Int) = h := by omega
    rw [e1] at a b
    rw [e2, e]; exact ⟨a, b⟩
  · intro e
    have e2 : (min h t).toNat = t.toNat := by omega
    obtain ⟨a, b⟩ := pos_gap (m := m) ok t.toNat
    have e1 : ((t.toNat : Nat) : Int) = t := by omega
    rw [e1] at a b
    have e3 : t + 1 = h := by omega
    have e4 : h * Nn rs = t * Nn rs + Nn rs := by rw [← e3, Int.add_mul, Int.one_mul]
    rw [e3] at b
    rw [e2]; exact ⟨by rw [b]; omega, by rw [a]; omega⟩
theorem gap_val {m : Nat} {rs : List Nat} (ok : Ok24 (m :: rs)) {u v : List Int} {h q t : Int} (hu : Wd (m :: rs) (u ++ [h])) (hv : Wd (m :: rs) (v ++ [q])) (hne : q ≠ h) (ht : t = h + 1 ∨ t = h - 1) (t0 : 0 ≤ t) :
    (t = stepT h q → dst (pos rs u) (pos rs (Wy rs (min h t).toNat)) + 1 + exV (m :: rs) (Wy rs (min h t).toNat ++ [t]) (v ++ [q]) = exV (m :: rs) (u ++ [h]) (v ++ [q])) ∧
    (t ≠ stepT h q → exV (m :: rs) (u ++ [h]) (v ++ [q]) < dst (pos rs u) (pos rs (Wy rs (min h t).toNat)) + 1 + exV (m :: rs) (Wy rs (min h t).toNat ++ [t]) (v ++ [q])) := by
  obtain ⟨u', h', eu, wu, h0, h1⟩ := hu
  obtain ⟨v', q', ev, wv, q0, q1⟩ := hv
  obtain ⟨rfl, eh⟩ := List.append_inj' eu rfl
  obtain ⟨rfl, eq⟩ := List.append_inj' ev rfl
  have eh : h = h' := by injection eh
  have eq : q = q' := by injection eq
  subst eh; subst eq
  have bu := pos_bd ok.tl wu
  have bv := pos_bd ok.tl wv
  have hn := Nn_pos ok.tl
  obtain ⟨sA, sB⟩ := pos_side (m := m) ok.tl ht h0 t0
  rw [← dst_block (m := m) u (Wy rs (min h t).toNat) h]
  unfold exV
  have px : pos (m :: rs) (u ++ [h]) = h * Nn rs + (if h % 2 = 0 then pos rs u else Nn rs - 1 - pos rs u) := pos_snoc m rs u h
  have py : pos (m :: rs) (v ++ [q]) = q * Nn rs + (if q % 2 = 0 then pos rs v else Nn rs - 1 - pos rs v) := pos_snoc m rs v q
  have ax : h * Nn rs ≤ pos (m :: rs) (u ++ [h]) ∧ pos (m :: rs) (u ++ [h]) ≤ h * Nn rs + Nn rs - 1 := by rw [px]; split <;> omega
  have ay : q * Nn rs ≤ pos (m :: rs) (v ++ [q]) ∧ pos (m :: rs) (v ++ [q]) ≤ q * Nn rs + Nn rs - 1 := by rw [py]; split <;> omega
  generalize pos (m :: rs) (u ++ [h]) = xx at ax
  generalize pos (m :: rs) (v ++ [q]) = yy at ay
  generalize pos (m :: rs) (Wy rs (min h t).toNat ++ [h]) = aa at sA sB
  generalize pos (m :: rs) (Wy rs (min h t).toNat ++ [t]) = bb at sA sB
  unfold stepT
  by_cases hq : h < q
  · have k1 : (h + 1) * Nn rs ≤ q * Nn rs := Int.mul_le_mul_of_nonneg_right (by omega) (by omega)
    rw [Int.add_mul, Int.one_mul] at k1
    rw [if_pos hq]
    rcases ht with ht | ht
    · obtain ⟨e1, e2⟩ := sA ht
      subst e1; subst e2
      refine ⟨fun _ => ?_, fun z => absurd ht z⟩
      unfold dst
      rw [if_pos (by omega), if_pos (by omega), if_pos (by omega)]; omega
    · obtain ⟨e1, e2⟩ := sB ht
      subst e1; subst e2
      refine ⟨fun z => by omega, fun _ => ?_⟩
      unfold dst
      rw [if_pos (by omega : _ ≤ yy)]
      split <;> split <;> omega
  · have k1 : q * Nn rs ≤ (h - 1) * Nn rs := Int.mul_le_mul_of_nonneg_right (by omega) (by omega)
    rw [Int.sub_mul, Int.one_mul] at k1
    rw [if_neg hq]
    rcases ht with ht | ht
    · obtain ⟨e1, e2⟩ := sA ht
      subst e1; subst e2
      refine ⟨fun z => by omega, fun _ => ?_⟩
      unfold dst
      split <;> split <;> split <;> omega
    · obtain ⟨e1, e2⟩ := sB ht
      subst e1; subst e2
      refine ⟨fun _ => ?_, fun z => absurd ht z⟩
      unfold dst
      split <;> split <;> split <;> omega
/-- in one block the value is that of the lower row -/
theorem exV_still (m : Nat) (rs : List Nat) (u v : List Int) (p : Int) : exV (m :: rs) (u ++ [p]) (v ++ [p]) = exV rs u v := dst_block u v p
theorem told_snoc (m : Nat) (rs : List Nat) (u v : List Int) (h q : Int) : toldD (m :: rs) (u ++ [h]) (v ++ [q]) = if h = q then belowD else gapT rs h (stepT h q) := by
  show (if (u ++ [h]).getLastD 0 = (v ++ [q]).getLastD 0 then belowD else if (u ++ [h]).getLastD 0 < (v ++ [q]).getLastD 0 then gapT rs ((u ++ [h]).getLastD 0) ((u ++ [h]).getLastD 0 + 1) else gapT rs ((u ++ [h]).getLastD 0) ((u ++ [h]).getLastD 0 - 1)) = _
  rw [List.getLastD_concat, List.getLastD_concat]
  unfold stepT
  by_cases h1 : h = q
  · rw [if_pos h1, if_pos h1]
  · rw [if_neg h1, if_neg h1]
    by_cases h2 : h < q
    · rw [if_pos h2, if_pos h2]
    · rw [if_neg h2, if_neg h2]
end WB
namespace WB
open PySem PySem.Spec PyProof.Rows L2
/-! ### the ground changes -/
/-- what goes over to a new ground -/
def Tra (Z : Addr → Prop) (H G1 G2 : Hp) : Prop := ∀ a o, G1 a = some o → ((∀ vs, o ≠ .lst vs) ∨ Z a ∨ H a = none) → G2 a = some o
theorem Tra.tps {K : PySem.W.Frag} {Z : Addr → Prop} {H G1 G2 : Hp} (t : Tra Z H G1 G2) : Tps K G1 G2 := fun a xs h => by
  rcases h with (h | ⟨o, h⟩) | h
  · exact .inl (.inl (t a _ h (.inl fun _ q => by cases q)))
  · exact .inl (.inr ⟨o, t a _ h (.inl fun _ q => by cases q)⟩)
  · exact .inr h
theorem Tra.of {Z : Addr → Prop} {H G1 G2 : Hp} (s : Same G1 G2) : Tra Z H G1 G2 := fun a o e _ => s a o e
section
variable {K : PySem.W.Frag} {G H H' : Hp} {σ : L2.St} {Γ : List AV} {Z : Addr → Prop}
theorem Fm.region (F : Fm K G σ Γ H) (hZ : ∀ a, Z a → (∃ o, G a = some o ∧ (∀ xs, o ≠ .tup xs) ∧ ∀ ob u, o ≠ .frz ob u) ∧ ∀ (i : Nat) (xs : List D), Γ[i]? = some (.bw xs) → σ[i]? ≠ some (some (.ref a))) (hk : Core Z H H') :
    ∃ G', Core Z G G' ∧ Same G' H' ∧ Fm K G' σ Γ H' ∧ ∀ G1, Core Z H G1 → Same G1 H' → Tra Z H G1 G' := by
  classical
  have own_ne : ∀ a, ownAt σ Γ a → ¬ Z a := fun a ⟨i, xs, h1, h2⟩ hz => by
    obtain ⟨l, vs, e1, e0, e2, _⟩ := F.own h1
    rw [h2] at e1
    have el : a = l := by injection (Option.some.inj (Option.some.inj e1))
    obtain ⟨⟨o, q, _⟩, _⟩ := hZ a hz
    rw [el, e0] at q; cases q
  have own_at : ∀ a, ownAt σ Γ a → ∃ vs, H a = some (.lst vs) := fun a ⟨i, xs, h1, h2⟩ => by
    obtain ⟨l, vs, e1, e0, e2, _⟩ := F.own h1
    rw [h2] at e1
    have el : a = l := by injection (Option.some.inj (Option.some.inj e1))
    exact ⟨vs, by rw [el]; exact e2⟩
  have ts : Tps K H H' := fun a xs h => by
    rcases h with (h | ⟨o, h⟩) | h
    · refine .inl (.inl (hk a _ h fun z => ?_))
      obtain ⟨⟨o, q, n1, _⟩, _⟩ := hZ a z
      have := F.ex a o q
      rw [h] at this
      exact n1 xs (Option.some.inj this).symm
    · refine .inl (.inr ⟨o, hk a _ h fun z => ?_⟩)
      obtain ⟨⟨o', q, _, n2⟩, _⟩ := hZ a z
      have := F.ex a o' q
      rw [h] at this
      exact n2 o _ (Option.some.inj this).symm
    · exact .inr h
  let G' : Hp := fun a => if ownAt σ Γ a then none else H' a
  have gs : Same G' H' := fun a o e => by
    have e' : (if ownAt σ Γ a then none else H' a) = some o := e
    split at e'
    · cases e'
    · exact e'
  have core : Core Z G G' := fun a o e n => by
    have no : ¬ ownAt σ Γ a := fun ⟨i, xs, h1, h2⟩ => by
      obtain ⟨l, vs, e1, e0, _, _⟩ := F.own h1
      rw [h2] at e1
      have el : a = l := by injection (Option.some.inj (Option.some.inj e1))
      rw [el, e0] at e; cases e
    show (if ownAt σ Γ a then none else H' a) = some o
    rw [if_neg no]; exact hk a o (F.ex a o e) n
  refine ⟨G', core, gs, ⟨gs, F.len, fun i a hi => ?_, F.dis⟩, fun G1 c1 s1 a o e q => ?_⟩
  · obtain ⟨o, e1, e2⟩ := F.at_ i a hi
    refine ⟨o, e1, ?_⟩
    cases a with
    | no => trivial
    | d x => obtain ⟨v, r1, r2⟩ := e2; exact ⟨v, r1, r2.mono ts⟩
    | bw xs =>
      obtain ⟨l, vs, r1, r2, r3⟩ := e2
      refine ⟨l, vs, r1, ?_, r3.mono ts⟩
      have nz : ¬ Z l := fun z => (hZ l z).2 i xs hi (by rw [e1, r1])
      rcases r2 with (r2 | ⟨o', r2⟩) | r2
      · exact .inl (.inl (core l _ r2 nz))
      · exact .inl (.inr ⟨o', core l _ r2 nz⟩)
      · exact .inr r2
    | own xs =>
      obtain ⟨l, vs, r1, r2, r3, r4⟩ := e2
      have ow : ownAt σ Γ l := ⟨i, xs, hi, by rw [e1, r1]⟩
      exact ⟨l, vs, r1, if_pos ow, hk l _ r3 (own_ne l ow), r4.mono ts⟩
    | v x => exact e2
  · have no : ¬ ownAt σ Γ a := fun ow => by
      obtain ⟨vs, hv⟩ := own_at a ow
      rcases q with q | q | q
      · have := c1 a _ hv (own_ne a ow)
        rw [e] at this
        exact q vs (Option.some.inj this)
      · exact own_ne a ow q
      · rw [hv] at q; cases q
    show (if ownAt σ Γ a then none else H' a) = some o
    rw [if_neg no]; exact s1 a o e
/-- all but one's own lists is ground -/
theorem Fm.full (F : Fm K G σ Γ H) : ∃ G', Same G G' ∧ Same G' H ∧ Fm K G' σ Γ H ∧ (∀ a o, H a = some o → ¬ ownAt σ Γ a → G' a = some o) ∧ Tps K H G' := by
  obtain ⟨G', s0, s1, F', hall, _, _⟩ := F.rebase
  exact ⟨G', s0, s1, F', hall, F.exOwn.baseTup (Same.refl H) hall⟩
end
/-- the value of an expression, with the ground after it -/
def GY (X : Cx) (G : Hp) (Γ : List AV) (e : Expr) (Ψ : V → Hp → Prop) : Prop := ∀ (σ : L2.St) (H : Hp) (Q : VK), Fm X.K G σ Γ H → (∀ v H' G', Ψ v G' → Fm X.K G' σ Γ H' → Q v H') → ER X e σ H Q
section
variable {X : Cx} {G H0 : Hp} {Γ : List AV} {a b c e i : Expr} {es : List Expr} {pos p1 p2 np : Pos} {x y z d : D} {ds xs ys : List D} {n f : Str} {k : Nat} {sts : List Stmt} {E : Ends} {Ψ Φ : V → Hp → Prop} {Z : Addr → Prop}
theorem GY.imp (h : GY X G Γ e Ψ) (hi : ∀ v G', Ψ v G' → Φ v G') : GY X G Γ e Φ := fun σ H Q F k => h σ H Q F fun v H' G' q F' => k v H' G' (hi v G' q) F'
theorem gy_of (h : GE X G Γ e d) : GY X G Γ e (fun v G' => Same G G' ∧ Rp X.K G' d v) := fun σ H Q F k => h σ H Q F fun v H1 e1 r1 => by
  obtain ⟨G', s0, s1, F', _, ts⟩ := (F.same e1).full
  exact k v H1 G' ⟨s0, r1.mono ts⟩ F'
theorem gy_v {x : V} (h : GV X G Γ e (.v x)) : GY X G Γ e (fun v G' => Same G G' ∧ v = x) := fun σ H Q F k => h σ H Q F fun v H1 e1 r1 => k v H1 G ⟨Same.refl G, r1⟩ (F.same e1)
/-- a new list, laid to the ground -/
theorem gy_list (h : GL X G Γ e xs) : GY X G Γ e (fun v G' => ∃ l vs, v = .ref l ∧ G l = none ∧ Same G G' ∧ G' l = some (.lst vs) ∧ RpAll X.K G' xs vs) := fun σ H Q F k => h σ H Q F fun l vs H1 hl e1 h1 r1 => by
  obtain ⟨G', s0, s1, F', hall, ts⟩ := (F.same e1).full
  refine k _ H1 G' ⟨l, vs, rfl, F.ex.free hl, s0, hall l _ h1 ?_, r1.mono ts⟩ F'
  exact fun ⟨j, zs, h3, h4⟩ => F.own_ne hl j zs h3 h4
/-- {} -/
def tDNewN (P : Program) (w : World) (K : PySem.W.Frag) : TE := fun _ H Q => ∀ p, H p = none → K.lookup p = none → Q (.ref p) (upd H p (DicO P w p []))
theorem pe_dnewN : PE X (.Dict [] [] pos) (tDNewN X.prog X.w X.K) := ⟨fun pins s σ H Q I h => by
  refine wpAny_Dict_empty ?_
  have hd : (s.heap.objs.size == sysModules) = false := by
    obtain ⟨_, q, _⟩ : ObjOk X.prog X.w H _ _ (.dK []) := dk_empty s.heap I.big
    exact q
  have nk : X.K.lookup s.heap.objs.size = none := by
    cases q : X.K.lookup s.heap.objs.size with
    | none => rfl
    | some ob => exact absurd (Heap.lt_size (I.kIn _ _ q)) (Nat.lt_irrefl _)
  have new : ObjOk X.prog X.w (upd H s.heap.objs.size (DicO X.prog X.w s.heap.objs.size [])) (s.heap.push { cls := .type "dict", data := .dict #[] }) s.heap.objs.size (DicO X.prog X.w s.heap.objs.size []) :=
    dicO_ok (Nat.zero_le _) hd List.Pairwise.nil .nil (Heap.get?_push_size _ rfl) ⟨rfl, rfl, rfl⟩ rfl rfl
  exact ⟨.ref s.heap.objs.size, _, I.laid (a := s.heap.objs.size) (t' := s.toks) (fun _ _ q => Heap.get?_push_of_some _ q) (Nat.le_refl _) new, rfl, h _ (I.hok.fresh (Nat.le_refl _)) nk⟩⟩
theorem gy_new : GY X G Γ (.Dict [] [] pos) (fun v G' => ∃ p, v = .ref p ∧ G p = none ∧ Same G G' ∧ Dic X.prog X.w X.K G' p []) := fun σ H Q F k => by
  refine er_of pe_dnewN fun p hp hk => ?_
  have e1 : Same H (upd H p (DicO X.prog X.w p [])) := fun b o q => by rw [upd_ne (ne_of_none q hp)]; exact q
  obtain ⟨G', s0, s1, F', hall, ts⟩ := (F.same e1).full
  refine k _ _ G' ⟨p, rfl, F.ex.free hp, s0, hk, [], hall p _ upd_same ?_, rfl⟩ F'
  exact fun ⟨j, zs, h3, h4⟩ => F.own_ne hp j zs h3 h4
/-! ### attributes -/
theorem gv_fld {o : Expr} {A C dx : Addr} {fs : List (Str × V)} {v : V} (ho : GV X G Γ o (.v (.ref A))) (hG : G A = some (.ins C dx fs)) (c : Cls X.K C) (hn : NoAttr X.K C f) (l : fs.lookup f = some v) (hb : attributeBase o f X.env (eval o X.env) = eval o X.env := by rfl) : GV X G Γ (.Attribute o f pos) (.v v) := fun σ H Q F k => by
  refine er_of (pe_fld pe_self hb) ?_
  refine ho σ H _ F fun x H1 e1 r1 => ?_
  exact ⟨A, C, dx, fs, v, r1, e1 _ _ (F.ex _ _ hG), c, hn, l, k v H1 e1 rfl⟩
theorem ge_fld {o : Expr} {A C dx : Addr} {fs : List (Str × V)} {v : V} (ho : GV X G Γ o (.v (.ref A))) (hG : G A = some (.ins C dx fs)) (c : Cls X.K C) (hn : NoAttr X.K C f) (l : fs.lookup f = some v) (hr : Rp X.K G d v) (hb : attributeBase o f X.env (eval o X.env) = eval o X.env := by rfl) : GE X G Γ (.Attribute o f pos) d := fun σ H Q F k => by
  refine gv_fld ho hG c hn l hb σ H Q F fun x H1 e1 r1 => ?_
  have e : x = v := r1
  subst e
  exact k x H1 e1 (hr.mono (Same.tup (F.ex.trans e1)))
/-! ### dicts -/
theorem Dic.mono {P : Program} {w : World} {K : PySem.W.Frag} {G1 G2 : Hp} {dd : Addr} {m : List (D × D)} (h : Dic P w K G1 dd m) (s : Same G1 G2) : Dic P w K G2 dd m := by
  obtain ⟨n, xs, e, r⟩ := h
  exact ⟨n, xs, s _ _ e, r.mono (Same.tup s)⟩
theorem Dic.tra {P : Program} {w : World} {K : PySem.W.Frag} {H G1 G2 : Hp} {dd : Addr} {m : List (D × D)} (h : Dic P w K G1 dd m) (t : Tra Z H G1 G2) : Dic P w K G2 dd m := by
  obtain ⟨n, xs, e, r⟩ := h
  exact ⟨n, xs, t _ _ e (.inl fun _ q => by cases q), r.mono t.tps⟩
theorem rp_ref {K : PySem.W.Frag} {H : Hp} {ks : List D} {v : V} (h : Rp K H (.tup ks) v) : ∃ b, v = .ref b := by
  obtain ⟨b, _, e, _⟩ := h
  exact ⟨b, e⟩
theorem room_nest (C : Cok X k) : (nestedKind X.prog X.w).room X.A.in1 := by
  have := C.hu
  show X.A.in1.units + 8 < cLine
  rw [Around.in1_units]; omega
theorem ge_dget (C : Cok X k) {o : Expr} {dd : Addr} {m : List (D × D)} {ks : List D} (ho : GV X G Γ o (.v (.ref dd))) (hi : GE X G Γ i (.tup ks)) (hm : Dic X.prog X.w X.K G dd m) (hv : dget m (.tup ks) = some d) (hk : (D.tup ks).key.depth ≤ 8) (hs : NoSl i := by exact fun _ _ => rfl) : GE X G Γ (.Subscript o i pos) d := fun σ H Q F kq => fun pins s I => by
  refine subD_of PySem.F.slot_dict_getitem.lookup hs ?_
  refine ho σ H (fun x H1 => Same H H1 ∧ x = .ref dd ∧ ER X i σ H1 fun y H2 => Same H H2 ∧ Rp X.K H2 (.tup ks) y) F (fun x H1 e1 r1 => ⟨e1, r1, hi σ H1 _ (F.same e1) fun y H2 e2 r2 => ⟨e1.trans e2, r2⟩⟩) pins s I |> fun t => thn t fun u s1 ⟨x, H1, I1, rx, e1, ex, t2⟩ => thn (t2 pins s1 I1) fun iv s2 ⟨y, H2, I2, ry, e2, r2⟩ => ?_
  subst ex
  obtain rfl : u = Value.ref dd := rx
  obtain ⟨b, eb⟩ := rp_ref r2
  subst eb
  obtain rfl : iv = Value.ref b := ry
  obtain ⟨_, xs, h1, h2⟩ := hm.mono (F.ex.trans e2)
  obtain ⟨_, _, _, ys, r, hdic⟩ := dic_at I2 h1 h2.kall
  refine ⟨hdic.typeIs, ?_⟩
  rcases dget_at (.tup ks) h2 r with ⟨g1, _⟩ | ⟨v, xv, uv, ba, g1, g2, g3, g4⟩
  · rw [hv] at g1; cases g1
  · rw [hv] at g1; cases g1
    exact wpAny_getItem_heap (room_nest C) (key_is I2 r2 hk) hdic g2 ⟨xv, H2, I2.tok _, g4, kq xv H2 e2 g3⟩
def rDIn (P : Program) (w : World) (K : PySem.W.Frag) (neg : Bool) : R2 := fun x y H Q => ∃ (ks : List D) (dd : Addr) (m : List (D × D)), Rp K H (.tup ks) x ∧ y = .ref dd ∧ Dic P w K H dd m ∧ (D.tup ks).key.depth ≤ 8 ∧ Q (.bl (if neg then !(dget m (.tup ks)).isSome else (dget m (.tup ks)).isSome)) H
theorem op_dIn (hu : (nestedKind X.prog X.w).room X.A.in1) : OpR X (compareOp .In) (rDIn X.prog X.w X.K false) := by
  intro pins s σ H x y v u Q I rx ry h
  obtain ⟨ks, dd, m, h1, rfl, ⟨_, xs, h2, h3⟩, hk, q⟩ := h
  obtain ⟨b, eb⟩ := rp_ref h1
  subst eb
  obtain rfl : v = Value.ref b := rx
  obtain rfl : u = Value.ref dd := ry
  obtain ⟨hd, _, _, ys, r, hdic⟩ := dic_at I h2 h3.kall
  have hq : (atKey ys (D.tup ks).key).isSome = (dget m (.tup ks)).isSome := by
    rcases dget_at (.tup ks) h3 r with ⟨g1, g2⟩ | ⟨v, xv, uv, ba, g1, g2, _⟩ <;> rw [g1, g2] <;> rfl
  refine wpAny_in_heap hu (key_is I h1 hk) hd hdic ?_
  rw [hq]
  exact ⟨.bl _, H, I.tok _, rfl, q⟩
theorem op_dNotIn (hu : (nestedKind X.prog X.w).room X.A.in1) : OpR X (compareOp .NotIn) (rDIn X.prog X.w X.K true) := by
  intro pins s σ H x y v u Q I rx ry h
  obtain ⟨ks, dd, m, h1, rfl, ⟨_, xs, h2, h3⟩, hk, q⟩ := h
  obtain ⟨b, eb⟩ := rp_ref h1
  subst eb
  obtain rfl : v = Value.ref b := rx
  obtain rfl : u = Value.ref dd := ry
  obtain ⟨hd, _, _, ys, r, hdic⟩ := dic_at I h2 h3.kall
  have hq : (atKey ys (D.tup ks).key).isSome = (dget m (.tup ks)).isSome := by
    rcases dget_at (.tup ks) h3 r with ⟨g1, g2⟩ | ⟨v, xv, uv, ba, g1, g2, _⟩ <;> rw [g1, g2] <;> rfl
  refine wpAny_notIn_heap hu (key_is I h1 hk) hd hdic ?_
  rw [hq]
  exact ⟨.bl _, H, I.tok _, rfl, q⟩
theorem gt_din (C : Cok X k) {dd : Addr} {m : List (D × D)} {ks : List D} (ha : GE X G Γ a (.tup ks)) (hb : GV X G Γ b (.v (.ref dd))) (hm : Dic X.prog X.w X.K G dd m) (hk : (D.tup ks).key.depth ≤ 8) (hmk : behindInMarks .In b = false := by first | exact nomark _ | rfl) : GT X G Γ (.Compare a [.In] [b] pos) (dget m (.tup ks)).isSome := fun σ H Q F kq => by
  refine tr_of (pt_cmpR (op_dIn (room_nest C)) pe_self pe_self hmk) ?_
  refine ha σ H _ F fun v H1 e1 r1 => ?_
  refine hb σ H1 _ (F.same e1) fun u H2 e2 r2 => ?_
  exact ⟨ks, dd, m, r1.mono (Same.tup e2), r2, hm.mono (F.ex.trans (e1.trans e2)), hk, _, rfl, kq H2 (e1.trans e2)⟩
theorem gt_dnin (C : Cok X k) {dd : Addr} {m : List (D × D)} {ks : List D} (ha : GE X G Γ a (.tup ks)) (hb : GV X G Γ b (.v (.ref dd))) (hm : Dic X.prog X.w X.K G dd m) (hk : (D.tup ks).key.depth ≤ 8) (hmk : behindInMarks .NotIn b = false := by first | exact nomark _ | rfl) : GT X G Γ (.Compare a [.NotIn] [b] pos) (!(dget m (.tup ks)).isSome) := fun σ H Q F kq => by
  refine tr_of (pt_cmpR (op_dNotIn (room_nest C)) pe_self pe_self hmk) ?_
  refine ha σ H _ F fun v H1 e1 r1 => ?_
  refine hb σ H1 _ (F.same e1) fun u H2 e2 r2 => ?_
  exact ⟨ks, dd, m, r1.mono (Same.tup e2), r2, hm.mono (F.ex.trans (e1.trans e2)), hk, _, rfl, kq H2 (e1.trans e2)⟩
end
end WB
namespace WB
open PySem PySem.Spec PyProof.Rows L2
/-- Z: things of one's own telling that the module does not hold -/
def ZExt (K : PySem.W.Frag) (G : Hp) (Z : Addr → Prop) : Prop := ∀ a, Z a → (∃ φ, G a = some (.ext φ)) ∧ K.lookup a = none
theorem ZExt.ok {K : PySem.W.Frag} {G H : Hp} {σ : L2.St} {Γ : List AV} {Z : Addr → Prop} (z : ZExt K G Z) (F : Fm K G σ Γ H) : ∀ a, Z a → (∃ o, G a = some o ∧ (∀ xs, o ≠ .tup xs) ∧ ∀ ob u, o ≠ .frz ob u) ∧ ∀ (i : Nat) (xs : List D), Γ[i]? = some (.bw xs) → σ[i]? ≠ some (some (.ref a)) := fun a h => by
  obtain ⟨⟨φ, e⟩, hk⟩ := z a h
  refine ⟨⟨_, e, fun _ q => (by cases q), fun _ _ q => (by cases q)⟩, fun i xs hi hs => ?_⟩
  obtain ⟨l, vs, e1, s, _⟩ := F.bw hi
  rw [hs] at e1
  have el : a = l := by injection (Option.some.inj (Option.some.inj e1))
  subst el
  rcases s with (s | ⟨o, s⟩) | ⟨o, its, n, q, _⟩
  · rw [e] at s; cases s
  · rw [e] at s; cases s
  · rw [hk] at q; cases q
def ZNb (G : Hp) (Z : Addr → Prop) : Prop := ∀ a, Z a → ∃ o, G a = some o ∧ (∀ xs, o ≠ .tup xs) ∧ ∀ ob u, o ≠ .frz ob u
theorem ZNb.ok {K : PySem.W.Frag} {G H : Hp} {σ : L2.St} {Γ : List AV} {Z : Addr → Prop} (z : ZNb G Z) (nb : noBw Γ = true) (F : Fm K G σ Γ H) : ∀ a, Z a → (∃ o, G a = some o ∧ (∀ xs, o ≠ .tup xs) ∧ ∀ ob u, o ≠ .frz ob u) ∧ ∀ (i : Nat) (xs : List D), Γ[i]? = some (.bw xs) → σ[i]? ≠ some (some (.ref a)) := fun a h =>
  ⟨z a h, fun i xs hi => absurd hi (noBw_get nb)⟩
section
variable {X : Cx} {G H0 : Hp} {Γ : List AV} {a b c e i : Expr} {es : List Expr} {pos p1 p2 p3 np : Pos} {x y z d : D} {ds xs ys : List D} {n f : Str} {k : Nat} {sts : List Stmt} {E : Ends} {Ψ Φ : V → Hp → Prop} {Z : Addr → Prop}
theorem zok_ext (h : ZExt X.K G Z) : ZOk X G Γ Z := fun σ H F => h.ok F
theorem zok_nb (h : ZNb G Z) (nb : noBw Γ = true) : ZOk X G Γ Z := fun σ H F => h.ok nb F
/-! ### stores of what an expression gives -/
def GOk (K : PySem.W.Frag) (G : Hp) : AV → V → Prop
  | .no, _ => True
  | .d x, v => Rp K G x v
  | .bw xs, v => ∃ l vs, v = .ref l ∧ SqL K G l vs ∧ RpAll K G xs vs
  | .own _, _ => False
  | .v x, v => v = x
theorem Fm.setG {K : PySem.W.Frag} {H : Hp} {σ : L2.St} {av : AV} {v : V} (F : Fm K G σ Γ H) {i : Nat} (h : GOk K G av v) : Fm K G (σ.set i (some v)) (Γ.set i av) H := by
  cases av with
  | no => exact F.set_no
  | d x => exact F.set_d (Rp.mono (Same.tup F.ex) h)
  | bw xs =>
    obtain ⟨l, vs, e, s, r⟩ := h
    exact F.set ⟨l, vs, by rw [e], s, r.mono (Same.tup F.ex)⟩ fun _ _ q => by cases q
  | own xs => exact h.elim
  | v x =>
    have e : v = x := h
    subst e
    exact F.set_v
theorem gs_setY (C : Cok X k) (i : Nat) (he : GY X G Γ e Ψ) (h : ∀ v G', Ψ v G' → ∃ av, GOk X.K G' av v ∧ GS X G' (Γ.set i av) sts E) (hi : X.N[i]? = some n := by rfl) (hx : Loc X.env.scope n := by first | exact Or.inl rfl | exact Or.inr rfl) (hs : swapsWith e (some (.Name n p1)) pos.line X.env = pure false := by rfl)
    (hf : X.fn n = true ∨ X.env.scope.names.lookup n = some .local := by first | exact .inl rfl | exact .inr rfl) : GS X G Γ (.Assign [.Name n p1] e pos :: sts) E := fun σ H F => by
  refine sr_cons (s1_of (ps_set C.nd hi hx pe_self hs hf) ?_)
  refine he σ H _ F fun v H1 G' q F' => ?_
  obtain ⟨av, g, hg⟩ := h v G' q
  exact hg _ _ (F'.setG g)
theorem gs_exprY (he : GY X G Γ e Ψ) (h : ∀ v G', Ψ v G' → GS X G' Γ sts E) (hs : swapsWith e none pos.line X.env = pure false := by rfl) : GS X G Γ (.Expr e pos :: sts) E := fun σ H F => by
  refine sr_cons (s1_of (ps_expr pe_self hs) ?_)
  exact he σ H _ F fun v H1 G' q F' => h v G' q σ H1 F'
theorem gs_retY (he : GY X G Γ e Ψ) (h : ∀ v G' H', Ψ v G' → Same G' H' → E.rt v H') : GS X G Γ (.Return (some e) pos :: sts) E := fun σ H F => by
  refine sr_cons (s1_of (ps_ret pe_self) ?_)
  exact he σ H _ F fun v H1 G' q F' => h v G' H1 q F'.ex
/-- o.f = e -/
theorem gs_fldY (C : Cok X k) {o : Expr} (he : GY X G Γ e Ψ) (h : ∀ v G', Ψ v G' → ∃ A C dx fs, GV X G' Γ o (.v (.ref A)) ∧ G' A = some (.ins C dx fs) ∧ Cls X.K C ∧ NoAttr X.K C f ∧ fs.length < 1000 ∧ noBw Γ = true ∧ ∀ G2, Core (fun x => x = A) G' G2 → G2 A = some (.ins C dx (putF f v fs)) → GS X G2 Γ sts E)
    (hs : swapsWith e (some (.Attribute o f p1)) pos.line X.env = pure false := by rfl) : GS X G Γ (.Assign [.Attribute o f p1] e pos :: sts) E := fun σ H F => by
  refine sr_cons (s1_of (ps_fld pe_self pe_self hs) ?_)
  refine he σ H _ F fun v H1 G' q F' => ?_
  obtain ⟨A, Cc, dx, fs, ho, hG, c, hn, hl, nb, hgs⟩ := h v G' q
  refine ho σ H1 _ F' fun w H2 e2 r2 => ?_
  have hA2 := e2 _ _ (F'.ex _ _ hG)
  refine ⟨A, Cc, dx, fs, r2, hA2, c, hn, hl, ?_⟩
  have hz : ZNb G' (fun x => x = A) := fun x hx => by subst hx; exact ⟨_, hG, fun _ q => (by cases q), fun _ _ q => (by cases q)⟩
  obtain ⟨G2, c1, s1, F2, tr⟩ := (F'.same e2).region (H' := upd H2 A (.ins Cc dx (putF f v fs))) (hz.ok nb (F'.same e2)) fun x o q hn => by rw [upd_ne hn]; exact q
  have tr1 := tr (upd H2 A (.ins Cc dx (putF f v fs))) (fun x o q hn => by rw [upd_ne hn]; exact q) (Same.refl _)
  exact hgs G2 c1 (tr1 A _ upd_same (.inl fun _ q => by cases q)) σ _ F2
/-! ### d[k] = e -/
def rSetN (P : Program) (w : World) (K : PySem.W.Frag) : TSet := fun o i v H Q => ∃ (dd : Addr) (xs : List XE) (b : Addr) (kd : D), o = .ref dd ∧ i = .ref b ∧ H dd = some (DicO P w dd xs) ∧ xs.length < 1000000 ∧ KAll K H xs ∧ Rp K H kd (.ref b) ∧ kd.key.depth ≤ 8 ∧ Q (upd H dd (DicO P w dd (putX xs kd.key b v)))
theorem set_dicN (hu : (nestedKind X.prog X.w).room X.A.in1) : PSet X (rSetN X.prog X.w X.K) := by
  intro pins s σ H o i v ov iv u Q I ro ri rv h
  obtain ⟨dd, xs, b, kd, eo, ei, hd, hl, ka, hk, hdep, q⟩ := h
  subst eo; subst ei
  obtain rfl : ov = Value.ref dd := ro
  obtain rfl : iv = Value.ref b := ri
  obtain ⟨hs, hz, hn, ys, r, hdic⟩ := dic_at I hd ka
  refine wpAny_setItem_heap (hsz := by rw [← Paired.length r]; exact Nat.le_trans (Nat.le_of_lt hl) (by decide)) hu (key_is I hk hdep) hdic fun h' dd' sb => ?_
  obtain ⟨o2, es, ep, q1, q2, q3, q4, _, _⟩ := dd'
  have new : ObjOk X.prog X.w (upd H dd (DicO X.prog X.w dd (putX xs kd.key b v))) h' dd (DicO X.prog X.w dd (putX xs kd.key b v)) :=
    dicO_ok (by have := putX_len kd.key b v xs; omega) hs (putX_nodup hn) (putX_rel rv r hn) q1 q2 q3 q4
  exact ⟨_, d_write I (by rw [hd]; exact True.intro) sb ⟨o2, q1⟩ new, q⟩
theorem gs_dsetV (C : Cok X k) {o : Expr} (he : GY X G Γ e Ψ) (h : ∀ v G', Ψ v G' → ∃ (dd : Addr) (xs : List XE) (ks : List D), X.K.lookup dd = none ∧ G' dd = some (DicO X.prog X.w dd xs) ∧ KAll X.K G' xs ∧ GV X G' Γ o (.v (.ref dd)) ∧ GE X G' Γ i (.tup ks) ∧ xs.length < 1000000 ∧ (D.tup ks).key.depth ≤ 8 ∧
      ∀ G2 b, Core (fun x => x = dd) G' G2 → Rp X.K G2 (.tup ks) (.ref b) → G2 dd = some (DicO X.prog X.w dd (putX xs (D.tup ks).key b v)) → GS X G2 Γ sts E)
    (hs : swapsWithSole [.Subscript o i p1] e pos.line X.env = pure false := by rfl) (hw : swappedStores [.Subscript o i p1] e X.env = pure none := by rfl) (h1 : (assignEach [.Subscript o i p1] X.env).map (·.2) = [assign (.Subscript o i p1) X.env] := by rfl)
    (ha : ∀ v, assign (.Subscript o i p1) X.env v = (do let ov ← holding [v] (eval o X.env); let iv ← holding [v, ov] (eval i X.env); standAt p1; holding [v, ov, iv] (setItem ov iv v); release [v, ov, iv] []) := by intro _; rfl) : GS X G Γ (.Assign [.Subscript o i p1] e pos :: sts) E := fun σ H F => by
  refine sr_cons (s1_of (ps_asg pe_self (pg_sub pe_self pe_self (set_dicN (room_nest C)) ha) hs hw h1) ?_)
  refine he σ H _ F fun v H1 G' q F' => ?_
  obtain ⟨dd, xs, ks, nk, hd, ka, ho, hi, hl, hdep, hgs⟩ := h v G' q
  refine ho σ H1 _ F' fun ov H2 e2 r2 => ?_
  refine hi σ H2 _ (F'.same e2) fun iv H3 e3 r3 => ?_
  have F3 := F'.same (e2.trans e3)
  have hd3 := F3.ex _ _ hd
  obtain ⟨b, eb⟩ := rp_ref r3
  subst eb
  have ka3 : KAll X.K H3 xs := fun en he => by
    obtain ⟨kd, g1, g2, g3⟩ := ka en he
    exact ⟨kd, g1.mono (Same.tup F3.ex), g2, g3⟩
  refine ⟨dd, xs, b, .tup ks, r2, rfl, hd3, hl, ka3, r3, hdep, ?_⟩
  have hz : ZExt X.K G' (fun x => x = dd) := fun x hx => by subst hx; exact ⟨⟨_, hd⟩, nk⟩
  have hc : Core (fun x => x = dd) H3 (upd H3 dd (DicO X.prog X.w dd (putX xs (D.tup ks).key b v))) := fun x o q hn => by rw [upd_ne hn]; exact q
  obtain ⟨G2, c1, s1, F2, tr⟩ := F3.region (hz.ok F3) hc
  have tr1 := tr _ hc (Same.refl _)
  have ts3 : Tps X.K H3 (upd H3 dd (DicO X.prog X.w dd (putX xs (D.tup ks).key b v))) := upd_ts hd3 (fun _ q => by cases q) fun _ _ q => by cases q
  exact hgs G2 b c1 ((r3.mono ts3).mono tr1.tps) (tr1 dd _ upd_same (.inl fun _ q => by cases q)) σ _ F2
/-- .. over data -/
theorem gs_dset (C : Cok X k) {o : Expr} (he : GY X G Γ e Ψ) (h : ∀ v G', Ψ v G' → ∃ (dd : Addr) (m : List (D × D)) (ks : List D) (d : D), Dic X.prog X.w X.K G' dd m ∧ Rp X.K G' d v ∧ GV X G' Γ o (.v (.ref dd)) ∧ GE X G' Γ i (.tup ks) ∧ m.length < 1000000 ∧ (D.tup ks).key.depth ≤ 8 ∧
      ∀ G2, Core (fun x => x = dd) G' G2 → Dic X.prog X.w X.K G2 dd (dset m (.tup ks) d) → GS X G2 Γ sts E)
    (hs : swapsWithSole [.Subscript o i p1] e pos.line X.env = pure false := by rfl) (hw : swappedStores [.Subscript o i p1] e X.env = pure none := by rfl) (h1 : (assignEach [.Subscript o i p1] X.env).map (·.2) = [assign (.Subscript o i p1) X.env] := by rfl)
    (ha : ∀ v, assign (.Subscript o i p1) X.env v = (do let ov ← holding [v] (eval o X.env); let iv ← holding [v, ov] (eval i X.env); standAt p1; holding [v, ov, iv] (setItem ov iv v); release [v, ov, iv] []) := by intro _; rfl) : GS X G Γ (.Assign [.Subscript o i p1] e pos :: sts) E := by
  refine gs_dsetV C he (fun v G' q => ?_) hs hw h1 ha
  obtain ⟨dd, m, ks, d, ⟨nk, xs, hd, da⟩, hr, ho, hi, hl, hdep, hgs⟩ := h v G' q
  refine ⟨dd, xs, ks, nk, hd, da.kall, ho, hi, by rw [da.length]; exact hl, hdep, fun G2 b c1 rb hd2 => ?_⟩
  have tp : Tps X.K G' G2 := fun x ys hx => by
    rcases hx with (hx | ⟨o, hx⟩) | hx
    · exact .inl (.inl (c1 x _ hx fun z => by rw [z, hd] at hx; cases hx))
    · exact .inl (.inr ⟨o, c1 x _ hx fun z => by rw [z, hd] at hx; cases hx⟩)
    · exact .inr hx
  exact hgs G2 c1 ⟨nk, _, hd2, putX_all rb (hr.mono tp) hdep (da.mono tp)⟩
end
/-! ### methods -/
structure Mtd (P : Program) (w : World) (K : PySem.W.Frag) (mg : Str → Option Value) (base : Heap) (Cc : Addr) (m : Str) (ps : List Str) (k : Nat) (sp : Sp) : Prop where
  cls : Cls K Cc
  ex : ∃ f fd, Meth K Cc m f ∧ FnOk P w K mg base CX0 k f fd ps sp ∧ Binds K fd ps []
section
variable {X : Cx} {G : Hp} {Γ : List AV} {e o : Expr} {es : List Expr} {pos apos : Pos} {m : Str} {ps : List Str} {k : Nat} {sp : Sp} {Z : Addr → Prop} {post : V → Hp → Prop} {as : List AV}
theorem gy_meth {A Cc dx : Addr} {fs : List (Str × V)} {pl : Sem Bool} (M : Mtd X.prog X.w X.K X.mg X.base Cc m ps k sp) (hr : Room k X.A) (ho : GV X G Γ o (.v (.ref A))) (hG : G A = some (.ins Cc dx fs)) (hl : fs.lookup m = none) (ha : GA X G Γ (e :: es) as) (hZ : ZOk X G Γ Z)
    (hsp : ∀ (vs : List V) (H : Hp) (Q : VK), Same G H → ArgsOk X.K H as vs → (∀ v G1 H', Core Z H G1 → Same G1 H' → post v G1 → Q v H') → sp (.ref A :: vs) H Q L2.E0) (hst : ∀ v H G1 G2, Tra Z H G1 G2 → post v G1 → post v G2)
    (hst1 : starEach (e :: es) X.env = (false, eval e X.env) :: starEach es X.env := by rfl) (hpl : (backTo pos (starEach es X.env)).any (·.1) = false := by rfl)
    (ht : eval (.Call (.Attribute o m apos) (e :: es) [] pos) X.env = (do let ov ← eval o X.env; standAt apos.atName; let (f, first) ← holding [ov] (getMethod ov m pl); callWith pos f first (backTo pos (starEach (e :: es) X.env)) (backToKw pos (keywordEach [] X.env))) := by rfl) :
    GY X G Γ (.Call (.Attribute o m apos) (e :: es) [] pos) (fun v G' => Core Z G G' ∧ post v G') := fun σ H Q F kq => by
  obtain ⟨f, fd, hm, Fn, hb⟩ := M.ex
  refine er_of (pe_meth pe_self M.cls hm Fn hr hb .nil pass0 pa_self hst1 hpl ht) ?_
  refine ho σ H _ F fun x H1 e1 r1 => ?_
  have ex : x = .ref A := r1
  subst ex
  refine ⟨A, dx, fs, rfl, e1 _ _ (F.ex _ _ hG), hl, ?_⟩
  refine ha σ H1 _ (F.same e1) fun vs H2 e2 r2 => ?_
  have F2 := F.same (e1.trans e2)
  rw [List.append_nil]
  refine hsp vs H2 Q F2.ex r2 fun v G1 H' c1 s1 hp => ?_
  have cH : Core Z H2 H' := c1.then s1
  obtain ⟨G', d1, d2, F', tr⟩ := F2.region (hZ σ H2 F2) cH
  exact kq v H' G' ⟨d1, hst v H2 G1 G' (tr G1 c1 s1) hp⟩ F'
end
end WB
namespace WB
open PySem PySem.Spec PyProof.Rows L2
/-! ### a dict that is walked -/
theorem frzN {X : Cx} {pins : List (Addr × Obj)} {σ : L2.St} {H : Hp} {s : Shared} {d : Addr} {o : Obj} {xs : List XE} (I : Inv X pins σ H s) (h : H d = some (.frz o (DicO X.prog X.w d xs))) :
    (d == sysModules) = false ∧ ∃ es ep ys, s.heap.DictRaw d es ep ∧ o.data = .dict es ep ∧ es.toList = ys.map (entryOfKey (nestedKind X.prog X.w)) ∧ Paired RelX xs ys := by
  obtain ⟨hg, ⟨_, hs, _, ys, r, o', es, ep, h1, h2, h3, h4⟩, _⟩ := I.hok d _ h
  have e : o' = o := Option.some.inj (h1.symm.trans hg)
  subst e
  exact ⟨hs, es, ep, ys, ⟨o', h1, h2, h3⟩, h3, h4, r⟩
theorem entry_at {P : Program} {w : World} {es : Array DictEntry} {ys : List (NestedKey × Addr × Value)} {xs : List XE} (h : es.toList = ys.map (entryOfKey (nestedKind P w))) (r : Paired RelX xs ys) {i : Nat} (hi : i < es.size) : ∃ e, xs[i]? = some e ∧ es[i].key = .ref e.2.1 ∧ RelV e.2.2 es[i].val := by
  have e1 : es.toList[i]? = some es[i] := by rw [Array.getElem?_toList]; exact Array.getElem?_eq_getElem hi
  rw [h, List.getElem?_map] at e1
  obtain ⟨y, hy, ey⟩ := Option.map_eq_some_iff.mp e1
  have : ∀ {xs : List XE} {ys : List (NestedKey × Addr × Value)} {i : Nat} {y}, Paired RelX xs ys → ys[i]? = some y → ∃ e, xs[i]? = some e ∧ RelX e y := by
    intro xs ys i y r
    induction r generalizing i with
    | nil => intro h; simp at h
    | cons a _ ih =>
      intro h
      cases i with
      | zero => cases h; exact ⟨_, rfl, a⟩
      | succ i => exact ih h
  obtain ⟨e, he, ⟨g1, g2, g3⟩⟩ := this r hy
  refine ⟨e, he, ?_, ?_⟩
  · rw [← ey]
    show Value.ref y.2.1 = _
    rw [g2]
  · rw [← ey]; exact g3
theorem ent_len {P : Program} {w : World} {es : Array DictEntry} {ys : List (NestedKey × Addr × Value)} {xs : List XE} (h : es.toList = ys.map (entryOfKey (nestedKind P w))) (r : Paired RelX xs ys) : es.size = xs.length := by
  have := congrArg List.length h
  rw [Array.length_toList, List.length_map, ← Paired.length r] at this
  exact this
def ItkN (P : Program) (w : World) (d : Addr) (o : Obj) (xs : List XE) : It := ⟨fun i H => H d = some (.frz o (DicO P w d xs)) ∧ i < xs.length, fun i H v H' => H' = H ∧ ∃ e, xs[i]? = some e ∧ v = .ref e.2.1, fun i H => H d = some (.frz o (DicO P w d xs)) ∧ xs.length ≤ i⟩
def ItiN (P : Program) (w : World) (d : Addr) (o : Obj) (xs : List XE) : It := ⟨fun i H => H d = some (.frz o (DicO P w d xs)) ∧ i < xs.length, fun i H v H' => ∃ T e, xs[i]? = some e ∧ v = .ref T ∧ H T = none ∧ H' = upd H T (.tup [.ref e.2.1, e.2.2]), fun i H => H d = some (.frz o (DicO P w d xs)) ∧ xs.length ≤ i⟩
section
variable {P : Program} {w : World} {K : PySem.W.Frag} {tg : Expr} {d : Addr} {o : Obj} {xs : List XE} {es : Array DictEntry} {ep : Nat}
theorem turn_keysN (it : Addr) (hod : o.data = .dict es ep) : Turn P w K tg (ItkN P w d o xs) [it] it (fun i h => h.IsKeyIter it d i es.size ep) where
  mem := by simp
  obj := fun i h st b hb => by
    obtain rfl : b = it := by simpa using hb
    obtain ⟨oi, e, c, dd⟩ := st
    exact ⟨oi, e, fun v z => by rw [dd] at z; cases z⟩
  keep := fun i h h' st k => st.at fun oi e => k it (by simp) oi e
  item := by
    intro X hP hw hK hc i pins s σ H E I hf st hg
    subst hP hw hK
    obtain ⟨hd, hi⟩ := hg
    obtain ⟨f0, f1, f2, f3, f4, f5⟩ := hf it (by simp)
    obtain ⟨hs, es', ep', ys, raw, hdt, hes, rel⟩ := frzN I hd
    obtain ⟨rfl, rfl⟩ : es = es' ∧ ep = ep' := by rw [hod] at hdt; cases hdt; exact ⟨rfl, rfl⟩
    have hsz := ent_len hes rel
    obtain ⟨e, he, hk, _⟩ := entry_at hes rel (i := i) (by omega)
    refine wpAny_pyNext_keys_item_raw st raw (by omega) fun h' st' sb => ?_
    have I1 : Inv X pins σ H { s with heap := h' } := I.turned (t' := s.toks) (fun b ob hb q => (sb.2 b hb).trans q) f0 f1 f3 f4 f5
    obtain ⟨oi, e1, c1, d1⟩ := id st'
    refine ⟨_, rfl, go_of (s := { s with heap := h' }) e1 c1 d1 (by decide) ⟨.ref e.2.1, H, I1, ?_, ⟨rfl, e, he, rfl⟩, st', fun b hb => (hf b hb).1⟩⟩
    rw [hk]; exact rfl
  done := by
    intro X hP hw hK hc i pins s σ H E I hf st hg
    subst hP hw hK
    obtain ⟨hd, hi⟩ := hg
    obtain ⟨f0, f1, f2, f3, f4, f5⟩ := hf it (by simp)
    obtain ⟨hs, es', ep', ys, raw, hdt, hes, rel⟩ := frzN I hd
    obtain ⟨rfl, rfl⟩ : es = es' ∧ ep = ep' := by rw [hod] at hdt; cases hdt; exact ⟨rfl, rfl⟩
    have hsz := ent_len hes rel
    exact wpAny_pyNext_keys_end_raw (I.ok.hd hc) st raw (by omega) fun h' eb => ⟨rfl, I.turned (t' := s.toks) (fun b ob hb q => eb b ob hb q) f0 f1 f3 f4 f5⟩
  self := fun A i s Q E st h => wpAny_pyIter_keyiter st h
theorem turn_itemsN {elts : List Expr} {kk : Nat} {tpos : Pos} (it : Addr) (hod : o.data = .dict es ep) : Turn P w K (.Tuple elts kk tpos) (ItiN P w d o xs) [it] it (fun i h => ∃ ok ov, IsItemIter h it d i es.size ep ok ov) where
  mem := by simp
  obj := fun i h st b hb => by
    obtain rfl : b = it := by simpa using hb
    obtain ⟨ok, ov, e⟩ := st
    exact ⟨_, e, fun v z => nomatch z⟩
  keep := fun i h h' st k => by
    obtain ⟨ok, ov, e⟩ := st
    exact ⟨ok, ov, k it (by simp) _ e⟩
  item := by
    intro X hP hw hK hc i pins s σ H E I hf st hg
    subst hP hw hK
    obtain ⟨hd, hi⟩ := hg
    obtain ⟨hs, es', ep', ys, raw, hdt, hes, rel⟩ := frzN I hd
    obtain ⟨rfl, rfl⟩ : es = es' ∧ ep = ep' := by rw [hod] at hdt; cases hdt; exact ⟨rfl, rfl⟩
    have hsz := ent_len hes rel
    obtain ⟨e, he, hk, hv⟩ := entry_at hes rel (i := i) (by omega)
    obtain ⟨ok, ov, hit⟩ := st
    have lt1 : it < s.heap.objs.size := Heap.lt_size hit
    refine wpAny_pyNext_items_item_raw hit raw (by omega) fun h' ho hT hz hkp => ?_
    refine ⟨_, rfl, wpAny_letOwnedTupleGo_items (s := { s with heap := h' }) ho fun h'' he' sb => ?_⟩
    have tup2 := (sb.2 _ (Nat.ne_of_gt lt1)).trans hT
    have new : ObjOk X.prog X.w (upd H s.heap.objs.size (.tup [.ref e.2.1, e.2.2])) h'' s.heap.objs.size (.tup [.ref e.2.1, e.2.2]) := by
      refine ⟨by show 2 ≤ sizeLine; decide, [es[i].key, es[i].val], .cons (by rw [hk]; exact rfl) (.cons hv .nil), ⟨_, tup2, rfl, _, rfl⟩⟩
    have I1 : Inv X pins σ (upd H s.heap.objs.size (.tup [.ref e.2.1, e.2.2])) { s with heap := h'' } :=
      I.turnedNew (t' := s.toks) (ch := [it]) (fun b ob hb q => (sb.2 b (by simpa using hb)).trans (hkp b ob (by simpa using hb) q)) hf (Nat.le_refl _) new
    refine ⟨.ref s.heap.objs.size, _, I1, rfl, ⟨_, e, he, rfl, I.hok.fresh (Nat.le_refl _), rfl⟩, ⟨_, _, he'⟩, fun b hb => ?_⟩
    obtain rfl : b = it := by simpa using hb
    rw [upd_ne (Nat.ne_of_lt lt1)]
    exact (hf b (by simp)).1
  done := by
    intro X hP hw hK hc i pins s σ H E I hf st hg
    subst hP hw hK
    obtain ⟨hd, hi⟩ := hg
    obtain ⟨f0, f1, f2, f3, f4, f5⟩ := hf it (by simp)
    obtain ⟨hs, es', ep', ys, raw, hdt, hes, rel⟩ := frzN I hd
    obtain ⟨rfl, rfl⟩ : es = es' ∧ ep = ep' := by rw [hod] at hdt; cases hdt; exact ⟨rfl, rfl⟩
    have hsz := ent_len hes rel
    obtain ⟨ok, ov, hit⟩ := st
    exact wpAny_pyNext_items_end_raw (I.ok.hd hc) hit raw (by omega) fun h' eb => ⟨rfl, I.turned (t' := s.toks) (fun b ob hb q => eb b ob hb q) f0 f1 f3 f4 f5⟩
  self := fun A i s Q E st h => by obtain ⟨_, _, e⟩ := st; exact wpAny_pyIter_itemiter e h
end
def iKeyN (P : Program) (w : World) (te : TE) : TI := fun σ H R => te σ H fun x H1 => ∃ d o xs, x = .ref d ∧ H1 d = some (.frz o (DicO P w d xs)) ∧ R (ItkN P w d o xs) H1
def iItemN (P : Program) (w : World) (te : TE) : TI := fun σ H R => te σ H fun x H1 => ∃ d o xs, x = .ref d ∧ H1 d = some (.frz o (DicO P w d xs)) ∧ R (ItiN P w d o xs) H1
section
variable {X : Cx} {tg e : Expr} {te : TE} {apos cpos : Pos}
theorem pi_keyN (he : PE X e te) : PI X tg e (iKeyN X.prog X.w te) := by
  refine ⟨fun pins s σ H R I h => ?_⟩
  refine thn (he.run pins s σ H _ I h) fun u s1 ⟨x, H1, I1, rx, d, o, xs, ex, hd, q⟩ => ?_
  subst ex
  obtain rfl : u = Value.ref d := rx
  obtain ⟨hs, es, ep, ys, raw, hdt, hes, rel⟩ := frzN I1 hd
  exact wpAny_pyIter_dict_raw hs raw (pi_one (tk := s1.toks) I1 _ (turn_keysN _ hdt) ⟨_, Heap.get?_push_size _ rfl, rfl, rfl⟩ q)
theorem pi_itemN {elts : List Expr} {kk : Nat} {tpos : Pos} (he : PE X e te) (hbase : attributeBase e "items" X.env (eval e X.env) = eval e X.env := by rfl) (hline : (apos.endLine == cpos.line) = true := by rfl) : PI X (.Tuple elts kk tpos) (.Call (.Attribute e "items" apos) [] [] cpos) (iItemN X.prog X.w te) := by
  refine ⟨fun pins s σ H R I h => ?_⟩
  refine wpAny_Call_method (T := "dict") (id := "dict.items") hbase rfl hline F.plainAttrs_dict F.slot_dict_items F.type_dict_items (thn (he.run pins s σ H _ I h) fun u s1 ⟨x, H1, I1, rx, d, o, xs, ex, hd, q⟩ => ?_)
  subst ex
  obtain rfl : u = Value.ref d := rx
  obtain ⟨hs, es, ep, ys, raw, hdt, hes, rel⟩ := frzN I1 hd
  obtain ⟨od, hod, hex, _⟩ := id raw
  refine ⟨raw.typeIs, fun o' ho' => by cases ho'; exact ⟨od, hod, hex.2.1⟩, ?_⟩
  have I2 : Inv X pins σ H1 { s1 with heap := s1.heap.push { cls := .type "dict_items", data := .fields #[.ref d] } } := I1.kept (t' := s1.toks) fun b ob q => Heap.get?_push_of_some _ q
  have fin : wpAny (model X.prog X.w) X.A (pyIter (.ref s1.heap.objs.size)) (PIE X pins σ (.Tuple elts kk tpos) R) X.xe { s1 with heap := s1.heap.push { cls := .type "dict_items", data := .fields #[.ref d] } } := by
    refine wpAny_pyIter_items_raw (d := d) (es := es) (ep := ep) ⟨_, Heap.get?_push_size _ rfl, rfl, rfl⟩ (raw.at fun ob q => Heap.get?_push_of_some _ q) (pi_one (tk := s1.toks) I2 _ (turn_itemsN _ hdt) ⟨.none, .none, ?_⟩ q)
    exact Heap.get?_push_size _ rfl
  show wpAny _ _ (callWith cpos (.builtin "dict.items") [.ref d] [] []) _ X.xe s1
  exact method_meetsIn F.slot_dict_items F.entry_dict_items rfl (PySem.evalArgs_none ⟨rfl, raw.typeIs, F.args_dict_items_1 _, _, meets_dict_items_raw d hs, ⟨es, ep, raw⟩, fin⟩)
end
/-! ### loops whose facts are told by a property, as one statement -/
section
variable {X : Cx} {H0 G : Hp} {Γ : List AV} {a b c e tg iter : Expr} {es : List Expr} {pos p1 np : Pos} {x y z d : D} {ds xs ys els : List D} {n : Str} {k : Nat} {sts body : List Stmt} {E Dn : Ends}
abbrev jE (X : Cx) (Hc : Hp) (J : Hp → List AV → Prop) (Dn : Ends) : Ends := { Dn with nx := fun σ H => ∃ G Γ', Same Hc G ∧ J G Γ' ∧ Fm X.K G σ Γ' H, ct := fun σ H => ∃ G Γ', Same Hc G ∧ J G Γ' ∧ Fm X.K G σ Γ' H, bk := Dn.nx }
theorem s1_forX (C : Cok X k) {js : List Nat} (u : D → List AV → List AV) (Z : Addr → Prop) (J : Hp → Nat → Hp → List AV → Prop) (hi : GI X H0 Γ tg iter els) (ht : ∀ (i : Nat) (d : D), els[i]? = some d → TgOk X tg js d (u d)) (hZ : ZOk X H0 Γ Z)
    (h0 : ∀ Hc G, Core Z H0 Hc → Same H0 G → Same Hc G → (∀ a, Z a → Hc a = none) → J Hc 0 G Γ)
    (hb : ∀ Hc, Core Z H0 Hc → (∀ a, Z a → Hc a = none) → ∀ (i : Nat) (d : D), els[i]? = some d → ∀ G Γ', Same Hc G → J Hc i G Γ' → GS X G (u d Γ') body (jE X Hc (J Hc (i + 1)) Dn))
    (hr : ∀ Hc, Core Z H0 Hc → (∀ a, Z a → Hc a = none) → ∀ G Γ' σ H, Same Hc G → J Hc els.length G Γ' → Fm X.K G σ Γ' H → Dn.nx σ H) (hs : ∀ x, foldedSetIterable iter X.env x = pure x := by intro _; rfl) (σ : L2.St) (H : Hp) (F : Fm X.K H0 σ Γ H) : S1 X (.For tg iter body [] pos) Dn σ H := by
  classical
  obtain ⟨wi, hpi, hread⟩ := hi
  refine s1_of (ps_for C.hp C.hc hpi pg_self pss_self hs) ?_
  refine hread σ H _ F fun It H1 e1 hit => ?_
  have F1 := F.same e1
  obtain ⟨Hb, s0, sb, Fb, hall, hown, _⟩ := F1.rebase
  let Hc : Hp := fun a => if Z a then none else Hb a
  have cb : Same Hc Hb := fun a o e => by
    have e' : (if Z a then none else Hb a) = some o := e
    split at e'
    · cases e'
    · exact e'
  have core : Core Z H0 Hc := fun a o e n => by
    show (if Z a then none else Hb a) = some o
    rw [if_neg n]; exact s0 a o e
  have cz : ∀ a, Z a → Hc a = none := fun a h => if_pos h
  have xo : ExOk H0 H σ Γ (fun a => ownAt σ Γ a ∨ Z a) := fun a ha => by
    rcases ha with ha | ha
    · exact F.exOwn a ha
    · obtain ⟨⟨o, q1, q2, q3⟩, q4⟩ := hZ σ H F a ha
      exact ⟨⟨o, F.ex a o q1, q2, q3⟩, fun i xs g1 g2 => absurd g2 (q4 i xs g1)⟩
  have ok := hit _ Hc xo (cb.trans sb) fun a o e n => by
    show (if Z a then none else Hb a) = some o
    rw [if_neg fun q => n (.inr q)]
    exact hall a o e fun q => n (.inl q)
  refine ⟨fun i m σ' H' => m = els.length - i ∧ i ≤ els.length ∧ ∃ G Γ', Same Hc G ∧ J Hc i G Γ' ∧ Fm X.K G σ' Γ' H', ⟨els.length, by simp, Nat.zero_le _, Hb, Γ, cb, h0 Hc Hb core s0 cb cz, Fb⟩, ?_⟩
  rintro i m σ' H' ⟨rfl, hi, G, Γ', cg, j, F'⟩
  by_cases hlt : i < els.length
  · refine .inr ⟨ok.go i H' hlt (cg.trans F'.ex), fun σ2 H2 => ∃ G Γ', Same Hc G ∧ J Hc (i + 1) G Γ' ∧ Fm X.K G σ2 Γ' H2, fun σ2 H2 p => ⟨els.length - (i + 1), by omega, rfl, hlt, p⟩, fun x H'' hy => ?_⟩
    obtain ⟨e2, d, hd, hr'⟩ := ok.yld i x H' H'' hlt (cg.trans F'.ex) hy
    exact ht i d hd G Γ' σ' H'' x _ (F'.same e2) hr' fun σ2 _ _ F2 => hb Hc core cz i d hd G Γ' cg j σ2 H'' F2
  · have ei : i = els.length := by omega
    subst ei
    exact .inl ⟨ok.stop H' (cg.trans F'.ex), hr Hc core cz G Γ' σ' H' cg j F'⟩
/-- while -/
theorem gs_whileX (C : Cok X k) (J : Nat → Hp → List AV → Prop) (m0 : Nat) (h0 : J m0 G Γ)
    (hc : ∀ m G' Γ', J m G' Γ' → ∃ b0, GT X G' Γ' c b0 ∧ (b0 = true → GS X G' Γ' body { E with nx := fun σ H => ∃ m' G2 Γ2, m' < m ∧ J m' G2 Γ2 ∧ Fm X.K G2 σ Γ2 H, ct := fun σ H => ∃ m' G2 Γ2, m' < m ∧ J m' G2 Γ2 ∧ Fm X.K G2 σ Γ2 H, bk := fun σ H => SR X sts E σ H }) ∧ (b0 = false → GS X G' Γ' sts E)) : GS X G Γ (.While c body [] pos :: sts) E := fun σ H F => by
  refine sr_cons (s1_of (ps_while C.hp pt_self pss_self) ?_)
  refine ⟨fun m σ H => ∃ G' Γ', J m G' Γ' ∧ Fm X.K G' σ Γ' H, ⟨m0, G, Γ, h0, F⟩, ?_⟩
  rintro m σ1 H1 ⟨G', Γ', j, F1⟩
  obtain ⟨b0, ht, h1, h2⟩ := hc m G' Γ' j
  refine ht σ1 H1 _ F1 fun H2 e2 => ?_
  cases b0 with
  | true =>
    rw [if_pos rfl]
    refine ⟨fun σ H => ∃ m' G2 Γ2, m' < m ∧ J m' G2 Γ2 ∧ Fm X.K G2 σ Γ2 H, fun σ' H' ⟨m', G2, Γ2, hl, j2, F2⟩ => ⟨m', hl, G2, Γ2, j2, F2⟩, ?_⟩
    exact h1 rfl σ1 H2 (F1.same e2)
  | false => exact h2 rfl σ1 H2 (F1.same e2)
/-- e1 or e2, e1 changing things -/
theorem gy_or {Ψ Φ : V → Hp → Prop} (h1 : GY X G Γ a Ψ) (h2 : ∀ v G', Ψ v G' → ∃ k1 k2, v = .bl k1 ∧ GE X G' Γ b (.bl k2) ∧ ∀ G2, Same G' G2 → Φ (.bl (k1 || k2)) G2) : GY X G Γ (.BoolOp .Or [a, b] pos) Φ := fun σ H Q F kq => by
  refine er_of (pe_or pe_self (pe_self (e := .BoolOp .Or [b] pos))) ?_
  refine h1 σ H _ F fun v H1 G' q F' => ?_
  obtain ⟨k1, k2, ev, g2, hf⟩ := h2 v G' q
  refine ⟨k1, ev, ?_⟩
  cases k1 with
  | true => subst ev; exact kq _ H1 G' (hf G' (Same.refl G')) F'
  | false =>
    refine ge_one g2 σ H1 _ F' fun w H2 e2 r2 => ?_
    have e : w = .bl k2 := r2
    subst e
    obtain ⟨G2, s0, s1, F2, _, _⟩ := (F'.same e2).full
    have hh := hf G2 s0
    rw [Bool.false_or] at hh
    exact kq _ H2 G2 hh F2
/-! ### over a locked dict -/
/-- the object at one place is told anew -/
theorem Fm.swap {K : PySem.W.Frag} {H : Hp} {σ : L2.St} {dt : Addr} {o u : HO} (F : Fm K G σ Γ H) (hd : G dt = some o) (h1 : ∀ xs, o ≠ .tup xs) (h2 : ∀ ob xs, o ≠ .frz ob (.tup xs)) (nk : K.lookup dt = none) (h3 : ∀ xs, o ≠ .lst xs) (h4 : ∀ ob xs, o ≠ .frz ob (.lst xs)) : Fm K (upd G dt u) σ Γ (upd H dt u) := by
  have ts : Tps K H (upd H dt u) := upd_ts (F.ex _ _ hd) h1 h2
  refine ⟨fun x o' e => ?_, F.len, fun i av hi => ?_, F.dis⟩
  · by_cases hx : x = dt
    · subst hx; rw [upd_same] at e ⊢; exact e
    · rw [upd_ne hx] at e ⊢; exact F.ex x o' e
  · obtain ⟨ov, e1, e2⟩ := F.at_ i av hi
    refine ⟨ov, e1, ?_⟩
    cases av with
    | no => trivial
    | d x => obtain ⟨v, r1, r2⟩ := e2; exact ⟨v, r1, r2.mono ts⟩
    | bw xs =>
      obtain ⟨l, vs, r1, r2, r3⟩ := e2
      refine ⟨l, vs, r1, ?_, r3.mono ts⟩
      rcases r2 with (r2 | ⟨o', r2⟩) | r2
      · exact .inl (.inl (by rw [upd_ne fun z => by rw [z, hd] at r2; exact h3 vs (Option.some.inj r2)]; exact r2))
      · exact .inl (.inr ⟨o', by rw [upd_ne fun z => by rw [z, hd] at r2; exact h4 o' vs (Option.some.inj r2)]; exact r2⟩)
      · exact .inr r2
    | own xs =>
      obtain ⟨l, vs, r1, r2, r3, r4⟩ := e2
      have ne : l ≠ dt := fun z => by rw [z, hd] at r2; cases r2
      exact ⟨l, vs, r1, by rw [upd_ne ne]; exact r2, by rw [upd_ne ne]; exact r3, r4.mono ts⟩
    | v x => exact e2
theorem gi_keyN {dt : Addr} {o : Obj} {m : List XE} {kd : List D} (he : GV X G Γ e (.v (.ref dt))) (hd : G dt = some (.frz o (DicO X.prog X.w dt m))) (hl : m.length = kd.length) (hk : ∀ (i : Nat) (en : XE), m[i]? = some en → ∃ d, kd[i]? = some d ∧ Rp X.K G d (.ref en.2.1)) : GI X G Γ tg e kd := by
  refine ⟨_, pi_keyN pe_self, fun σ H R F k => ?_⟩
  refine he σ H _ F fun v H1 e1 r1 => ?_
  have hd1 := e1 _ _ (F.ex _ _ hd)
  refine ⟨dt, o, m, r1, hd1, k _ H1 e1 fun Ex Hb xo eb hb => ?_⟩
  have hx : ¬ Ex dt := fun hx => by
    obtain ⟨⟨o', q1, _, q3⟩, _⟩ := xo dt hx
    have := F.ex _ _ hd
    rw [q1] at this
    exact q3 _ _ (Option.some.inj this)
  have hdb := hb _ _ hd1 hx
  have ts : Tps X.K H1 Hb := xo.baseTup e1 hb
  refine ⟨fun i H' hi e' => ⟨e' _ _ hdb, by omega⟩, fun H' e' => ⟨e' _ _ hdb, by omega⟩, fun i x H' H'' hi e' hy => ?_⟩
  obtain ⟨eH, en, he, ex⟩ := hy
  subst eH; subst ex
  obtain ⟨d, g1, g2⟩ := hk i en he
  exact ⟨Same.refl _, d, g1, ((g2.mono (Same.tup (F.ex.trans e1))).mono ts).mono (Same.tup e')⟩
/-- all but one place stays -/
def Same' (G : Hp) (dt : Addr) (G' : Hp) : Prop := ∀ a o, a ≠ dt → G a = some o → G' a = some o
/-- a statement while a dict is locked -/
theorem gs_lock {st : Stmt} {dt : Addr} {u : HO} (hd : G dt = some u) (mu : Mut (some u)) (nk : X.K.lookup dt = none) (h1 : ∀ xs, u ≠ .tup xs) (h2 : ∀ ob xs, u ≠ .frz ob (.tup xs)) (h3 : ∀ xs, u ≠ .lst xs) (h4 : ∀ ob xs, u ≠ .frz ob (.lst xs))
    (h : ∀ od σ H, Fm X.K (upd G dt (.frz od u)) σ Γ H → S1 X st ⟨fun σ' H' => H' dt = some (.frz od u) ∧ SR X sts E σ' (upd H' dt u), fun v H' => H' dt = some (.frz od u) ∧ E.rt v (upd H' dt u), fun σ' H' => H' dt = some (.frz od u) ∧ E.bk σ' (upd H' dt u), fun σ' H' => H' dt = some (.frz od u) ∧ E.ct σ' (upd H' dt u)⟩ σ H) : GS X G Γ (st :: sts) E := fun σ H F => by
  refine sr_cons (s1_of (ps_lock ps_self) ?_)
  exact ⟨dt, u, F.ex _ _ hd, mu, fun od => h od σ _ (F.swap hd h1 h2 nk h3 h4)⟩
/-- for k in d -/
theorem gs_lockKeys (C : Cok X k) {js : List Nat} {dt : Addr} {m : List XE} {kd : List D} (u : D → List AV → List AV) (Z : Addr → Prop) (J : Hp → Nat → Hp → List AV → Prop) (hd : G dt = some (DicO X.prog X.w dt m)) (nk : X.K.lookup dt = none) (nz : ¬ Z dt) (hl : m.length = kd.length) (hk : ∀ (i : Nat) (en : XE), m[i]? = some en → ∃ d, kd[i]? = some d ∧ Rp X.K G d (.ref en.2.1))
    (he : ∀ G', Same' G dt G' → GV X G' Γ e (.v (.ref dt))) (ht : ∀ (i : Nat) (d : D), kd[i]? = some d → TgOk X tg js d (u d)) (hZ : ZExt X.K G Z)
    (h0 : ∀ od Hc G', Core Z (upd G dt (.frz od (DicO X.prog X.w dt m))) Hc → Same (upd G dt (.frz od (DicO X.prog X.w dt m))) G' → Same Hc G' → (∀ a, Z a → Hc a = none) → J Hc 0 G' Γ)
    (hb : ∀ od Hc, Core Z (upd G dt (.frz od (DicO X.prog X.w dt m))) Hc → (∀ a, Z a → Hc a = none) → ∀ (i : Nat) (d : D), kd[i]? = some d → ∀ G' Γ', Same Hc G' → J Hc i G' Γ' → GS X G' (u d Γ') body (jE X Hc (J Hc (i + 1)) ⟨fun σ' H' => H' dt = some (.frz od (DicO X.prog X.w dt m)) ∧ SR X sts E σ' (upd H' dt (DicO X.prog X.w dt m)), fun v H' => H' dt = some (.frz od (DicO X.prog X.w dt m)) ∧ E.rt v (upd H' dt (DicO X.prog X.w dt m)), fun σ' H' => H' dt = some (.frz od (DicO X.prog X.w dt m)) ∧ E.bk σ' (upd H' dt (DicO X.prog X.w dt m)), fun σ' H' => H' dt = some (.frz od (DicO X.prog X.w dt m)) ∧ E.ct σ' (upd H' dt (DicO X.prog X.w dt m))⟩))
    (hr : ∀ od Hc, Core Z (upd G dt (.frz od (DicO X.prog X.w dt m))) Hc → (∀ a, Z a → Hc a = none) → ∀ G' Γ', Same Hc G' → J Hc kd.length G' Γ' → GS X (upd G' dt (DicO X.prog X.w dt m)) Γ' sts E) (hs : ∀ x, foldedSetIterable e X.env x = pure x := by intro _; rfl) : GS X G Γ (.For tg e body [] pos :: sts) E := by
  refine gs_lock hd trivial nk (fun _ q => by cases q) (fun _ _ q => by cases q) (fun _ q => by cases q) (fun _ _ q => by cases q) fun od σ H F => ?_
  have sm : Same' G dt (upd G dt (.frz od (DicO X.prog X.w dt m))) := fun a o hne q => by rw [upd_ne hne]; exact q
  have tp : Tps X.K G (upd G dt (.frz od (DicO X.prog X.w dt m))) := upd_ts hd (fun _ q => by cases q) fun _ _ q => by cases q
  have zx : ZExt X.K (upd G dt (.frz od (DicO X.prog X.w dt m))) Z := fun a ha => by
    obtain ⟨⟨φ, q⟩, n⟩ := hZ a ha
    exact ⟨⟨φ, by rw [upd_ne (show a ≠ dt from fun z => nz (z ▸ ha))]; exact q⟩, n⟩
  refine s1_forX C u Z J (gi_keyN (he _ sm) upd_same hl fun i en q => ?_) ht (zok_ext zx) (h0 od) (hb od) (fun Hc c1 c2 G' Γ' σ' H' c3 j F' => ?_) hs σ H F
  · obtain ⟨d, g1, g2⟩ := hk i en q
    exact ⟨d, g1, g2.mono tp⟩
  · have hG' := c3 _ _ (c1 dt _ upd_same nz)
    exact ⟨F'.ex _ _ hG', hr od Hc c1 c2 G' Γ' c3 j σ' _ (F'.swap hG' (fun _ q => by cases q) (fun _ _ q => by cases q) nk (fun _ q => by cases q) (fun _ _ q => by cases q))⟩
/-- for k, v in d.items(), the values lists -/
theorem gs_lockItems (C : Cok X k) {apos cpos q1 q2 tp : Pos} {kk : Nat} {n1 n2 : Str} (i1 i2 : Nat) {dt : Addr} {m : List XE} {kv : List (D × List D)} (Z : Addr → Prop) (J : Hp → Nat → Hp → List AV → Prop) (hd : G dt = some (DicO X.prog X.w dt m)) (nk : X.K.lookup dt = none) (nz : ¬ Z dt) (hl : m.length = kv.length)
    (hk : ∀ (i : Nat) (en : XE), m[i]? = some en → ∃ d ds, kv[i]? = some (d, ds) ∧ Rp X.K G d (.ref en.2.1) ∧ ∃ l vs, en.2.2 = .ref l ∧ G l = some (.lst vs) ∧ RpAll X.K G ds vs)
    (he : ∀ G', Same' G dt G' → GV X G' Γ e (.v (.ref dt))) (hZ : ZExt X.K G Z)
    (h0 : ∀ od Hc G', Core Z (upd G dt (.frz od (DicO X.prog X.w dt m))) Hc → Same (upd G dt (.frz od (DicO X.prog X.w dt m))) G' → Same Hc G' → (∀ a, Z a → Hc a = none) → J Hc 0 G' Γ)
    (hb : ∀ od Hc, Core Z (upd G dt (.frz od (DicO X.prog X.w dt m))) Hc → (∀ a, Z a → Hc a = none) → ∀ (i : Nat) (d : D) (ds : List D), kv[i]? = some (d, ds) → ∀ G' Γ', Same Hc G' → J Hc i G' Γ' → GS X G' ((Γ'.set i1 (.d d)).set i2 (.bw ds)) body (jE X Hc (J Hc (i + 1)) ⟨fun σ' H' => H' dt = some (.frz od (DicO X.prog X.w dt m)) ∧ SR X sts E σ' (upd H' dt (DicO X.prog X.w dt m)), fun v H' => H' dt = some (.frz od (DicO X.prog X.w dt m)) ∧ E.rt v (upd H' dt (DicO X.prog X.w dt m)), fun σ' H' => H' dt = some (.frz od (DicO X.prog X.w dt m)) ∧ E.bk σ' (upd H' dt (DicO X.prog X.w dt m)), fun σ' H' => H' dt = some (.frz od (DicO X.prog X.w dt m)) ∧ E.ct σ' (upd H' dt (DicO X.prog X.w dt m))⟩))
    (hr : ∀ od Hc, Core Z (upd G dt (.frz od (DicO X.prog X.w dt m))) Hc → (∀ a, Z a → Hc a = none) → ∀ G' Γ', Same Hc G' → J Hc kv.length G' Γ' → GS X (upd G' dt (DicO X.prog X.w dt m)) Γ' sts E)
    (hi1 : X.N[i1]? = some n1 := by rfl) (hi2 : X.N[i2]? = some n2 := by rfl) (hx1 : Loc X.env.scope n1 := by first | exact Or.inl rfl | exact Or.inr rfl) (hx2 : Loc X.env.scope n2 := by first | exact Or.inl rfl | exact Or.inr rfl) (hf1 : X.fn n1 = true ∨ X.env.scope.names.lookup n1 = some .local := by first | exact .inl rfl | exact .inr rfl) (hf2 : X.fn n2 = true ∨ X.env.scope.names.lookup n2 = some .local := by first | exact .inl rfl | exact .inr rfl)
    (hbase : attributeBase e "items" X.env (eval e X.env) = eval e X.env := by rfl) (hline : (apos.endLine == cpos.line) = true := by rfl) (hs : ∀ x, foldedSetIterable (.Call (.Attribute e "items" apos) [] [] cpos) X.env x = pure x := by intro _; rfl) :
    GS X G Γ (.For (.Tuple [.Name n1 q1, .Name n2 q2] kk tp) (.Call (.Attribute e "items" apos) [] [] cpos) body [] pos :: sts) E := by
  classical
  refine gs_lock hd trivial nk (fun _ q => by cases q) (fun _ _ q => by cases q) (fun _ q => by cases q) (fun _ _ q => by cases q) fun od σ H F => ?_
  have sm : Same' G dt (upd G dt (.frz od (DicO X.prog X.w dt m))) := fun a o hne q => by rw [upd_ne hne]; exact q
  have tpG : Tps X.K G (upd G dt (.frz od (DicO X.prog X.w dt m))) := upd_ts hd (fun _ q => by cases q) fun _ _ q => by cases q
  have zx : ZExt X.K (upd G dt (.frz od (DicO X.prog X.w dt m))) Z := fun a ha => by
    obtain ⟨⟨φ, q⟩, n⟩ := hZ a ha
    exact ⟨⟨φ, by rw [upd_ne (show a ≠ dt from fun z => nz (z ▸ ha))]; exact q⟩, n⟩
  refine s1_of (ps_for C.hp C.hc (pi_itemN pe_self hbase hline) (pg_tup (n := 2) C.hc (pgs_cons (pg_name C.nd hi1 hx1 hf1) (pgs_cons (pg_name C.nd hi2 hx2 hf2) pgs_nil))) pss_self hs) ?_
  refine he _ sm σ H _ F fun v H1 e1 r1 => ?_
  have F1 := F.same e1
  have hd1 : H1 dt = some (.frz od (DicO X.prog X.w dt m)) := F1.ex _ _ upd_same
  refine ⟨dt, od, m, r1, hd1, ?_⟩
  obtain ⟨Hb, s0, sb, Fb, hall, _, _⟩ := F1.rebase
  let Hc : Hp := fun a => if Z a then none else Hb a
  have cb : Same Hc Hb := fun a o q => by
    have q' : (if Z a then none else Hb a) = some o := q
    split at q'
    · cases q'
    · exact q'
  have core : Core Z (upd G dt (.frz od (DicO X.prog X.w dt m))) Hc := fun a o q n => by
    show (if Z a then none else Hb a) = some o
    rw [if_neg n]; exact s0 a o q
  have cz : ∀ a, Z a → Hc a = none := fun a h => if_pos h
  have hcd : Hc dt = some (.frz od (DicO X.prog X.w dt m)) := core dt _ upd_same nz
  have tpc : Tps X.K (upd G dt (.frz od (DicO X.prog X.w dt m))) Hc := fun a xs h => by
    have nza : ∀ o, (upd G dt (.frz od (DicO X.prog X.w dt m))) a = some o → (∀ φ, o ≠ .ext φ) → ¬ Z a := fun o q n z => by
      obtain ⟨⟨φ, q2⟩, _⟩ := zx a z
      rw [q] at q2
      exact n φ (Option.some.inj q2)
    rcases h with (h | ⟨o, h⟩) | h
    · exact .inl (.inl (core a _ h (nza _ h fun _ q => by cases q)))
    · exact .inl (.inr ⟨o, core a _ h (nza _ h fun _ q => by cases q)⟩)
    · exact .inr h
  refine ⟨fun i mm σ' H' => mm = m.length - i ∧ i ≤ m.length ∧ ∃ G' Γ', Same Hc G' ∧ J Hc i G' Γ' ∧ Fm X.K G' σ' Γ' H', ⟨m.length, by simp, Nat.zero_le _, Hb, Γ, cb, h0 od Hc Hb core s0 cb cz, Fb⟩, ?_⟩
  rintro i mm σ' H' ⟨rfl, hi, G', Γ', cg, j, F'⟩
  by_cases hlt : i < m.length
  · refine .inr ⟨⟨(cg.trans F'.ex) _ _ hcd, hlt⟩, fun σ2 H2 => ∃ G' Γ', Same Hc G' ∧ J Hc (i + 1) G' Γ' ∧ Fm X.K G' σ2 Γ' H2, fun σ2 H2 p => ⟨m.length - (i + 1), by omega, rfl, hlt, p⟩, fun x H'' hy => ?_⟩
    obtain ⟨T, en, hen, ex, hT, eH⟩ := hy
    subst ex; subst eH
    obtain ⟨d, ds, g1, g2, l, vs, g3, g4, g5⟩ := hk i en hen
    have eT : Same H' (upd H' T (.tup [.ref en.2.1, en.2.2])) := fun b o q => by rw [upd_ne (ne_of_none q hT)]; exact q
    refine ⟨T, [.ref en.2.1, en.2.2], rfl, SqT.of upd_same, rfl, _, _, rfl, _, _, rfl, rfl, ?_⟩
    have lne : l ≠ dt := fun z => by rw [z, hd] at g4; cases g4
    have glc : Hc l = some (.lst vs) := core l _ (by rw [upd_ne lne]; exact g4) fun z => by
      obtain ⟨⟨φ, q2⟩, _⟩ := hZ l z
      rw [g4] at q2; cases q2
    have rpd : Rp X.K G' d (.ref en.2.1) := ((g2.mono tpG).mono tpc).mono (Same.tup cg)
    have rpl : RpAll X.K G' ds vs := ((g5.mono tpG).mono tpc).mono (Same.tup cg)
    have F2 := F'.same eT
    have F3 : Fm X.K G' ((σ'.set i1 (some (.ref en.2.1))).set i2 (some en.2.2)) ((Γ'.set i1 (.d d)).set i2 (.bw ds)) (upd H' T (.tup [.ref en.2.1, en.2.2])) := (F2.setG (av := .d d) rpd).setG (av := .bw ds) ⟨l, vs, g3, SqL.of (cg _ _ glc), rpl⟩
    exact hb od Hc core cz i d ds g1 G' Γ' cg j _ _ F3
  · have ei : i = m.length := by omega
    subst ei
    have hG' := cg _ _ hcd
    rw [hl] at j
    exact .inl ⟨⟨F'.ex _ _ hG', Nat.le_refl _⟩, F'.ex _ _ hG', hr od Hc core cz G' Γ' cg j σ' _ (F'.swap hG' (fun _ q => by cases q) (fun _ _ q => by cases q) nk (fun _ q => by cases q) (fun _ _ q => by cases q))⟩
end
end WB
namespace WB
open PySem PySem.Spec PyProof.Rows L2
/-! ### the solver's state -/
def Zs (dk df : Addr) : Addr → Prop := fun x => x = dk ∨ x = df
def costK (k h t : Int) : D := .tup [.int k, .int h, .int t]
def Cst (R : List Nat) (cm : List (D × D)) : Prop := ∀ (pre rs : List Nat) (m : Nat), R = pre ++ m :: rs → ∀ h t v, gapD h t v ∈ gapsD rs m → dget cm (costK rs.length h t) = some (ti [1])
def svF (lv : V) (dc : Addr) (nv : V) (dk df : Addr) : List (Str × V) := [("lock", lv), ("costs", .ref dc), ("nothing", nv), ("known", .ref dk), ("families", .ref df)]
structure Sv (P : Program) (w : World) (K : PySem.W.Frag) (R : List Nat) (a dk df : Addr) (G : Hp) (kn fm : List (D × D)) : Prop where
  ex : ∃ dx lv dc nv cm, G a = some (.ins (He.ga K "Solver") dx (svF lv dc nv dk df)) ∧ Rp K G (.tup (lockD R)) lv ∧ Dic P w K G dc cm ∧ Cst R cm ∧ Rp K G (ti [0]) nv ∧ dc ≠ dk ∧ dc ≠ df
  kn : Dic P w K G dk kn
  fm : Dic P w K G df fm
  ne : dk ≠ df
section
variable {P : Program} {w : World} {K : PySem.W.Frag} {R : List Nat} {a dk df : Addr} {G G1 G2 H : Hp} {kn fm kn' fm' : List (D × D)} {Z : Addr → Prop}
theorem Sv.mono (S : Sv P w K R a dk df G kn fm) (s : Same G G1) : Sv P w K R a dk df G1 kn fm := by
  obtain ⟨dx, lv, dc, nv, cm, h1, h2, h3, h4, h5, h6, h7⟩ := S.ex
  exact ⟨⟨dx, lv, dc, nv, cm, s _ _ h1, h2.mono (Same.tup s), h3.mono s, h4, h5.mono (Same.tup s), h6, h7⟩, S.kn.mono s, S.fm.mono s, S.ne⟩
theorem Sv.tra (S : Sv P w K R a dk df G1 kn fm) (t : Tra Z H G1 G2) : Sv P w K R a dk df G2 kn fm := by
  obtain ⟨dx, lv, dc, nv, cm, h1, h2, h3, h4, h5, h6, h7⟩ := S.ex
  exact ⟨⟨dx, lv, dc, nv, cm, t _ _ h1 (.inl fun _ q => by cases q), h2.mono t.tps, h3.tra t, h4, h5.mono t.tps, h6, h7⟩, S.kn.tra t, S.fm.tra t, S.ne⟩
theorem Dic.ext (h : Dic P w K G dk kn) : (∃ φ, G dk = some (.ext φ)) ∧ K.lookup dk = none := by
  obtain ⟨n, xs, e, _⟩ := h
  exact ⟨⟨_, e⟩, n⟩
theorem Sv.zext (S : Sv P w K R a dk df G kn fm) : ZExt K G (Zs dk df) := fun x hx => by
  rcases hx with rfl | rfl
  · exact S.kn.ext
  · exact S.fm.ext
/-- tuples stay where only things of one's own telling change -/
theorem core_tps (h : ∀ x, Z x → ∃ φ, G x = some (.ext φ)) (c : Core Z G G1) : Tps K G G1 := fun x xs hx => by
  rcases hx with (hx | ⟨o, hx⟩) | hx
  · exact .inl (.inl (c x _ hx fun z => by obtain ⟨φ, q⟩ := h x z; rw [hx] at q; cases q))
  · exact .inl (.inr ⟨o, c x _ hx fun z => by obtain ⟨φ, q⟩ := h x z; rw [hx] at q; cases q⟩)
  · exact .inr hx
theorem Dic.core (h : Dic P w K G dk kn) (hx : ∀ x, Z x → ∃ φ, G x = some (.ext φ)) (c : Core Z G G1) (n : ¬ Z dk) : Dic P w K G1 dk kn := by
  obtain ⟨nk, xs, e, r⟩ := h
  exact ⟨nk, xs, c _ _ e n, r.mono (core_tps hx c)⟩
theorem Sv.core (S : Sv P w K R a dk df G kn fm) (hx : ∀ x, Z x → x = dk ∨ x = df) (c : Core Z G G1) (h1 : Dic P w K G1 dk kn') (h2 : Dic P w K G1 df fm') : Sv P w K R a dk df G1 kn' fm' := by
  obtain ⟨dx, lv, dc, nv, cm, g1, g2, g3, g4, g5, g6, g7⟩ := S.ex
  have hz : ∀ x, Z x → ∃ φ, G x = some (.ext φ) := fun x z => (S.zext x (hx x z)).1
  have na : ¬ Z a := fun z => by
    obtain ⟨φ, q⟩ := hz a z
    rw [g1] at q; cases q
  exact ⟨⟨dx, lv, dc, nv, cm, c _ _ g1 na, g2.mono (core_tps hz c), g3.core hz c (fun z => (hx dc z).elim g6 g7), g4, g5.mono (core_tps hz c), g6, g7⟩, h1, h2, S.ne⟩
/-- the table of known rows is stored to -/
theorem Sv.setK (S : Sv P w K R a dk df G kn fm) (c : Core (fun x => x = dk) G G1) (h1 : Dic P w K G1 dk kn') : Sv P w K R a dk df G1 kn' fm :=
  S.core (fun x z => .inl z) c h1 (S.fm.core (fun x z => by subst z; exact S.kn.ext.1) c fun z => S.ne z.symm)
theorem Sv.setF (S : Sv P w K R a dk df G kn fm) (c : Core (fun x => x = df) G G1) (h1 : Dic P w K G1 df fm') : Sv P w K R a dk df G1 kn fm' :=
  S.core (fun x z => .inr z) c (S.kn.core (fun x z => by subst z; exact S.fm.ext.1) c fun z => S.ne z) h1
end
/-! attributes of the solver -/
section
variable {X : Cx} {G H0 : Hp} {Γ : List AV} {o : Expr} {pos : Pos} {R : List Nat} {a dk df : Addr} {kn fm : List (D × D)}
theorem gv_known (T : Tx X.K X.mg) (S : Sv X.prog X.w X.K R a dk df G kn fm) (ho : GV X G Γ o (.v (.ref a))) (hb : attributeBase o "known" X.env (eval o X.env) = eval o X.env := by rfl) : GV X G Γ (.Attribute o "known" pos) (.v (.ref dk)) := by
  obtain ⟨dx, lv, dc, nv, cm, h1, _⟩ := S.ex
  exact gv_fld ho h1 T.cls_Solver T.n_Solver_known rfl hb
theorem gv_fams (T : Tx X.K X.mg) (S : Sv X.prog X.w X.K R a dk df G kn fm) (ho : GV X G Γ o (.v (.ref a))) (hb : attributeBase o "families" X.env (eval o X.env) = eval o X.env := by rfl) : GV X G Γ (.Attribute o "families" pos) (.v (.ref df)) := by
  obtain ⟨dx, lv, dc, nv, cm, h1, _⟩ := S.ex
  exact gv_fld ho h1 T.cls_Solver T.n_Solver_families rfl hb
theorem ge_lockF (T : Tx X.K X.mg) (S : Sv X.prog X.w X.K R a dk df G kn fm) (ho : GV X G Γ o (.v (.ref a))) (hb : attributeBase o "lock" X.env (eval o X.env) = eval o X.env := by rfl) : GE X G Γ (.Attribute o "lock" pos) (.tup (lockD R)) := by
  obtain ⟨dx, lv, dc, nv, cm, h1, h2, _⟩ := S.ex
  exact ge_fld ho h1 T.cls_Solver T.n_Solver_lock rfl h2 hb
theorem ge_nothing (T : Tx X.K X.mg) (S : Sv X.prog X.w X.K R a dk df G kn fm) (ho : GV X G Γ o (.v (.ref a))) (hb : attributeBase o "nothing" X.env (eval o X.env) = eval o X.env := by rfl) : GE X G Γ (.Attribute o "nothing" pos) (ti [0]) := by
  obtain ⟨dx, lv, dc, nv, cm, h1, _, _, _, h5, _⟩ := S.ex
  exact ge_fld ho h1 T.cls_Solver T.n_Solver_nothing rfl h5 hb
end
/-! ### the depth of keys -/
theorem dep_nums : ∀ ns : List Int, NestedKey.depthAll (ns.map NestedKey.num) = 0
  | [] => by simp [NestedKey.depthAll]
  | n :: ns => by simp [NestedKey.depthAll, NestedKey.depth, dep_nums ns]
theorem row_dep (x y : List Int) : (rowD x y).key.depth ≤ 8 := by
  have e : (rowD x y).key = .tup [.tup (x.map NestedKey.num), .tup (y.map NestedKey.num)] := by
    show NestedKey.tup [(ti x).key, (ti y).key] = _
    rw [ti_key, ti_key]
  rw [e]
  simp [NestedKey.depth, NestedKey.depthAll, dep_nums]
theorem row_key {x y x' y' : List Int} : (rowD x y).key = (rowD x' y').key ↔ x = x' ∧ y = y' := by
  have e : ∀ x y, (rowD x y).key = .tup [.tup (x.map NestedKey.num), .tup (y.map NestedKey.num)] := fun x y => by
    show NestedKey.tup [(ti x).key, (ti y).key] = _
    rw [ti_key, ti_key]
  rw [e, e]
  constructor
  · intro h
    injection h with h
    injection h with h1 h2
    injection h2 with h2 _
    injection h1 with h1
    injection h2 with h2
    exact ⟨map_num_inj h1, map_num_inj h2⟩
  · rintro ⟨rfl, rfl⟩; rfl
/-! ### lessen -/
def cellV : Option Int → D
  | none => .non
  | some t => ti [t]
def cellD (c : Option Int × D) : D := .tup [cellV c.1, c.2]
/-- a turn: its price ahead, the row behind it, what is told -/
structure Tn where
  c : Int
  x : List Int
  told : D
def tnD (y : List Int) (t : Tn) : D := .tup [ti [t.c], rowD t.x y, t.told]
def lessStep (wo : List Int → Option Int) (s : (Option Int × D) × Bool) (t : Tn) : (Option Int × D) × Bool :=
  match wo t.x with
  | none => s
  | some v => match s.1.1 with
    | none => ((some (t.c + v), t.told), true)
    | some b => if t.c + v < b then ((some (t.c + v), t.told), true) else s
def lessF (wo : List Int → Option Int) (s : (Option Int × D) × Bool) (ts : List Tn) : (Option Int × D) × Bool := ts.foldl (lessStep wo) s
structure LessPost (kn kn' : List (D × D)) (x y : List Int) (r : (Option Int × D) × Bool) : Prop where
  at_ : dget kn' (rowD x y) = some (cellD r.1)
  oth : ∀ q : D, q.key ≠ (rowD x y).key → dget kn' q = dget kn q
  keys : kn'.map (·.1.key) = kn.map (·.1.key)
  no : r.2 = false → kn' = kn
def spLessen (P : Program) (w : World) (K : PySem.W.Frag) (R : List Nat) : Sp := fun vs H Q _ => ∃ (a dk df : Addr) (kn fm : List (D × D)) (x y : List Int) (ts : List Tn) (cur : Option Int × D) (wo : List Int → Option Int) (rowv : V) (l : Addr) (tv : List V), vs = [.ref a, rowv, .ref l] ∧ Sv P w K R a dk df H kn fm ∧ Rp K H (rowD x y) rowv ∧ SqL K H l tv ∧ RpAll K H (ts.map (tnD y)) tv ∧ ts.length ≤ 1000 ∧ kn.length < 1000000 ∧ dget kn (rowD x y) = some (cellD cur) ∧
  (∀ t ∈ ts, t.x ≠ x ∧ ∃ tl, dget kn (rowD t.x y) = some (cellD (wo t.x, tl))) ∧
  ∀ v G1 H', Core (Zs dk df) H G1 → Same G1 H' → (∃ kn', Sv P w K R a dk df G1 kn' fm ∧ LessPost kn kn' x y (lessF wo (cur, false) ts) ∧ v = .bl (lessF wo (cur, false) ts).2) → Q v H'
section
variable {P : Program} {w : World} {K : PySem.W.Frag} {mg : Str → Option Value} {base : Heap}
theorem mtd_make {Cc f : Addr} {m x qual : Str} {params : Arguments} {body : List Stmt} {scope : Scope} {N ps : List Str} {k : Nat} {sp : Sp} (hc : Cls K Cc) (hm : Meth K Cc m f) (hF : ∃ fd, FunD K x qual params body scope [] [] f fd) (S : FnScope N ps scope)
    (hbn : ∀ (kV doc pm : Value) (an : Option Addr) (cdv ct : Value) (us : List Value), us.length = ps.length → bindArgs (PySem.W.fnOf x qual params body scope .none kV doc pm an cdv ct) ⟨us, []⟩ = pure (ps.zip us)) (hlen : ∀ vs H Q E, sp vs H Q E → vs.length = ps.length)
    (hb : ∀ (cdv : Value) (A : Around) (outer : List Env) (s : Shared) (H : Hp) (vs : List V) (Q : VK) (E : XK), Cok (cxOf CX0 P w K mg base N qual scope f cdv A outer s H E).nox k → sp vs H Q E → SR (cxOf CX0 P w K mg base N qual scope f cdv A outer s H E).nox body { nx := fun _ H' => Q .non H', rt := Q } (L2.start N vs) H) : Mtd P w K mg base Cc m ps (k + 1) sp := by
  obtain ⟨fd, F⟩ := hF
  exact ⟨hc, f, fd, hm, fnx F S hlen hb, F.bindsN hbn⟩
theorem lessF_take (wo : List Int → Option Int) (s : (Option Int × D) × Bool) (ts : List Tn) (i : Nat) (t : Tn) (h : ts[i]? = some t) : lessF wo s (ts.take (i + 1)) = lessStep wo (lessF wo s (ts.take i)) t := by
  unfold lessF
  rw [List.take_add_one, h, List.foldl_append]; rfl
theorem core_fix {dk df : Addr} {Hc G G2 : Hp} (h : Same Hc G) (c : Core (fun x => x = dk) G G2) (z : ∀ a, Zs dk df a → Hc a = none) : Same Hc G2 := fun x o e => c x o (h x o e) fun q => by
  have := z x (.inl q)
  rw [e] at this; cases this
theorem sc_lessen : FnScope ["self", "row", "turns", "is_less", "price", "rest", "told", "worth", "total"] ["self", "row", "turns"] (defScope s_Solver_lessen) := ⟨rfl, rfl, rfl, by decide +kernel, rfl, by decide +kernel, by decide +kernel⟩
theorem c_lessen (T : Tx K mg) (R : List Nat) : Mtd P w K mg base (He.ga K "Solver") "lessen" ["self", "row", "turns"] 2 (spLessen P w K R) := by
  refine mtd_make (N := ["self", "row", "turns", "is_less", "price", "rest", "told", "worth", "total"]) (k := 1) T.cls_Solver T.m_Solver_lessen T.f_Solver_lessen sc_lessen (fun _ _ _ _ _ _ us hl => match us, hl with | [_, _, _], _ => rfl) ?_ ?_
  · rintro vs H Q E ⟨a, dk, df, kn, fm, x, y, ts, cur, wo, rowv, l, tv, rfl, _⟩; rfl
  · rintro cdv A outer s H vs Q E C ⟨a, dk, df, kn, fm, x, y, ts, cur, wo, rowv, l, tv, rfl, S, hrow, hl, hts, hn, hkl, hcur, hwo, hq⟩
    refine (?_ : GS _ H ([.v (.ref a), .d (rowD x y), .bw (ts.map (tnD y))] ++ [.no, .no, .no, .no, .no, .no]) _ _) _ _ (fm_start (as := [.v (.ref a), .d (rowD x y), .bw (ts.map (tnD y))]) ⟨_, _, rfl, rfl, _, _, rfl, hrow, _, _, rfl, ⟨l, tv, rfl, hl, hts⟩, rfl⟩ (Nat.le_of_ble_eq_true rfl))
    refine gs_set C 3 ge_bl ?_
    refine gs_forX (els := ts.map (tnD y)) C (js := [4, 5, 6]) (fun d Γ => match d with | .tup [a, b, c] => ((Γ.set 4 (.d a)).set 5 (.d b)).set 6 (.d c) | _ => Γ) (Zs dk df) (fun _ i G' Γ' => ∃ kn', Sv P w K R a dk df G' kn' fm ∧ LessPost kn kn' x y (lessF wo (cur, false) (ts.take i)) ∧ Γ' = [.v (.ref a), .d (rowD x y), .bw (ts.map (tnD y)), .d (.bl (lessF wo (cur, false) (ts.take i)).2), .no, .no, .no, .no, .no]) (gi_var 2) ?_ (zok_ext S.zext) ?_ ?_ ?_
    · intro i d hd
      obtain ⟨t, _, rfl⟩ := List.mem_map.mp (List.mem_of_getElem? hd)
      exact tg_tup C (tgs_cons (tg_name C 4) (tgs_cons (tg_name C 5) (tgs_cons (tg_name C 6) tgs_nil)))
    · intro Hc G c1 c2 c3 _
      exact ⟨kn, S.mono c2, ⟨hcur, fun _ _ => rfl, rfl, fun _ => rfl⟩, rfl⟩
    · intro Hc core cz i d hd G Γ' cg ⟨kn', S', LP, eΓ⟩
      subst eΓ
      rw [List.getElem?_map] at hd
      obtain ⟨t, ht, rfl⟩ := Option.map_eq_some_iff.mp hd
      have est := lessF_take wo (cur, false) ts i t ht
      generalize lessF wo (cur, false) (ts.take i) = st at LP est
      obtain ⟨hne, tl, hget⟩ := hwo t (List.mem_of_getElem? ht)
      have hkne : (rowD t.x y).key ≠ (rowD x y).key := fun z => hne (row_key.mp z).1
      have hget' : dget kn' (rowD t.x y) = some (cellD (wo t.x, tl)) := (LP.oth _ hkne).trans hget
      refine gs_set C 7 (ge_ixT (ds := [cellV (wo t.x), tl]) (d := cellV (wo t.x)) (ge_dget C (gv_known T S' (gv_var 0 rfl (fun q => by cases q))) (ge_var (x := rowD t.x y) 5) S'.kn hget' (row_dep _ _)) ge_int) ?_
      cases hw : wo t.x with
      | none =>
        have e2 : lessStep wo st t = st := by unfold lessStep; rw [hw]
        refine gs_unless (gt_of (gt_notN (ge_var (x := .non) 7)) rfl) ?_
        refine gs_nil fun σ H F => ⟨G, _, cg, ⟨kn', S', by rw [est, e2]; exact LP, rfl⟩, ?_⟩
        rw [est, e2]
        exact F.weak ⟨.inr rfl, .inr rfl, .inr rfl, .inr rfl, .inl rfl, .inl rfl, .inl rfl, .inl rfl, .inr rfl, trivial⟩
      | some v =>
        refine gs_when (gt_of (gt_notN (ge_var (x := ti [v]) 7)) rfl) ?_
        refine gs_set C 8 (ge_call (c_added T) C.hr (gac (ge_var (x := ti [t.c]) 4) (gac1 (ge_var (x := ti [v]) 7))) ⟨t.c, v, rfl, rfl⟩) ?_
        have hlen : kn'.length < 1000000 := by have := congrArg List.length LP.keys; rw [List.length_map, List.length_map] at this; omega
        have post : ∀ k : (Option Int × D), LessPost kn (dset kn' (rowD x y) (cellD k)) x y (k, true) := fun k => by
          refine ⟨?_, fun q hq => ?_, ?_, fun z => by cases z⟩
          · rw [dget_dset, if_pos rfl]
          · rw [dget_dset, if_neg fun z => hq z.symm]; exact LP.oth q hq
          · rw [dset_keys, LP.at_]; exact LP.keys
        cases hc : st.1.1 with
        | none =>
          have e2 : lessStep wo st t = ((some (t.c + v), t.told), true) := by unfold lessStep; rw [hw, hc]
          refine gs_when (GW.t (k0 := true || true) (gw_or (k1 := true) (k2 := true) (gt_of (gt_isN (x := .non) (ge_ixT (ds := [cellV st.1.1, st.1.2]) (ge_dget C (gv_known T S' (gv_var 0 rfl (fun q => by cases q))) (ge_var (x := rowD x y) 1) S'.kn LP.at_ (row_dep _ _)) ge_int (by rw [hc]; rfl))) rfl) fun q => by cases q)) ?_
          refine gs_dset C (gy_of (ge_tup (ds := [ti [t.c + v], t.told]) (gac (ge_var (x := ti [t.c + v]) 8) (gac1 (ge_var (x := t.told) 6))))) fun vv G1 ⟨s1, r1⟩ => ⟨dk, kn', [ti x, ti y], cellD (some (t.c + v), t.told), (S'.mono s1).kn, r1, gv_known T (S'.mono s1) (gv_var 0 rfl (fun q => by cases q)), ge_var (x := rowD x y) 1, hlen, row_dep _ _, fun G2 c2 hd2 => ?_⟩
          refine gs_set C 3 ge_bl (gs_end (gs_end (gs_nil fun σ H F => ⟨G2, _, core_fix (cg.trans s1) c2 cz, ⟨_, (S'.mono s1).setK c2 hd2, by rw [est, e2]; exact post _, rfl⟩, ?_⟩)))
          rw [est, e2]
          exact F.weak ⟨.inr rfl, .inr rfl, .inr rfl, .inr rfl, .inl rfl, .inl rfl, .inl rfl, .inl rfl, .inl rfl, trivial⟩
        | some b =>
          refine gs_if (k0 := false || HT.lexLt [t.c + v] [b]) (GW.t (gw_or (k1 := false) (gt_of (gt_isN (x := ti [b]) (ge_ixT (ds := [cellV st.1.1, st.1.2]) (ge_dget C (gv_known T S' (gv_var 0 rfl (fun q => by cases q))) (ge_var (x := rowD x y) 1) S'.kn LP.at_ (row_dep _ _)) ge_int (by rw [hc]; rfl))) rfl) fun _ => gw_or1 (gt_cmp (op_ltT C.h0) d_ltT (ge_var (x := ti [t.c + v]) 8) (ge_ixT (ds := [cellV st.1.1, st.1.2]) (d := ti [b]) (ge_dget C (gv_known T S' (gv_var 0 rfl (fun q => by cases q))) (ge_var (x := rowD x y) 1) S'.kn LP.at_ (row_dep _ _)) ge_int (by rw [hc]; rfl))))) (fun hk => ?_) (fun hk => ?_)
          · have hlt : t.c + v < b := by
              rw [Bool.false_or, HT.lexLt_cons] at hk
              by_cases hq : t.c + v = b
              · rw [if_pos hq] at hk; cases hk
              · rw [if_neg hq] at hk; exact of_decide_eq_true hk
            have e2 : lessStep wo st t = ((some (t.c + v), t.told), true) := by unfold lessStep; rw [hw, hc]; show (if t.c + v < b then _ else _) = _; rw [if_pos hlt]
            refine gs_dset C (gy_of (ge_tup (ds := [ti [t.c + v], t.told]) (gac (ge_var (x := ti [t.c + v]) 8) (gac1 (ge_var (x := t.told) 6))))) fun vv G1 ⟨s1, r1⟩ => ⟨dk, kn', [ti x, ti y], cellD (some (t.c + v), t.told), (S'.mono s1).kn, r1, gv_known T (S'.mono s1) (gv_var 0 rfl (fun q => by cases q)), ge_var (x := rowD x y) 1, hlen, row_dep _ _, fun G2 c2 hd2 => ?_⟩
            refine gs_set C 3 ge_bl (gs_end (gs_end (gs_nil fun σ H F => ⟨G2, _, core_fix (cg.trans s1) c2 cz, ⟨_, (S'.mono s1).setK c2 hd2, by rw [est, e2]; exact post _, rfl⟩, ?_⟩)))
            rw [est, e2]
            exact F.weak ⟨.inr rfl, .inr rfl, .inr rfl, .inr rfl, .inl rfl, .inl rfl, .inl rfl, .inl rfl, .inl rfl, trivial⟩
          · have hlt : ¬ t.c + v < b := fun z => by
              rw [Bool.false_or, HT.lexLt_cons, if_neg (by omega), decide_eq_true z] at hk; cases hk
            have e2 : lessStep wo st t = st := by unfold lessStep; rw [hw, hc]; show (if t.c + v < b then _ else _) = _; rw [if_neg hlt]
            refine gs_end (gs_end (gs_nil fun σ H F => ⟨G, _, cg, ⟨kn', S', by rw [est, e2]; exact LP, rfl⟩, ?_⟩))
            rw [est, e2]
            exact F.weak ⟨.inr rfl, .inr rfl, .inr rfl, .inr rfl, .inl rfl, .inl rfl, .inl rfl, .inl rfl, .inl rfl, trivial⟩
    · intro Hc core cz G Γ' cg ⟨kn', S', LP, eΓ⟩
      subst eΓ
      rw [List.length_map, List.take_length] at LP
      rw [List.length_map, List.take_length]
      refine gs_retY (gy_of (ge_var (x := .bl (lessF wo (cur, false) ts).2) 3)) fun v G2 H' ⟨s2, r2⟩ s3 => ?_
      exact hq v G2 H' ((core.then cg).then s2) s3 ⟨kn', S'.mono s2, LP, r2⟩
end
end WB
namespace WB
open PySem PySem.Spec PyProof.Rows L2
/-! ### which rows are met -/
def Nd : List Nat → List Int → Prop
  | [], x => x = []
  | m :: rs, x => ∃ u p, x = u ++ [p] ∧ Ends2 rs u ∧ 0 ≤ p ∧ p ≤ (m : Int) - 1
theorem Nd.wd : ∀ {rs : List Nat} {x : List Int}, Ok24 rs → Nd rs x → Wd rs x
  | [], _, _, h => h
  | m :: rs, _, ok, ⟨u, p, e, hu, h0, h1⟩ => ⟨u, p, e, hu.wd ok.tl, h0, h1⟩
theorem Ends2.nd : ∀ {rs : List Nat} {x : List Int}, Ok24 rs → Ends2 rs x → Nd rs x
  | [], _, _, h => by rcases h with h | h <;> exact h
  | m :: rs, _, ok, h => by
    have hm := ok.hd
    rcases h with h | h
    · exact ⟨E0 rs, 0, h, .inl rfl, Int.le_refl 0, by omega⟩
    · refine ⟨_, _, h.trans (E1_snoc m rs), ?_, by omega, Int.le_refl _⟩
      split
      · exact .inl rfl
      · exact .inr rfl
def famD (n : Nat) (y : List Int) : D := .tup [.int n, .tup [ti y]]
theorem fam_key {n n' : Nat} {y y' : List Int} : (famD n y).key = (famD n' y').key ↔ n = n' ∧ y = y' := by
  have e : ∀ (n : Nat) y, (famD n y).key = .tup [.num n, .tup [.tup (y.map NestedKey.num)]] := fun n y => by
    show NestedKey.tup [.num n, .tup [(ti y).key]] = _
    rw [ti_key]
  rw [e, e]
  constructor
  · intro h
    injection h with h
    injection h with h1 h2
    injection h2 with h2 _
    injection h1 with h1
    injection h2 with h2
    injection h2 with h2 _
    injection h2 with h2
    exact ⟨by omega, map_num_inj h2⟩
  · rintro ⟨rfl, rfl⟩; rfl
theorem fam_dep (n : Nat) (y : List Int) : (famD n y).key.depth ≤ 8 := by
  have e : (famD n y).key = .tup [.num n, .tup [.tup (y.map NestedKey.num)]] := by
    show NestedKey.tup [.num n, .tup [(ti y).key]] = _
    rw [ti_key]
  rw [e]
  simp [NestedKey.depth, NestedKey.depthAll, dep_nums]
/-! a table's size -/
def nodes : List Nat → List (List Int)
  | [] => [[]]
  | m :: rs => [E0 rs, E1 rs].flatMap fun u => (List.range m).map fun (p : Nat) => u ++ [(p : Int)]
def rowsAt (rs : List Nat) : List NestedKey := (nodes rs).flatMap fun x => [(rowD x (E0 rs)).key, (rowD x (E1 rs)).key]
theorem nodes_mem {rs : List Nat} {x : List Int} (h : Nd rs x) : x ∈ nodes rs := by
  cases rs with
  | nil => rw [show x = [] from h]; exact List.mem_cons_self
  | cons m rs =>
    obtain ⟨u, p, e, hu, h0, h1⟩ := h
    refine List.mem_flatMap.mpr ⟨u, ?_, List.mem_map.mpr ⟨p.toNat, List.mem_range.mpr (by omega), ?_⟩⟩
    · rcases hu with hu | hu <;> rw [hu] <;> simp
    · rw [e]
      have : ((p.toNat : Nat) : Int) = p := by omega
      rw [this]
theorem rowsAt_mem {rs : List Nat} {x y : List Int} (h : Nd rs x) (hy : Ends2 rs y) : (rowD x y).key ∈ rowsAt rs :=
  List.mem_flatMap.mpr ⟨x, nodes_mem h, by rcases hy with hy | hy <;> rw [hy] <;> simp⟩
theorem rowsAt_len {rs : List Nat} (ok : Ok24 rs) : (rowsAt rs).length ≤ 16 := by
  unfold rowsAt
  have h2 : ∀ l : List (List Int), (l.flatMap fun x => [(rowD x (E0 rs)).key, (rowD x (E1 rs)).key]).length = 2 * l.length := by
    intro l
    induction l with
    | nil => rfl
    | cons x l ih => rw [List.flatMap_cons, List.length_append, ih, List.length_cons]; simp; omega
  rw [h2]
  cases rs with
  | nil => simp [nodes]
  | cons m rs =>
    have hm := ok.hd
    simp [nodes]; omega
theorem nodup_len {α : Type} [DecidableEq α] : ∀ {l L : List α}, l.Nodup → (∀ x ∈ l, x ∈ L) → l.length ≤ L.length
  | [], _, _, _ => Nat.zero_le _
  | x :: l, L, hn, hs => by
    obtain ⟨h1, h2⟩ := List.nodup_cons.mp hn
    have hx := hs x List.mem_cons_self
    have := nodup_len (l := l) (L := L.erase x) h2 fun y hy => (List.mem_erase_of_ne fun e => h1 (by rw [← e]; exact hy)).mpr (hs y (List.mem_cons_of_mem _ hy))
    rw [List.length_erase_of_mem hx] at this
    have : 0 < L.length := List.length_pos_of_mem hx
    rw [List.length_cons]; omega
theorem flat_bound {β : Type} (f : Nat → List β) (k : Nat) (h : ∀ n, (f n).length ≤ k) : ∀ N, ((List.range N).flatMap f).length ≤ k * N
  | 0 => by simp
  | N + 1 => by
    rw [List.range_succ, List.flatMap_append, List.length_append]
    have h1 := flat_bound f k h N
    have h2 := h N
    simp only [List.flatMap_cons, List.flatMap_nil, List.append_nil]
    rw [Nat.mul_succ]; omega
structure KOk (R : List Nat) (kn : List (D × D)) : Prop where
  nd : (kn.map (·.1.key)).Nodup
  all : ∀ e ∈ kn, ∃ n x y, n ≤ R.length ∧ e.1.key = (rowD x y).key ∧ Nd (low R n) x ∧ Ends2 (low R n) y
structure FOk (R : List Nat) (fm : List (D × D)) : Prop where
  nd : (fm.map (·.1.key)).Nodup
  all : ∀ e ∈ fm, ∃ n y, n ≤ R.length ∧ e.1.key = (famD n y).key ∧ Ends2 (low R n) y
theorem Ok24.low {R : List Nat} (ok : Ok24 R) (n : Nat) : Ok24 (low R n) := fun x hx => ok x (List.mem_of_mem_drop hx)
theorem KOk.len {R : List Nat} {kn : List (D × D)} (h : KOk R kn) (ok : Ok24 R) : kn.length ≤ 16 * (R.length + 1) := by
  have h1 : (kn.map (·.1.key)).length ≤ ((List.range (R.length + 1)).flatMap fun n => rowsAt (low R n)).length := nodup_len h.nd fun k hk => by
    obtain ⟨e, he, rfl⟩ := List.mem_map.mp hk
    obtain ⟨n, x, y, hn, ek, hx, hy⟩ := h.all e he
    rw [ek]
    exact List.mem_flatMap.mpr ⟨n, List.mem_range.mpr (by omega), rowsAt_mem hx hy⟩
  have h2 := flat_bound (fun n => rowsAt (low R n)) 16 (fun n => rowsAt_len (ok.low n)) (R.length + 1)
  rw [List.length_map] at h1; omega
theorem FOk.len {R : List Nat} {fm : List (D × D)} (h : FOk R fm) : fm.length ≤ 2 * (R.length + 1) := by
  have h1 : (fm.map (·.1.key)).length ≤ ((List.range (R.length + 1)).flatMap fun n => [(famD n (E0 (low R n))).key, (famD n (E1 (low R n))).key]).length := nodup_len h.nd fun k hk => by
    obtain ⟨e, he, rfl⟩ := List.mem_map.mp hk
    obtain ⟨n, y, hn, ek, hy⟩ := h.all e he
    rw [ek]
    exact List.mem_flatMap.mpr ⟨n, List.mem_range.mpr (by omega), by rcases hy with hy | hy <;> rw [hy] <;> simp⟩
  have h2 := flat_bound (fun n => [(famD n (E0 (low R n))).key, (famD n (E1 (low R n))).key]) 2 (fun n => Nat.le_refl _) (R.length + 1)
  rw [List.length_map] at h1; omega
theorem dset_nodup {m : List (D × D)} {k v : D} (h : (m.map (·.1.key)).Nodup) : ((dset m k v).map (·.1.key)).Nodup := by
  rw [dset_keys]
  cases hg : dget m k with
  | some c => exact h
  | none =>
    refine List.nodup_append.mpr ⟨h, List.nodup_cons.mpr ⟨fun z => (by cases z), List.Pairwise.nil⟩, fun x hx y hy e => ?_⟩
    obtain ⟨en, hen, rfl⟩ := List.mem_map.mp hx
    rw [List.mem_singleton.mp hy] at e
    exact dget_none hg en hen e
theorem dset_mem {m : List (D × D)} {k v : D} {e : D × D} (h : e ∈ dset m k v) : e.1.key = k.key ∨ ∃ e' ∈ m, e'.1.key = e.1.key := by
  have hk : e.1.key ∈ (dset m k v).map (·.1.key) := List.mem_map.mpr ⟨e, h, rfl⟩
  rw [dset_keys] at hk
  split at hk
  · obtain ⟨e', h1, h2⟩ := List.mem_map.mp hk
    exact .inr ⟨e', h1, h2⟩
  · rcases List.mem_append.mp hk with z | z
    · obtain ⟨e', h1, h2⟩ := List.mem_map.mp z
      exact .inr ⟨e', h1, h2⟩
    · exact .inl (List.mem_singleton.mp z)
theorem KOk.set {R : List Nat} {kn : List (D × D)} (h : KOk R kn) {n : Nat} {x y : List Int} {v : D} (hn : n ≤ R.length) (hx : Nd (low R n) x) (hy : Ends2 (low R n) y) : KOk R (dset kn (rowD x y) v) := by
  refine ⟨dset_nodup h.nd, fun e he => ?_⟩
  rcases dset_mem he with z | ⟨e', h1, h2⟩
  · exact ⟨n, x, y, hn, z, hx, hy⟩
  · obtain ⟨n', x', y', a, b, c, d⟩ := h.all e' h1
    exact ⟨n', x', y', a, by rw [← h2]; exact b, c, d⟩
theorem FOk.set {R : List Nat} {fm : List (D × D)} (h : FOk R fm) {n : Nat} {y : List Int} {v : D} (hn : n ≤ R.length) (hy : Ends2 (low R n) y) : FOk R (dset fm (famD n y) v) := by
  refine ⟨dset_nodup h.nd, fun e he => ?_⟩
  rcases dset_mem he with z | ⟨e', h1, h2⟩
  · exact ⟨n, y, hn, z, hy⟩
  · obtain ⟨n', y', a, b, d⟩ := h.all e' h1
    exact ⟨n', y', a, by rw [← h2]; exact b, d⟩
theorem KOk.same {R : List Nat} {kn kn' : List (D × D)} (h : KOk R kn) (e : kn'.map (·.1.key) = kn.map (·.1.key)) : KOk R kn' := by
  refine ⟨by rw [e]; exact h.nd, fun en hen => ?_⟩
  have hk : en.1.key ∈ kn'.map (·.1.key) := List.mem_map.mpr ⟨en, hen, rfl⟩
  rw [e] at hk
  obtain ⟨e', h1, h2⟩ := List.mem_map.mp hk
  obtain ⟨n, x, y, a, b, c, d⟩ := h.all e' h1
  exact ⟨n, x, y, a, by rw [← h2]; exact b, c, d⟩
/-! the levels below N are right -/
structure Good (R : List Nat) (N : Nat) (kn fm : List (D × D)) : Prop where
  ex : ∀ n, n < N → n ≤ R.length → ∀ x y c, Nd (low R n) x → Ends2 (low R n) y → dget kn (rowD x y) = some c → c = exC (low R n) x y
  fam : ∀ n m, n + 1 < N → n < R.length → low R (n + 1) = m :: low R n → ∀ y, Ends2 (low R (n + 1)) y → (dget fm (famD (n + 1) y)).isSome = true → ∀ h t w, gapD h t w ∈ gapsD (low R n) m → (dget kn (rowD (w ++ [t]) y)).isSome = true
  nst : ∀ n m, n + 1 < N → n < R.length → low R (n + 1) = m :: low R n → ∀ u p v q, Nd (low R (n + 1)) (u ++ [p]) → Ends2 (low R (n + 1)) (v ++ [q]) → p ≠ q → (dget kn (rowD (u ++ [p]) (v ++ [q]))).isSome = true → (dget fm (famD (n + 1) (v ++ [q]))).isSome = true
structure SS (R : List Nat) (N : Nat) (kn fm : List (D × D)) : Prop where
  good : Good R N kn fm
  ko : KOk R kn
  fo : FOk R fm
/-- what a call of level below N leaves -/
structure Ex (N : Nat) (kn fm kn' fm' : List (D × D)) : Prop where
  k1 : ∀ q c, dget kn q = some c → dget kn' q = some c
  k2 : ∀ x y, N ≤ x.length → dget kn' (rowD x y) = dget kn (rowD x y)
  f1 : ∀ q, (dget fm q).isSome = true → (dget fm' q).isSome = true
  f2 : ∀ n y, N ≤ n → dget fm' (famD n y) = dget fm (famD n y)
theorem Ex.refl {N : Nat} {kn fm : List (D × D)} : Ex N kn fm kn fm := ⟨fun _ _ h => h, fun _ _ _ => rfl, fun _ h => h, fun _ _ _ => rfl⟩
theorem Ex.trans {N : Nat} {k0 f0 k1 f1 k2 f2 : List (D × D)} (a : Ex N k0 f0 k1 f1) (b : Ex N k1 f1 k2 f2) : Ex N k0 f0 k2 f2 :=
  ⟨fun q c h => b.k1 q c (a.k1 q c h), fun x y h => (b.k2 x y h).trans (a.k2 x y h), fun q h => b.f1 q (a.f1 q h), fun n y h => (b.f2 n y h).trans (a.f2 n y h)⟩
theorem Ex.up {N M : Nat} {k0 f0 k1 f1 : List (D × D)} (a : Ex N k0 f0 k1 f1) (h : N ≤ M) : Ex M k0 f0 k1 f1 :=
  ⟨a.k1, fun x y q => a.k2 x y (Nat.le_trans h q), a.f1, fun n y q => a.f2 n y (Nat.le_trans h q)⟩
theorem Good.down {R : List Nat} {N M : Nat} {kn fm : List (D × D)} (g : Good R N kn fm) (h : M ≤ N) : Good R M kn fm :=
  ⟨fun n hn => g.ex n (by omega), fun n m hn => g.fam n m (by omega), fun n m hn => g.nst n m (by omega)⟩
theorem SS.down {R : List Nat} {N M : Nat} {kn fm : List (D × D)} (g : SS R N kn fm) (h : M ≤ N) : SS R M kn fm := ⟨g.good.down h, g.ko, g.fo⟩
end WB
namespace WB
open PySem PySem.Spec PyProof.Rows L2
/-! ### who lies beside whom, plainly -/
theorem mulN {N a b : Int} (hN : 1 ≤ N) (h : a + 1 ≤ b) : a * N + N ≤ b * N := by
  have h1 : (a + 1) * N ≤ b * N := Int.mul_le_mul_of_nonneg_right h (by omega)
  rw [Int.add_mul, Int.one_mul] at h1
  exact h1
theorem pos_inj : ∀ {rs : List Nat} {v w : List Int}, Ok24 rs → Wd rs v → Wd rs w → pos rs v = pos rs w → v = w
  | [], _, _, _, h1, h2, _ => (show _ = ([] : List Int) from h1).trans (show _ = ([] : List Int) from h2).symm
  | m :: rs, _, _, ok, ⟨u, p, e1, hu, h0, h1⟩, ⟨v, q, e2, hv, g0, g1⟩, e => by
    subst e1; subst e2
    rw [pos_snoc, pos_snoc] at e
    have b1 := pos_bd ok.tl hu
    have b2 := pos_bd ok.tl hv
    have hn := Nn_pos ok.tl
    have hpq : p = q := by
      rcases Int.lt_trichotomy p q with h | h | h
      · exfalso
        have := mulN hn (show p + 1 ≤ q by omega)
        split at e <;> split at e <;> omega
      · exact h
      · exfalso
        have := mulN hn (show q + 1 ≤ p by omega)
        split at e <;> split at e <;> omega
    subst hpq
    have : pos rs u = pos rs v := by split at e <;> omega
    rw [pos_inj ok.tl hu hv this]
theorem pos_sur : ∀ {rs : List Nat}, Ok24 rs → ∀ i : Int, 0 ≤ i → i ≤ Nn rs - 1 → ∃ w, Wd rs w ∧ pos rs w = i
  | [], _, i, h0, h1 => ⟨[], rfl, by
      have h1' : i ≤ 1 - 1 := h1
      show (0 : Int) = i
      omega⟩
  | m :: rs, ok, i, h0, h1 => by
    have hn := Nn_pos ok.tl
    have h1' : i ≤ (m : Int) * Nn rs - 1 := h1
    have e := Int.mul_ediv_add_emod i (Nn rs)
    have a0 := Int.emod_nonneg i (show Nn rs ≠ 0 by omega)
    have a1 := Int.emod_lt_of_pos i (show 0 < Nn rs by omega)
    have p0 : 0 ≤ i / Nn rs := Int.ediv_nonneg h0 (by omega)
    have p1 : i / Nn rs < (m : Int) := Int.ediv_lt_of_lt_mul (by omega) (by omega)
    rw [Int.mul_comm] at e
    generalize i / Nn rs = p at e p0 p1
    generalize i % Nn rs = a at e a0 a1
    by_cases hp : p % 2 = 0
    · obtain ⟨u, hu, hpu⟩ := pos_sur ok.tl a a0 (by omega)
      exact ⟨u ++ [p], ⟨u, p, rfl, hu, p0, by omega⟩, by rw [pos_snoc, if_pos hp, hpu]; exact e⟩
    · obtain ⟨u, hu, hpu⟩ := pos_sur ok.tl (Nn rs - 1 - a) (by omega) (by omega)
      exact ⟨u ++ [p], ⟨u, p, rfl, hu, p0, by omega⟩, by rw [pos_snoc, if_neg hp, hpu]; omega⟩
/-- from one block to the next -/
theorem pos_cross {m : Nat} {rs : List Nat} (ok : Ok24 rs) {u v : List Int} {p q : Int} (hu : Wd rs u) (hv : Wd rs v) (h0 : 0 ≤ p) (g0 : 0 ≤ q) (hne : q ≠ p) : dst (pos (m :: rs) (u ++ [p])) (pos (m :: rs) (v ++ [q])) = 1 ↔ (q = p + 1 ∨ q = p - 1) ∧ u = Wy rs (min p q).toNat ∧ v = u := by
  have b1 := pos_bd ok hu
  have b2 := pos_bd ok hv
  have hn := Nn_pos ok
  have pw : ∀ j : Nat, pos rs (Wy rs j) = if j % 2 = 0 then Nn rs - 1 else 0 := fun j => pos_Wy ok j
  have inj : ∀ {a b : List Int}, Wd rs a → Wd rs b → pos rs a = pos rs b → a = b := fun ha hb e => pos_inj ok ha hb e
  rw [pos_snoc, pos_snoc]
  constructor
  · intro h
    unfold dst at h
    rcases Int.lt_trichotomy p q with hlt | he | hgt
    · have hq : q = p + 1 := by
        by_cases h2 : p + 2 ≤ q
        · exfalso
          have m1 := mulN hn (show p + 1 ≤ p + 1 by omega)
          have m2 := mulN hn (show (p + 1) + 1 ≤ q by omega)
          split at h <;> split at h <;> split at h <;> omega
        · omega
      subst hq
      have em : (min p (p + 1)).toNat = p.toNat := by omega
      rw [em]
      have eN : (p + 1) * Nn rs = p * Nn rs + Nn rs := by rw [Int.add_mul, Int.one_mul]
      rw [eN] at h
      have hw := pw p.toNat
      by_cases hp : p % 2 = 0
      · rw [if_pos hp, if_neg (show ¬ (p + 1) % 2 = 0 by omega)] at h
        rw [if_pos (by omega)] at hw
        have hu1 : u = Wy rs p.toNat := inj hu (wd_Wy ok _) (by rw [hw]; split at h <;> omega)
        have hv1 : v = Wy rs p.toNat := inj hv (wd_Wy ok _) (by rw [hw]; split at h <;> omega)
        exact ⟨.inl rfl, hu1, by rw [hu1, hv1]⟩
      · rw [if_neg hp, if_pos (show (p + 1) % 2 = 0 by omega)] at h
        rw [if_neg (by omega)] at hw
        have hu1 : u = Wy rs p.toNat := inj hu (wd_Wy ok _) (by rw [hw]; split at h <;> omega)
        have hv1 : v = Wy rs p.toNat := inj hv (wd_Wy ok _) (by rw [hw]; split at h <;> omega)
        exact ⟨.inl rfl, hu1, by rw [hu1, hv1]⟩
    · exact absurd he.symm hne
    · have hq : q = p - 1 := by
        by_cases h2 : q + 2 ≤ p
        · exfalso
          have m1 := mulN hn (show q + 1 ≤ q + 1 by omega)
          have m2 := mulN hn (show (q + 1) + 1 ≤ p by omega)
          split at h <;> split at h <;> split at h <;> omega
        · omega
      have ep : p = q + 1 := by omega
      subst ep
      have em : (min (q + 1) q).toNat = q.toNat := by omega
      rw [em]
      have eN : (q + 1) * Nn rs = q * Nn rs + Nn rs := by rw [Int.add_mul, Int.one_mul]
      rw [eN] at h
      have hw := pw q.toNat
      by_cases hp : q % 2 = 0
      · rw [if_pos hp, if_neg (show ¬ (q + 1) % 2 = 0 by omega)] at h
        rw [if_pos (by omega)] at hw
        have hu1 : u = Wy rs q.toNat := inj hu (wd_Wy ok _) (by rw [hw]; split at h <;> omega)
        have hv1 : v = Wy rs q.toNat := inj hv (wd_Wy ok _) (by rw [hw]; split at h <;> omega)
        exact ⟨.inr (by omega), hu1, by rw [hu1, hv1]⟩
      · rw [if_neg hp, if_pos (show (q + 1) % 2 = 0 by omega)] at h
        rw [if_neg (by omega)] at hw
        have hu1 : u = Wy rs q.toNat := inj hu (wd_Wy ok _) (by rw [hw]; split at h <;> omega)
        have hv1 : v = Wy rs q.toNat := inj hv (wd_Wy ok _) (by rw [hw]; split at h <;> omega)
        exact ⟨.inr (by omega), hu1, by rw [hu1, hv1]⟩
  · rintro ⟨hq, e1, e2⟩
    subst e2
    have hp' : pos rs v = _ := (congrArg (pos rs) e1).trans (pw _)
    rw [hp']
    unfold dst
    rcases hq with rfl | rfl
    · have em : (min p (p + 1)).toNat = p.toNat := by omega
      have eN : (p + 1) * Nn rs = p * Nn rs + Nn rs := by rw [Int.add_mul, Int.one_mul]
      rw [em, eN]
      split <;> split <;> split <;> first | omega | (split <;> omega)
    · have em : (min p (p - 1)).toNat = (p - 1).toNat := by omega
      have eN : (p - 1) * Nn rs = p * Nn rs - Nn rs := by rw [Int.sub_mul, Int.one_mul]
      rw [em, eN]
      split <;> split <;> split <;> first | omega | (split <;> omega)
/-! ### the steps -/
def tosR : Nat → List (List Int) → List Int → Int → List Int
  | _, [], _, _ => []
  | k, w :: ws, u, p => (if (k : Int) = p ∧ w = u then [(k : Int) + 1] else []) ++ ((if (k : Int) + 1 = p ∧ w = u then [(k : Int)] else []) ++ tosR (k + 1) ws u p)
def stL : List Nat → List Int → List (Nat × Int)
  | [], _ => []
  | m :: rs, v => stL rs v.dropLast ++ (tosR 0 (waysL rs (m - 1)) v.dropLast (v.getLastD 0)).map fun t => (rs.length, t)
theorem tosR_flat (n : Nat) (u : List Int) (p : Int) : ∀ (ws : List (List Int)) (k : Nat), (tiedR k ws).flatMap (fSt n u p) = (tosR k ws u p).map fun t => ti [(n : Int), t, 1]
  | [], _ => rfl
  | w :: ws, k => by
    show (gapD (k : Int) ((k : Int) + 1) w :: gapD ((k : Int) + 1) (k : Int) w :: tiedR (k + 1) ws).flatMap (fSt n u p) = _
    rw [List.flatMap_cons, List.flatMap_cons, fSt_gap, fSt_gap, tosR_flat n u p ws (k + 1), show tosR k (w :: ws) u p = (if (k : Int) = p ∧ w = u then [(k : Int) + 1] else []) ++ ((if (k : Int) + 1 = p ∧ w = u then [(k : Int)] else []) ++ tosR (k + 1) ws u p) from rfl, List.map_append, List.map_append]
    have e1 : (if (k : Int) = p ∧ w = u then [ti [(n : Int), (k : Int) + 1, 1]] else []) = (if (k : Int) = p ∧ w = u then [(k : Int) + 1] else []).map fun t => ti [(n : Int), t, 1] := by split <;> rfl
    have e2 : (if (k : Int) + 1 = p ∧ w = u then [ti [(n : Int), (k : Int), 1]] else []) = (if (k : Int) + 1 = p ∧ w = u then [(k : Int)] else []).map fun t => ti [(n : Int), t, 1] := by split <;> rfl
    rw [e1, e2]
theorem stepsD_st : ∀ (rs : List Nat) (v : List Int), stepsD rs v = (stL rs v).map fun s => ti [(s.1 : Int), s.2, 1]
  | [], _ => rfl
  | m :: rs, v => by
    unfold stepsD stL gapsD
    rw [stepsD_st rs, tosR_flat, List.map_append, List.map_map]
    rfl
theorem tosR_mem {u : List Int} {p t : Int} : ∀ {ws : List (List Int)} {k : Nat}, t ∈ tosR k ws u p ↔ ∃ j w, ws[j]? = some w ∧ w = u ∧ ((((k + j : Nat) : Int) = p ∧ t = p + 1) ∨ (((k + j : Nat) : Int) + 1 = p ∧ t = p - 1))
  | [], k => by
    unfold tosR
    constructor
    · intro h; cases h
    · rintro ⟨j, w, h, _⟩; simp at h
  | w :: ws, k => by
    unfold tosR
    rw [List.mem_append, List.mem_append, tosR_mem (ws := ws) (k := k + 1)]
    constructor
    · rintro (h | h | ⟨j, w', h1, h2, h3⟩)
      · split at h
        · rename_i hc
          refine ⟨0, w, rfl, hc.2, .inl ⟨hc.1, ?_⟩⟩
          rw [List.mem_singleton.mp h, hc.1]
        · cases h
      · split at h
        · rename_i hc
          refine ⟨0, w, rfl, hc.2, .inr ⟨hc.1, ?_⟩⟩
          rw [List.mem_singleton.mp h]; omega
        · cases h
      · exact ⟨j + 1, w', h1, h2, by rw [show k + (j + 1) = k + 1 + j by omega]; exact h3⟩
    · rintro ⟨j, w', h1, h2, h3⟩
      cases j with
      | zero =>
        have ew : w = w' := Option.some.inj h1
        subst ew
        rcases h3 with ⟨h3, h4⟩ | ⟨h3, h4⟩
        · refine .inl ?_
          rw [if_pos ⟨h3, h2⟩, h4, ← h3]
          exact List.mem_singleton.mpr rfl
        · refine .inr (.inl ?_)
          rw [if_pos ⟨h3, h2⟩, h4, ← h3]
          exact List.mem_singleton.mpr (by omega)
      | succ j => exact .inr (.inr ⟨j, w', h1, h2, by rw [show k + 1 + j = k + (j + 1) by omega]; exact h3⟩)
theorem tosR_nodup {u : List Int} {p : Int} : ∀ (ws : List (List Int)) (k : Nat), (tosR k ws u p).Nodup
  | [], _ => List.Pairwise.nil
  | w :: ws, k => by
    unfold tosR
    have ih := tosR_nodup (u := u) (p := p) ws (k + 1)
    have hm : ∀ t ∈ tosR (k + 1) ws u p, ((k : Int) + 1 ≤ p ∧ t = p + 1) ∨ ((k : Int) + 2 ≤ p ∧ t = p - 1) := fun t ht => by
      obtain ⟨j, w', _, _, h⟩ := tosR_mem.mp ht
      rcases h with ⟨h1, h2⟩ | ⟨h1, h2⟩
      · exact .inl ⟨by omega, h2⟩
      · exact .inr ⟨by omega, h2⟩
    split
    · rename_i h1
      split
      · rename_i h2
        omega
      · rw [List.nil_append]
        refine List.nodup_cons.mpr ⟨fun h => ?_, ih⟩
        have := hm _ h
        omega
    · rw [List.nil_append]
      split
      · rename_i h2
        refine List.nodup_cons.mpr ⟨fun h => ?_, ih⟩
        have := hm _ h
        omega
      · exact ih
theorem tos_mem {rs : List Nat} {m : Nat} {u : List Int} {p t : Int} (h0 : 0 ≤ p) (h1 : p ≤ (m : Int) - 1) : t ∈ tosR 0 (waysL rs (m - 1)) u p ↔ (t = p + 1 ∨ t = p - 1) ∧ 0 ≤ t ∧ t ≤ (m : Int) - 1 ∧ u = Wy rs (min p t).toNat := by
  rw [tosR_mem]
  constructor
  · rintro ⟨j, w, h2, h3, h4⟩
    obtain ⟨h5, h6⟩ := waysL_get.mp h2
    rw [Nat.zero_add] at h4
    rcases h4 with ⟨e1, e2⟩ | ⟨e1, e2⟩
    · refine ⟨.inl e2, by omega, by omega, ?_⟩
      rw [show (min p t).toNat = j by omega, ← h6, h3]
    · refine ⟨.inr e2, by omega, by omega, ?_⟩
      rw [show (min p t).toNat = j by omega, ← h6, h3]
  · rintro ⟨h2, h3, h4, h5⟩
    refine ⟨(min p t).toNat, _, waysL_get.mpr ⟨by omega, rfl⟩, h5.symm, ?_⟩
    rw [Nat.zero_add]
    rcases h2 with e | e
    · exact .inl ⟨by omega, e⟩
    · exact .inr ⟨by omega, e⟩
/-- behind a step -/
def mvW (v : List Int) (s : Nat × Int) : List Int := v.take s.1 ++ ([s.2] ++ v.drop (s.1 + 1))
def nbr (R : List Nat) (v : List Int) : List (List Int) := (stL R v).map (mvW v)
theorem stL_lt : ∀ {rs : List Nat} {v : List Int} {s : Nat × Int}, s ∈ stL rs v → s.1 < rs.length
  | [], _, _, h => by cases h
  | m :: rs, v, s, h => by
    unfold stL at h
    rw [List.length_cons]
    rcases List.mem_append.mp h with h | h
    · have := stL_lt h; omega
    · obtain ⟨t, _, e⟩ := List.mem_map.mp h
      rw [← e]; exact Nat.lt_succ_self _
theorem mv_low {u : List Int} {p : Int} {s : Nat × Int} (h : s.1 < u.length) : mvW (u ++ [p]) s = mvW u s ++ [p] := by
  unfold mvW
  rw [List.take_append_of_le_length (Nat.le_of_lt h), List.drop_append_of_le_length h, List.append_assoc, List.append_assoc]
theorem mv_top {u : List Int} {p t : Int} : mvW (u ++ [p]) (u.length, t) = u ++ [t] := by
  unfold mvW
  rw [List.take_left', List.drop_of_length_le (by rw [List.length_append, List.length_singleton]; exact Nat.le_refl _)]
  · rfl
  · rfl
theorem nbr_snoc {m : Nat} {rs : List Nat} {u : List Int} {p : Int} (hl : u.length = rs.length) : nbr (m :: rs) (u ++ [p]) = (nbr rs u).map (fun w => w ++ [p]) ++ (tosR 0 (waysL rs (m - 1)) u p).map fun t => u ++ [t] := by
  have e0 : stL (m :: rs) (u ++ [p]) = stL rs u ++ (tosR 0 (waysL rs (m - 1)) u p).map fun t => (rs.length, t) := by
    show stL rs (u ++ [p]).dropLast ++ (tosR 0 (waysL rs (m - 1)) (u ++ [p]).dropLast ((u ++ [p]).getLastD 0)).map (fun t => (rs.length, t)) = _
    rw [List.dropLast_concat, List.getLastD_concat]
  have e1 : (stL rs u).map (mvW (u ++ [p])) = ((stL rs u).map (mvW u)).map fun w => w ++ [p] := by
    rw [List.map_map]
    exact List.map_congr_left fun s hs => mv_low (by rw [hl]; exact stL_lt hs)
  have e2 : ((tosR 0 (waysL rs (m - 1)) u p).map fun t => (rs.length, t)).map (mvW (u ++ [p])) = (tosR 0 (waysL rs (m - 1)) u p).map fun t => u ++ [t] := by
    rw [List.map_map]
    refine List.map_congr_left fun t _ => ?_
    show mvW (u ++ [p]) (rs.length, t) = _
    rw [← hl]
    exact mv_top
  unfold nbr
  rw [e0, List.map_append, e1, e2]
theorem nbr_mem : ∀ {R : List Nat} {v w : List Int}, Ok24 R → Wd R v → (w ∈ nbr R v ↔ Wd R w ∧ dst (pos R v) (pos R w) = 1)
  | [], v, w, _, h => by
    constructor
    · intro h; cases h
    · rintro ⟨_, h2⟩
      exfalso
      have : dst (pos [] v) (pos [] w) = 0 := dst_self _
      omega
  | m :: rs, _, w, ok, ⟨u, p, e, hu, h0, h1⟩ => by
    subst e
    rw [nbr_snoc hu.len, List.mem_append]
    constructor
    · rintro (h | h)
      · obtain ⟨w', h2, e⟩ := List.mem_map.mp h
        subst e
        obtain ⟨h3, h4⟩ := (nbr_mem ok.tl hu).mp h2
        exact ⟨⟨w', p, rfl, h3, h0, h1⟩, by rw [dst_block]; exact h4⟩
      · obtain ⟨t, h2, e⟩ := List.mem_map.mp h
        subst e
        obtain ⟨h3, h4, h5, h6⟩ := (tos_mem h0 h1).mp h2
        exact ⟨⟨u, t, rfl, hu, h4, h5⟩, (pos_cross ok.tl hu hu h0 h4 (by omega)).mpr ⟨h3, h6, rfl⟩⟩
    · rintro ⟨⟨u', q, e, hu', g0, g1⟩, hd⟩
      subst e
      by_cases hpq : q = p
      · subst hpq
        rw [dst_block] at hd
        exact .inl (List.mem_map.mpr ⟨u', (nbr_mem ok.tl hu).mpr ⟨hu', hd⟩, rfl⟩)
      · obtain ⟨h3, h4, h5⟩ := (pos_cross ok.tl hu hu' h0 g0 hpq).mp hd
        subst h5
        exact .inr (List.mem_map.mpr ⟨q, (tos_mem h0 h1).mpr ⟨h3, g0, g1, h4⟩, rfl⟩)
theorem nodup_map {α β : Type} {f : α → β} : ∀ {l : List α}, l.Nodup → (∀ a ∈ l, ∀ b ∈ l, f a = f b → a = b) → (l.map f).Nodup
  | [], _, _ => List.Pairwise.nil
  | a :: l, h, hi => by
    obtain ⟨h1, h2⟩ := List.nodup_cons.mp h
    rw [List.map_cons]
    refine List.nodup_cons.mpr ⟨fun hm => ?_, nodup_map h2 fun x hx y hy => hi x (List.mem_cons_of_mem _ hx) y (List.mem_cons_of_mem _ hy)⟩
    obtain ⟨b, hb, e⟩ := List.mem_map.mp hm
    exact h1 (hi a List.mem_cons_self b (List.mem_cons_of_mem _ hb) e.symm ▸ hb)
theorem nbr_nodup : ∀ {R : List Nat} {v : List Int}, Ok24 R → Wd R v → (nbr R v).Nodup
  | [], _, _, _ => List.Pairwise.nil
  | m :: rs, _, ok, ⟨u, p, e, hu, h0, h1⟩ => by
    subst e
    rw [nbr_snoc hu.len]
    refine List.nodup_append.mpr ⟨nodup_map (nbr_nodup ok.tl hu) fun a _ b _ e => List.append_cancel_right e, nodup_map (tosR_nodup _ _) fun a _ b _ e => ?_, fun a ha b hb e => ?_⟩
    · have := List.append_cancel_left e
      injection this
    · obtain ⟨w, _, e1⟩ := List.mem_map.mp ha
      obtain ⟨t, ht, e2⟩ := List.mem_map.mp hb
      rw [← e1, ← e2] at e
      have e3 := (List.append_inj' e rfl).2
      injection e3 with e3
      have := ((tos_mem h0 h1).mp ht).1
      omega
/-- how many lie beside a word -/
theorem nbr_len {R : List Nat} {v : List Int} (ok : Ok24 R) (hv : Wd R v) : (nbr R v).length = (if pos R v = 0 then 0 else 1) + (if pos R v = Nn R - 1 then 0 else 1) := by
  have hb := pos_bd ok hv
  have hn := Nn_pos ok
  have hnd : ((nbr R v).map (pos R)).Nodup := nodup_map (nbr_nodup ok hv) fun a ha b hb e => pos_inj ok ((nbr_mem ok hv).mp ha).1 ((nbr_mem ok hv).mp hb).1 e
  have hm : ∀ i : Int, i ∈ (nbr R v).map (pos R) ↔ i ∈ ((if pos R v = 0 then [] else [pos R v - 1]) ++ (if pos R v = Nn R - 1 then [] else [pos R v + 1]) : List Int) := fun i => by
    rw [List.mem_map, List.mem_append]
    constructor
    · rintro ⟨w, hw, e⟩
      obtain ⟨h1, h2⟩ := (nbr_mem ok hv).mp hw
      have hbw := pos_bd ok h1
      rw [e] at h2 hbw
      unfold dst at h2
      by_cases h3 : i = pos R v + 1
      · right
        rw [if_neg (by omega), h3]
        exact List.mem_singleton.mpr rfl
      · left
        have h4 : i = pos R v - 1 := by split at h2 <;> omega
        rw [if_neg (by omega), h4]
        exact List.mem_singleton.mpr rfl
    · intro h
      have hi : (i = pos R v + 1 ∨ i = pos R v - 1) ∧ 0 ≤ i ∧ i ≤ Nn R - 1 := by
        rcases h with h | h
        · split at h
          · cases h
          · have := List.mem_singleton.mp h
            exact ⟨.inr this, by omega, by omega⟩
        · split at h
          · cases h
          · have := List.mem_singleton.mp h
            exact ⟨.inl this, by omega, by omega⟩
      obtain ⟨w, hw, e⟩ := pos_sur ok i hi.2.1 hi.2.2
      refine ⟨w, (nbr_mem ok hv).mpr ⟨hw, ?_⟩, e⟩
      rw [e]
      unfold dst
      split <;> omega
  have hL : ((if pos R v = 0 then [] else [pos R v - 1]) ++ (if pos R v = Nn R - 1 then [] else [pos R v + 1]) : List Int).Nodup := by
    split <;> split
    · exact List.Pairwise.nil
    · exact List.nodup_cons.mpr ⟨fun h => (by cases h), List.Pairwise.nil⟩
    · exact List.nodup_cons.mpr ⟨fun h => (by cases h), List.Pairwise.nil⟩
    · refine List.nodup_cons.mpr ⟨fun h => ?_, List.nodup_cons.mpr ⟨fun h => (by cases h), List.Pairwise.nil⟩⟩
      have := List.mem_singleton.mp h
      omega
  have l1 := nodup_len hnd fun i hi => (hm i).mp hi
  have l2 := nodup_len hL fun i hi => (hm i).mpr hi
  rw [List.length_map] at l1 l2
  have e : ((if pos R v = 0 then [] else [pos R v - 1]) ++ (if pos R v = Nn R - 1 then [] else [pos R v + 1]) : List Int).length = (if pos R v = 0 then 0 else 1) + (if pos R v = Nn R - 1 then 0 else 1) := by
    rw [List.length_append]
    congr 1 <;> split <;> rfl
  omega
theorem pos_zero {R : List Nat} (ok : Ok24 R) {v : List Int} (hv : Wd R v) : pos R v = 0 ↔ v = E0 R := ⟨fun h => pos_inj ok hv (wd_E0 ok) (by rw [h, pos_E0]), fun h => by rw [h, pos_E0]⟩
theorem pos_last {R : List Nat} (ok : Ok24 R) {v : List Int} (hv : Wd R v) : pos R v = Nn R - 1 ↔ v = E1 R := ⟨fun h => pos_inj ok hv (wd_E1 ok) (by rw [h, pos_E1 ok]), fun h => by rw [h, pos_E1 ok]⟩
theorem Nn_two {R : List Nat} (ok : Ok24 R) (h : 1 ≤ R.length) : 2 ≤ Nn R := by
  cases R with
  | nil => exact absurd h (by decide)
  | cons m rs =>
    have h1 := Nn_pos ok.tl
    have h2 := ok.hd
    show (2 : Int) ≤ (m : Int) * Nn rs
    have : (2 : Int) * 1 ≤ (m : Int) * Nn rs := Int.mul_le_mul (by omega) h1 (by decide) (by omega)
    omega
theorem ends_ne {R : List Nat} (ok : Ok24 R) (h : 1 ≤ R.length) : E0 R ≠ E1 R := fun e => by
  have h1 := pos_E1 ok
  have h2 := Nn_two ok h
  rw [← e, pos_E0] at h1
  omega
/-- the number of steps at a word -/
theorem stepsD_count {R : List Nat} {v : List Int} (ok : Ok24 R) (hv : Wd R v) : (stepsD R v).length = (if v = E0 R then 0 else 1) + (if v = E1 R then 0 else 1) := by
  have h := nbr_len ok hv
  unfold nbr at h
  rw [List.length_map] at h
  rw [stepsD_st, List.length_map, h]
  congr 1
  · by_cases h1 : v = E0 R
    · rw [if_pos h1, if_pos ((pos_zero ok hv).mpr h1)]
    · rw [if_neg h1, if_neg fun q => h1 ((pos_zero ok hv).mp q)]
  · by_cases h1 : v = E1 R
    · rw [if_pos h1, if_pos ((pos_last ok hv).mpr h1)]
    · rw [if_neg h1, if_neg fun q => h1 ((pos_last ok hv).mp q)]
end WB
namespace WB
open PySem PySem.Spec PyProof.Rows L2
section
variable {X : Cx} {G H0 : Hp} {Γ : List AV} {a b c e e1 e2 i o : Expr} {es : List Expr} {pos p1 p2 p3 apos np : Pos} {x y z d : D} {ds xs ys : List D} {n f m : Str} {k : Nat} {sts : List Stmt} {E : Ends} {Ψ Φ : V → Hp → Prop} {Z : Addr → Prop}
/-- (e1, e2), e1 changing things -/
theorem gy_tup2 {k1 : Nat} (h1 : GY X G Γ e1 Ψ) (h2 : ∀ v G', Ψ v G' → ∃ d1 d2, Rp X.K G' d1 v ∧ GE X G' Γ e2 d2 ∧ ∀ G2 v2, Same G' G2 → Rp X.K G2 (.tup [d1, d2]) v2 → Φ v2 G2) (hs1 : starEach [e1, e2] X.env = (false, eval e1 X.env) :: starEach [e2] X.env := by rfl) (hs2 : starEach [e2] X.env = (false, eval e2 X.env) :: starEach [] X.env := by rfl) : GY X G Γ (.Tuple [e1, e2] k1 pos) Φ := fun σ H Q F kq => by
  refine er_of (pe_tup (pa_cons pe_self (pa_cons pe_self pa_nil hs2) hs1)) ?_
  refine h1 σ H _ F fun v H1 G' q F' => ?_
  obtain ⟨d1, d2, r1, g2, hf⟩ := h2 v G' q
  refine g2 σ H1 _ F' fun w H2 e2 r2 => ?_
  refine ⟨by show 2 ≤ sizeLine; decide, fun t ht => ?_⟩
  have e3 : Same H2 (upd H2 t (.tup [v, w])) := fun b o q => by rw [upd_ne (ne_of_none q ht)]; exact q
  obtain ⟨G2, s0, s1, F2, _, ts⟩ := (F'.same (e2.trans e3)).full
  have rp : Rp X.K (upd H2 t (.tup [v, w])) (.tup [d1, d2]) (.ref t) := ⟨t, [v, w], rfl, SqT.of upd_same, v, [w], rfl, (r1.mono (Same.tup F'.ex)).mono (Same.tup (e2.trans e3)), w, [], rfl, r2.mono (Same.tup e3), rfl⟩
  exact kq _ _ G2 (hf G2 _ s0 (rp.mono ts)) F2
/-- o.m(x, e2), e2 changing things -/
theorem gy_methS (i : Nat) {A Cc : Addr} {ps : List Str} {sp : Sp} {pl : Sem Bool} {post : V → Hp → V → Hp → Prop} (M : Mtd X.prog X.w X.K X.mg X.base Cc m ps k sp) (hr : Room k X.A) (ho : GV X G Γ o (.v (.ref A))) (hG : ∃ dx fs, G A = some (.ins Cc dx fs) ∧ fs.lookup m = none) (h2 : GY X G Γ e2 Ψ) (hZ : ∀ v G', Ψ v G' → ZOk X G' Γ Z)
    (hsp : ∀ (v1 v2 : V) (G' H : Hp) (Q : VK), Ψ v2 G' → Same G' H → Rp X.K H d v1 → (∀ v G1 H', Core Z H G1 → Same G1 H' → post v2 G' v G1 → Q v H') → sp [.ref A, v1, v2] H Q L2.E0) (hst : ∀ v2 G' v H G1 G2, Tra Z H G1 G2 → post v2 G' v G1 → post v2 G' v G2)
    (hx : Γ[i]? = some (.d d) := by rfl) (hN : X.N[i]? = some n := by rfl) (hv : Vis X.env.scope n := by first | exact Or.inl rfl | exact Or.inr (Or.inl rfl) | exact Or.inr (Or.inr rfl)) (hd : (n == ("__debug__" : Str)) = false := by decide) (hcd : (n == ("__classdict__" : Str)) = false := by decide)
    (hst1 : starEach [.Name n p1, e2] X.env = (false, eval (.Name n p1) X.env) :: starEach [e2] X.env := by rfl) (hst2 : starEach [e2] X.env = (false, eval e2 X.env) :: starEach [] X.env := by rfl) (hpl : (backTo pos (starEach [e2] X.env)).any (·.1) = false := by rfl)
    (ht : eval (.Call (.Attribute o m apos) [.Name n p1, e2] [] pos) X.env = (do let ov ← eval o X.env; standAt apos.atName; let (f, first) ← holding [ov] (getMethod ov m pl); callWith pos f first (backTo pos (starEach [.Name n p1, e2] X.env)) (backToKw pos (keywordEach [] X.env))) := by rfl) :
    GY X G Γ (.Call (.Attribute o m apos) [.Name n p1, e2] [] pos) (fun v G' => ∃ v2 G1, Ψ v2 G1 ∧ Core Z G1 G' ∧ post v2 G1 v G') := fun σ H Q F kq => by
  obtain ⟨f, fd, hm, Fn, hb⟩ := M.ex
  obtain ⟨dx, fs, hG, hl⟩ := hG
  refine er_of (pe_meth pe_self M.cls hm Fn hr hb .nil pass0 (pa_cons (pe_var hN hv hd hcd) (pa_cons pe_self pa_nil hst2) hst1) hst1 hpl ht) ?_
  refine ho σ H _ F fun x H1 e1 r1 => ?_
  have ex : x = .ref A := r1
  subst ex
  refine ⟨A, dx, fs, rfl, e1 _ _ (F.ex _ _ hG), hl, ?_⟩
  obtain ⟨v1, hv1, _⟩ := F.d hx
  refine ⟨v1, hv1, ?_⟩
  refine h2 σ H1 _ (F.same e1) fun v2 H2 G' q F' => ?_
  obtain ⟨v1', hv1', r1'⟩ := F'.d hx
  rw [hv1] at hv1'
  cases hv1'
  show sp [.ref A, v1, v2] H2 Q L2.E0
  refine hsp v1 v2 G' H2 Q q F'.ex r1' fun v G1 H' c1 s1 hp => ?_
  have cH : Core Z H2 H' := c1.then s1
  obtain ⟨G2, d1, d2, F2, tr⟩ := F'.region (hZ v2 G' q σ H2 F') cH
  exact kq v H' G2 ⟨v2, G', q, d1, hst v2 G' v H2 G1 G2 (tr G1 c1 s1) hp⟩ F2
/-- return of one's own list, things changed meanwhile -/
theorem gs_retOS (i : Nat) (hq : ∀ l vs G1 H', G l = none → Same G G1 → G1 l = some (.lst vs) → RpAll X.K G1 xs vs → Same G1 H' → E.rt (.ref l) H') (h : Γ[i]? = some (.own xs) := by rfl) (hN : X.N[i]? = some n := by rfl) (hv : Vis X.env.scope n := by first | exact Or.inl rfl | exact Or.inr (Or.inl rfl) | exact Or.inr (Or.inr rfl)) (hd : (n == ("__debug__" : Str)) = false := by decide) (hcd : (n == ("__classdict__" : Str)) = false := by decide) : GS X G Γ (.Return (some (.Name n p1)) pos :: sts) E := fun σ H F => by
  refine sr_cons (s1_of (ps_ret (pe_var hN hv hd hcd)) ?_)
  obtain ⟨l, vs, g1, g0, g2, g3⟩ := F.own h
  exact ⟨_, g1, hq l vs H H g0 F.ex g2 g3 (Same.refl H)⟩
theorem gs_retN (hq : ∀ H', Same G H' → E.rt .non H') : GS X G Γ (.Return none pos :: sts) E := fun σ H F => sr_cons (s1_of ps_retN (hq H F.ex))
end
/-! ### best, choice -/
section
variable {P : Program} {w : World} {K : PySem.W.Frag} {mg : Str → Option Value} {base : Heap} {R : List Nat}
/-- what a call for a row leaves -/
def PostR (P : Program) (w : World) (K : PySem.W.Frag) (R : List Nat) (a dk df : Addr) (n : Nat) (kn fm : List (D × D)) (x y : List Int) (G1 : Hp) : Prop := ∃ kn' fm', Sv P w K R a dk df G1 kn' fm' ∧ SS R (n + 1) kn' fm' ∧ Ex (n + 1) kn fm kn' fm' ∧ dget kn' (rowD x y) = some (exC (low R n) x y)
def spRow (P : Program) (w : World) (K : PySem.W.Frag) (R : List Nat) (ρ : List Int → List Int → Prop) (res : List Nat → List Int → List Int → D) (n : Nat) : Sp := fun vs H Q _ => ∃ (a dk df : Addr) (kn fm : List (D × D)) (x y : List Int) (rowv : V), vs = [.ref a, rowv] ∧ Sv P w K R a dk df H kn fm ∧ SS R (n + 1) kn fm ∧ Rp K H (rowD x y) rowv ∧ Nd (low R n) x ∧ Ends2 (low R n) y ∧ n ≤ R.length ∧ ρ x y ∧
  ∀ v G1 H', Core (Zs dk df) H G1 → Same G1 H' → (PostR P w K R a dk df n kn fm x y G1 ∧ Rp K G1 (res (low R n) x y) v) → Q v H'
/-- reckon: the row is not there yet -/
def spReckon (P : Program) (w : World) (K : PySem.W.Frag) (R : List Nat) (ρ : List Int → List Int → Prop) (n : Nat) : Sp := fun vs H Q _ => ∃ (a dk df : Addr) (kn fm : List (D × D)) (x y : List Int) (rowv : V), vs = [.ref a, rowv] ∧ Sv P w K R a dk df H kn fm ∧ SS R (n + 1) kn fm ∧ Rp K H (rowD x y) rowv ∧ Nd (low R n) x ∧ Ends2 (low R n) y ∧ n ≤ R.length ∧ ρ x y ∧ dget kn (rowD x y) = none ∧
  ∀ v G1 H', Core (Zs dk df) H G1 → Same G1 H' → PostR P w K R a dk df n kn fm x y G1 → Q v H'
theorem PostR.tra {a dk df : Addr} {n : Nat} {kn fm : List (D × D)} {x y : List Int} {Z : Addr → Prop} {H G1 G2 : Hp} (t : Tra Z H G1 G2) (h : PostR P w K R a dk df n kn fm x y G1) : PostR P w K R a dk df n kn fm x y G2 := by
  obtain ⟨kn', fm', h1, h2⟩ := h
  exact ⟨kn', fm', h1.tra t, h2⟩
theorem PostR.mono {a dk df : Addr} {n : Nat} {kn fm : List (D × D)} {x y : List Int} {G1 G2 : Hp} (s : Same G1 G2) (h : PostR P w K R a dk df n kn fm x y G1) : PostR P w K R a dk df n kn fm x y G2 := by
  obtain ⟨kn', fm', h1, h2⟩ := h
  exact ⟨kn', fm', h1.mono s, h2⟩
theorem Sv.ins {a dk df : Addr} {G : Hp} {kn fm : List (D × D)} (S : Sv P w K R a dk df G kn fm) {m : Str} (hm : ∀ lv dc nv dk df, (svF lv dc nv dk df).lookup m = none) : ∃ dx fs, G a = some (.ins (He.ga K "Solver") dx fs) ∧ fs.lookup m = none := by
  obtain ⟨dx, lv, dc, nv, cm, h1, _⟩ := S.ex
  exact ⟨dx, _, h1, hm _ _ _ _ _⟩
end
section
variable {X : Cx} {G H0 : Hp} {Γ : List AV} {a b c e o : Expr} {pos apos : Pos} {k : Nat} {R : List Nat} {A dk df : Addr} {kn fm : List (D × D)} {n : Nat} {x y : List Int} {ρ : List Int → List Int → Prop} {res : List Nat → List Int → List Int → D}
/-- o.best(row), o.choice(row) -/
theorem gy_row {m : Str} (M : Mtd X.prog X.w X.K X.mg X.base (He.ga X.K "Solver") m ["self", "row"] k (spRow X.prog X.w X.K R ρ res n)) (hr : Room k X.A) (ho : GV X G Γ o (.v (.ref A))) (S : Sv X.prog X.w X.K R A dk df G kn fm) (ss : SS R (n + 1) kn fm) (he : GE X G Γ e (rowD x y)) (hx : Nd (low R n) x) (hy : Ends2 (low R n) y) (hn : n ≤ R.length) (hρ : ρ x y)
    (hm : ∀ lv dc nv dk df, (svF lv dc nv dk df).lookup m = none := by intro _ _ _ _ _; rfl) (hst1 : starEach [e] X.env = (false, eval e X.env) :: starEach [] X.env := by rfl) (hpl : (backTo pos (starEach [] X.env)).any (·.1) = false := by rfl)
    {pl : Sem Bool} (ht : eval (.Call (.Attribute o m apos) [e] [] pos) X.env = (do let ov ← eval o X.env; standAt apos.atName; let (f, first) ← holding [ov] (getMethod ov m pl); callWith pos f first (backTo pos (starEach [e] X.env)) (backToKw pos (keywordEach [] X.env))) := by rfl) :
    GY X G Γ (.Call (.Attribute o m apos) [e] [] pos) (fun v G' => Core (Zs dk df) G G' ∧ PostR X.prog X.w X.K R A dk df n kn fm x y G' ∧ Rp X.K G' (res (low R n) x y) v) := by
  obtain ⟨dx, fs, hG, hl⟩ := S.ins hm
  refine gy_meth (Z := Zs dk df) (as := [.d (rowD x y)]) M hr ho hG hl (gac1 he hst1) (zok_ext S.zext) (fun vs H Q s r hq => ?_) (fun v H G1 G2 t q => ⟨q.1.tra t, q.2.mono t.tps⟩) hst1 hpl ht
  obtain ⟨rowv, r', ev, rr, er⟩ := r
  subst ev; cases er
  exact ⟨A, dk, df, kn, fm, x, y, rowv, rfl, S.mono s, ss, rr, hx, hy, hn, hρ, hq⟩
theorem gy_reckon (M : Mtd X.prog X.w X.K X.mg X.base (He.ga X.K "Solver") "reckon" ["self", "row"] k (spReckon X.prog X.w X.K R ρ n)) (hr : Room k X.A) (ho : GV X G Γ o (.v (.ref A))) (S : Sv X.prog X.w X.K R A dk df G kn fm) (ss : SS R (n + 1) kn fm) (he : GE X G Γ e (rowD x y)) (hx : Nd (low R n) x) (hy : Ends2 (low R n) y) (hn : n ≤ R.length) (hρ : ρ x y) (h0 : dget kn (rowD x y) = none)
    (hst1 : starEach [e] X.env = (false, eval e X.env) :: starEach [] X.env := by rfl) (hpl : (backTo pos (starEach [] X.env)).any (·.1) = false := by rfl)
    {pl : Sem Bool} (ht : eval (.Call (.Attribute o "reckon" apos) [e] [] pos) X.env = (do let ov ← eval o X.env; standAt apos.atName; let (f, first) ← holding [ov] (getMethod ov "reckon" pl); callWith pos f first (backTo pos (starEach [e] X.env)) (backToKw pos (keywordEach [] X.env))) := by rfl) :
    GY X G Γ (.Call (.Attribute o "reckon" apos) [e] [] pos) (fun _ G' => Core (Zs dk df) G G' ∧ PostR X.prog X.w X.K R A dk df n kn fm x y G') := by
  obtain ⟨dx, fs, hG, hl⟩ := S.ins (m := "reckon") (fun _ _ _ _ _ => rfl)
  refine gy_meth (Z := Zs dk df) (as := [.d (rowD x y)]) (post := fun _ G' => PostR X.prog X.w X.K R A dk df n kn fm x y G') M hr ho hG hl (gac1 he hst1) (zok_ext S.zext) (fun vs H Q s r hq => ?_) (fun v H G1 G2 t q => q.tra t) hst1 hpl ht
  obtain ⟨rowv, r', ev, rr, er⟩ := r
  subst ev; cases er
  exact ⟨A, dk, df, kn, fm, x, y, rowv, rfl, S.mono s, ss, rr, hx, hy, hn, hρ, h0, fun v G1 H' c1 s1 p => hq v G1 H' c1 s1 p⟩
end
section
variable {P : Program} {w : World} {K : PySem.W.Frag} {mg : Str → Option Value} {base : Heap} {R : List Nat}
theorem sc_best : FnScope ["self", "row"] ["self", "row"] (defScope s_Solver_best) := ⟨rfl, rfl, rfl, by decide +kernel, rfl, by decide +kernel, by decide +kernel⟩
theorem c_best (T : Tx K mg) {ρ : List Int → List Int → Prop} {n k : Nat} (M : Mtd P w K mg base (He.ga K "Solver") "reckon" ["self", "row"] k (spReckon P w K R ρ n)) : Mtd P w K mg base (He.ga K "Solver") "best" ["self", "row"] (k + 1) (spRow P w K R ρ (fun rs x y => ti [exV rs x y]) n) := by
  refine mtd_make (N := ["self", "row"]) T.cls_Solver T.m_Solver_best T.f_Solver_best sc_best (fun _ _ _ _ _ _ us hl => match us, hl with | [_, _], _ => rfl) ?_ ?_
  · rintro vs H Q E ⟨a, dk, df, kn, fm, x, y, rowv, rfl, _⟩; rfl
  · rintro cdv A outer s H vs Q E C ⟨a, dk, df, kn, fm, x, y, rowv, rfl, S, ss, hrow, hx, hy, hn, hρ, hq⟩
    refine (?_ : GS _ H ([.v (.ref a), .d (rowD x y)] ++ []) _ _) _ _ (fm_start (as := [.v (.ref a), .d (rowD x y)]) ⟨_, _, rfl, rfl, _, _, rfl, hrow, rfl⟩ (Nat.le_of_ble_eq_true rfl))
    have ret : ∀ G, Core (Zs dk df) H G → PostR P w K R a dk df n kn fm x y G → ∀ (p1 p2 p3 p4 p5 p6 p7 : Pos) (z : Nat), GS (cxOf CX0 P w K mg base ["self", "row"] d_Solver_best.qual d_Solver_best.scope (He.fAd K d_Solver_best.at_) cdv A outer s H E).nox G [.v (.ref a), .d (rowD x y)] [.Return (some (.Subscript (.Subscript (.Attribute (.Name "self" p1) "known" p2) (.Name "row" p3) p4) (.Constant (.int 0) z p5) p6)) p7] { nx := fun _ H' => Q .non H', rt := Q } := by
      intro G core ⟨kn', fm', S', ss', ex', hg⟩ p1 p2 p3 p4 p5 p6 p7 z
      refine gs_retY (gy_of (ge_ixT (ds := [ti [exV (low R n) x y], toldD (low R n) x y]) (d := ti [exV (low R n) x y]) (ge_dget C (gv_known T S' (gv_var 0 rfl (fun q => by cases q))) (ge_var (x := rowD x y) 1) S'.kn hg (row_dep _ _)) ge_int)) fun v G2 H' ⟨s2, r2⟩ s3 => ?_
      exact hq v G2 H' (core.then s2) s3 ⟨PostR.mono s2 ⟨kn', fm', S', ss', ex', hg⟩, r2⟩
    cases hc : dget kn (rowD x y) with
    | none =>
      refine gs_when (gt_of (gt_dnin C (ge_var (x := rowD x y) 1) (gv_known T S (gv_var 0 rfl (fun q => by cases q))) S.kn (row_dep _ _)) (by rw [show D.tup [ti x, ti y] = rowD x y from rfl, hc]; rfl)) ?_
      refine gs_exprY (gy_reckon M C.hr (gv_var 0 rfl (fun q => by cases q)) S ss (ge_var 1) hx hy hn hρ hc) fun v G' ⟨c1, hp⟩ => gs_end ?_
      exact ret G' c1 hp _ _ _ _ _ _ _ _
    | some c =>
      refine gs_unless (gt_of (gt_dnin C (ge_var (x := rowD x y) 1) (gv_known T S (gv_var 0 rfl (fun q => by cases q))) S.kn (row_dep _ _)) (by rw [show D.tup [ti x, ti y] = rowD x y from rfl, hc]; rfl)) ?_
      have ec := ss.good.ex n (Nat.lt_succ_self n) hn x y c hx hy hc
      exact ret H Core.refl ⟨kn, fm, S, ss, Ex.refl, by rw [hc, ec]⟩ _ _ _ _ _ _ _ _
end
end WB
namespace WB
open PySem PySem.Spec PyProof.Rows L2
section
variable {P : Program} {w : World} {K : PySem.W.Frag} {mg : Str → Option Value} {base : Heap} {R : List Nat}
theorem sc_choice : FnScope ["self", "row"] ["self", "row"] (defScope s_Solver_choice) := ⟨rfl, rfl, rfl, by decide +kernel, rfl, by decide +kernel, by decide +kernel⟩
theorem c_choice (T : Tx K mg) {ρ : List Int → List Int → Prop} {n k : Nat} (M : Mtd P w K mg base (He.ga K "Solver") "reckon" ["self", "row"] k (spReckon P w K R ρ n)) : Mtd P w K mg base (He.ga K "Solver") "choice" ["self", "row"] (k + 1) (spRow P w K R ρ toldD n) := by
  refine mtd_make (N := ["self", "row"]) T.cls_Solver T.m_Solver_choice T.f_Solver_choice sc_choice (fun _ _ _ _ _ _ us hl => match us, hl with | [_, _], _ => rfl) ?_ ?_
  · rintro vs H Q E ⟨a, dk, df, kn, fm, x, y, rowv, rfl, _⟩; rfl
  · rintro cdv A outer s H vs Q E C ⟨a, dk, df, kn, fm, x, y, rowv, rfl, S, ss, hrow, hx, hy, hn, hρ, hq⟩
    refine (?_ : GS _ H ([.v (.ref a), .d (rowD x y)] ++ []) _ _) _ _ (fm_start (as := [.v (.ref a), .d (rowD x y)]) ⟨_, _, rfl, rfl, _, _, rfl, hrow, rfl⟩ (Nat.le_of_ble_eq_true rfl))
    have ret : ∀ G, Core (Zs dk df) H G → PostR P w K R a dk df n kn fm x y G → ∀ (p1 p2 p3 p4 p5 p6 p7 : Pos) (z : Nat), GS (cxOf CX0 P w K mg base ["self", "row"] d_Solver_choice.qual d_Solver_choice.scope (He.fAd K d_Solver_choice.at_) cdv A outer s H E).nox G [.v (.ref a), .d (rowD x y)] [.Return (some (.Subscript (.Subscript (.Attribute (.Name "self" p1) "known" p2) (.Name "row" p3) p4) (.Constant (.int 1) z p5) p6)) p7] { nx := fun _ H' => Q .non H', rt := Q } := by
      intro G core ⟨kn', fm', S', ss', ex', hg⟩ p1 p2 p3 p4 p5 p6 p7 z
      refine gs_retY (gy_of (ge_ixT (ds := [ti [exV (low R n) x y], toldD (low R n) x y]) (d := toldD (low R n) x y) (ge_dget C (gv_known T S' (gv_var 0 rfl (fun q => by cases q))) (ge_var (x := rowD x y) 1) S'.kn hg (row_dep _ _)) ge_int)) fun v G2 H' ⟨s2, r2⟩ s3 => ?_
      exact hq v G2 H' (core.then s2) s3 ⟨PostR.mono s2 ⟨kn', fm', S', ss', ex', hg⟩, r2⟩
    cases hc : dget kn (rowD x y) with
    | none =>
      refine gs_when (gt_of (gt_dnin C (ge_var (x := rowD x y) 1) (gv_known T S (gv_var 0 rfl (fun q => by cases q))) S.kn (row_dep _ _)) (by rw [show D.tup [ti x, ti y] = rowD x y from rfl, hc]; rfl)) ?_
      refine gs_exprY (gy_reckon M C.hr (gv_var 0 rfl (fun q => by cases q)) S ss (ge_var 1) hx hy hn hρ hc) fun v G' ⟨c1, hp⟩ => gs_end ?_
      exact ret G' c1 hp _ _ _ _ _ _ _ _
    | some c =>
      refine gs_unless (gt_of (gt_dnin C (ge_var (x := rowD x y) 1) (gv_known T S (gv_var 0 rfl (fun q => by cases q))) S.kn (row_dep _ _)) (by rw [show D.tup [ti x, ti y] = rowD x y from rfl, hc]; rfl)) ?_
      have ec := ss.good.ex n (Nat.lt_succ_self n) hn x y c hx hy hc
      exact ret H Core.refl ⟨kn, fm, S, ss, Ex.refl, by rw [hc, ec]⟩ _ _ _ _ _ _ _ _
end
/-! ### what the tables keep -/
theorem low_len {R : List Nat} {n : Nat} (h : n ≤ R.length) : (low R n).length = n := by unfold low; rw [List.length_drop]; omega
theorem Nd.len {R : List Nat} {n : Nat} {x : List Int} (ok : Ok24 R) (h : Nd (low R n) x) (hn : n ≤ R.length) : x.length = n := by rw [(h.wd (ok.low n)).len, low_len hn]
theorem Ends2.len {R : List Nat} {n : Nat} {x : List Int} (ok : Ok24 R) (h : Ends2 (low R n) x) (hn : n ≤ R.length) : x.length = n := by rw [(h.wd (ok.low n)).len, low_len hn]
/-- a row with its right cell is laid -/
theorem Good.setK {R : List Nat} {N n : Nat} {kn fm : List (D × D)} {x y : List Int} (ok : Ok24 R) (g : Good R N kn fm) (hn : n ≤ R.length) (hx : Nd (low R n) x) (hy : Ends2 (low R n) y)
    (hf : ∀ n' m, n = n' + 1 → n + 1 ≤ N → low R n = m :: low R n' → ∀ u p v q, x = u ++ [p] → y = v ++ [q] → p ≠ q → (dget fm (famD n y)).isSome = true) : Good R N (dset kn (rowD x y) (exC (low R n) x y)) fm := by
  refine ⟨fun n1 h1 h2 x1 y1 c hx1 hy1 hg => ?_, fun n1 m1 h1 h2 h3 y1 hy1 hg h t w hgap => ?_, fun n1 m1 h1 h2 h3 u p v q hx1 hy1 hne hg => ?_⟩
  · rw [dget_dset] at hg
    by_cases hk : (rowD x y).key = (rowD x1 y1).key
    · rw [if_pos hk] at hg
      obtain ⟨e1, e2⟩ := row_key.mp hk
      subst e1; subst e2
      have : n = n1 := (hx.len ok hn).symm.trans (hx1.len ok h2)
      subst this
      exact (Option.some.inj hg).symm
    · rw [if_neg hk] at hg
      exact g.ex n1 h1 h2 x1 y1 c hx1 hy1 hg
  · rw [dget_dset]
    split
    · rfl
    · exact g.fam n1 m1 h1 h2 h3 y1 hy1 hg h t w hgap
  · rw [dget_dset] at hg
    by_cases hk : (rowD x y).key = (rowD (u ++ [p]) (v ++ [q])).key
    · obtain ⟨e1, e2⟩ := row_key.mp hk
      have e3 : n = n1 + 1 := by
        rw [← hx.len ok hn, e1]; exact hx1.len ok (by omega)
      subst e3
      have := hf n1 m1 rfl (by omega) h3 u p v q e1 e2 hne
      rw [e2] at this; exact this
    · rw [if_neg hk] at hg
      exact g.nst n1 m1 h1 h2 h3 u p v q hx1 hy1 hne hg
/-- calls of lower levels leave this level as it is -/
theorem Good.lift {R : List Nat} {N : Nat} {kn fm kn1 fm1 : List (D × D)} (ok : Ok24 R) (g : Good R (N + 1) kn fm) (g1 : Good R N kn1 fm1) (ex : Ex N kn fm kn1 fm1) : Good R (N + 1) kn1 fm1 := by
  refine ⟨fun n1 h1 h2 x1 y1 c hx1 hy1 hg => ?_, fun n1 m1 h1 h2 h3 y1 hy1 hg h t w hgap => ?_, fun n1 m1 h1 h2 h3 u p v q hx1 hy1 hne hg => ?_⟩
  · by_cases h : n1 < N
    · exact g1.ex n1 h h2 x1 y1 c hx1 hy1 hg
    · rw [ex.k2 x1 y1 (by rw [hx1.len ok h2]; omega)] at hg
      exact g.ex n1 h1 h2 x1 y1 c hx1 hy1 hg
  · by_cases hlt : n1 + 1 < N
    · exact g1.fam n1 m1 hlt h2 h3 y1 hy1 hg h t w hgap
    · rw [ex.f2 (n1 + 1) y1 (by omega)] at hg
      have := g.fam n1 m1 h1 h2 h3 y1 hy1 hg h t w hgap
      obtain ⟨c, hc⟩ := Option.isSome_iff_exists.mp this
      rw [ex.k1 _ c hc]; rfl
  · by_cases hlt : n1 + 1 < N
    · exact g1.nst n1 m1 hlt h2 h3 u p v q hx1 hy1 hne hg
    · rw [ex.k2 _ _ (by rw [hx1.len ok (by omega)]; omega)] at hg
      exact ex.f1 _ (g.nst n1 m1 h1 h2 h3 u p v q hx1 hy1 hne hg)
/-- a store at a higher level -/
theorem Good.high {R : List Nat} {N n : Nat} {kn fm : List (D × D)} {x y : List Int} {c : D} (ok : Ok24 R) (g : Good R N kn fm) (hn : N ≤ n) (hx : x.length = n) : Good R N (dset kn (rowD x y) c) fm := by
  refine ⟨fun n1 h1 h2 x1 y1 c1 hx1 hy1 hg => ?_, fun n1 m1 h1 h2 h3 y1 hy1 hg h t w hgap => ?_, fun n1 m1 h1 h2 h3 u p v q hx1 hy1 hne hg => ?_⟩
  · rw [dget_dset, if_neg fun hk => by
      have := (row_key.mp hk).1
      rw [this] at hx
      have := hx1.len ok h2
      omega] at hg
    exact g.ex n1 h1 h2 x1 y1 c1 hx1 hy1 hg
  · rw [dget_dset]
    split
    · rfl
    · exact g.fam n1 m1 h1 h2 h3 y1 hy1 hg h t w hgap
  · rw [dget_dset, if_neg fun hk => by
      have := (row_key.mp hk).1
      rw [this] at hx
      have := hx1.len ok (by omega)
      omega] at hg
    exact g.nst n1 m1 h1 h2 h3 u p v q hx1 hy1 hne hg
theorem Good.highF {R : List Nat} {N n : Nat} {kn fm : List (D × D)} {y : List Int} {c : D} (g : Good R N kn fm) (hn : N ≤ n) : Good R N kn (dset fm (famD n y) c) := by
  refine ⟨g.ex, fun n1 m1 h1 h2 h3 y1 hy1 hg h t w hgap => ?_, fun n1 m1 h1 h2 h3 u p v q hx1 hy1 hne hg => ?_⟩
  · rw [dget_dset, if_neg fun hk => by
      have := (fam_key.mp hk).1
      omega] at hg
    exact g.fam n1 m1 h1 h2 h3 y1 hy1 hg h t w hgap
  · rw [dget_dset]
    split
    · rfl
    · exact g.nst n1 m1 h1 h2 h3 u p v q hx1 hy1 hne hg
/-- the tables that differ at one row of a higher level -/
theorem Good.but {R : List Nat} {N n : Nat} {kn kn' fm : List (D × D)} {x y : List Int} (ok : Ok24 R) (g : Good R N kn fm) (hn : N ≤ n) (hx : x.length = n) (h : ∀ q : D, q.key ≠ (rowD x y).key → dget kn' q = dget kn q) : Good R N kn' fm := by
  have ne : ∀ n1 x1 y1, n1 < N → n1 ≤ R.length → Nd (low R n1) x1 → (rowD x1 y1).key ≠ (rowD x y).key := fun n1 x1 y1 h1 h2 hx1 hk => by
    have e := (row_key.mp hk).1
    rw [e] at hx1
    have := hx1.len ok h2
    omega
  refine ⟨fun n1 h1 h2 x1 y1 c1 hx1 hy1 hg => ?_, fun n1 m1 h1 h2 h3 y1 hy1 hg h' t w hgap => ?_, fun n1 m1 h1 h2 h3 u p v q hx1 hy1 hne hg => ?_⟩
  · rw [h _ (ne n1 x1 y1 h1 h2 hx1)] at hg
    exact g.ex n1 h1 h2 x1 y1 c1 hx1 hy1 hg
  · obtain ⟨hh, tt, vv, e, ⟨j, hj, ew⟩, hwd, _, _, t0, t1, _⟩ := gapsD_mem (rs := low R n1) (m := m1) (by rw [← h3]; exact ok.low _) hgap
    have e1 : t = tt := by injection e with e; injection e with _ e; injection e with e _; injection e
    have e2 : w = vv := by
      injection e with e; injection e with _ e; injection e with _ e; injection e with _ e; injection e with e _; injection e with e; injection e with e _
      have : ti w = ti vv := e
      have hq := ti_eqv w vv
      rw [this, D.eqv_self] at hq
      exact of_decide_eq_true hq.symm
    have hnd : Nd (low R (n1 + 1)) (w ++ [t]) := by
      rw [h3]
      refine ⟨w, t, rfl, ?_, by rw [e1]; exact t0, by rw [e1]; exact t1⟩
      rw [e2, ew]; unfold Wy
      split
      · exact .inr rfl
      · exact .inl rfl
    rw [h _ (ne (n1 + 1) _ y1 h1 (by omega) hnd)]
    exact g.fam n1 m1 h1 h2 h3 y1 hy1 hg h' t w hgap
  · rw [h _ (ne (n1 + 1) _ _ h1 (by omega) hx1)] at hg
    exact g.nst n1 m1 h1 h2 h3 u p v q hx1 hy1 hne hg
theorem Ex.setK {N : Nat} {kn fm kn' fm' : List (D × D)} {x y : List Int} {c : D} (e : Ex N kn fm kn' fm') (h0 : dget kn' (rowD x y) = none) (hl : x.length < N) : Ex N kn fm (dset kn' (rowD x y) c) fm' := by
  refine ⟨fun q c1 h => ?_, fun x1 y1 h => ?_, e.f1, e.f2⟩
  · have h1 := e.k1 q c1 h
    rw [dget_dset]
    split
    · rename_i hk
      have : dget kn' (rowD x y) = dget kn' q := by
        have gen : ∀ m : List (D × D), dget m (rowD x y) = dget m q := by
          intro m
          induction m with
          | nil => rfl
          | cons p m ih => obtain ⟨a, b⟩ := p; unfold dget; rw [hk, ih]
        exact gen kn'
      rw [h0, h1] at this; cases this
    · exact h1
  · rw [dget_dset, if_neg fun hk => by
      have := (row_key.mp hk).1
      rw [this] at hl; omega]
    exact e.k2 x1 y1 h
theorem dget_key {m : List (D × D)} {p q : D} (h : p.key = q.key) : dget m p = dget m q := by
  induction m with
  | nil => rfl
  | cons e m ih => obtain ⟨a, b⟩ := e; unfold dget; rw [h, ih]
end WB
namespace WB
open PySem PySem.Spec PyProof.Rows L2
/-! ### the turns of a row -/
def gT : D → Int
  | .tup (_ :: .int t :: _) => t
  | _ => 0
def gWs : D → List D
  | .tup [_, _, _, .tup [.tup w]] => w
  | _ => []
def toI : D → Int
  | .int i => i
  | _ => 0
def gW (d : D) : List Int := (gWs d).map toI
theorem gW_gap (h t : Int) (w : List Int) : gW (gapD h t w) = w := by
  show (w.map D.int).map toI = w
  rw [List.map_map]
  exact List.map_id'' (fun _ => rfl) w
theorem gT_gap (h t : Int) (w : List Int) : gT (gapD h t w) = t := rfl
def gapTn (rs : List Nat) (u : List Int) (d : D) : Tn := ⟨dst (pos rs u) (pos rs (gW d)) + 1, gW d ++ [gT d], .tup [.str "gap", d, ti (gW d), .int 1]⟩
def turnsOf (rs : List Nat) (m : Nat) (u : List Int) (p : Int) : List Tn := (gapsAt rs m p).map (gapTn rs u)
theorem lessF_no {wo : List Int → Option Int} {s : (Option Int × D) × Bool} : ∀ {ts : List Tn}, (∀ t ∈ ts, wo t.x = none) → lessF wo s ts = s
  | [], _ => rfl
  | t :: ts, h => by
    show lessF wo (lessStep wo s t) ts = s
    have e : lessStep wo s t = s := by unfold lessStep; rw [h t List.mem_cons_self]
    rw [e]; exact lessF_no fun t' ht => h t' (List.mem_cons_of_mem _ ht)
section
variable {wo : List Int → Option Int} {isF : Tn → Prop} {ex : Int} {tl : D}
theorem lessF_ex {f : Bool} : ∀ {ts : List Tn}, (∀ t ∈ ts, isF t → ∃ v, wo t.x = some v ∧ t.c + v = ex ∧ t.told = tl) → (∀ t ∈ ts, ¬ isF t → ∀ v, wo t.x = some v → ex < t.c + v) → lessF wo ((some ex, tl), f) ts = ((some ex, tl), f)
  | [], _, _ => rfl
  | t :: ts, hF, hB => by
    show lessF wo (lessStep wo ((some ex, tl), f) t) ts = _
    have e : lessStep wo ((some ex, tl), f) t = ((some ex, tl), f) := by
      unfold lessStep
      cases hw : wo t.x with
      | none => rfl
      | some v =>
        have hge : ¬ t.c + v < ex := by
          by_cases hf : isF t
          · obtain ⟨v', h1, h2, _⟩ := hF t List.mem_cons_self hf
            rw [hw] at h1; cases h1; omega
          · have := hB t List.mem_cons_self hf v hw; omega
        show (if t.c + v < ex then _ else _) = _
        rw [if_neg hge]
    rw [e]
    exact lessF_ex (fun t' ht => hF t' (List.mem_cons_of_mem _ ht)) fun t' ht => hB t' (List.mem_cons_of_mem _ ht)
theorem lessF_fwd : ∀ {ts : List Tn} {o : Option Int} {d : D} {f : Bool}, (o = none ∨ ∃ b, o = some b ∧ ex < b) → (∀ t ∈ ts, isF t → ∃ v, wo t.x = some v ∧ t.c + v = ex ∧ t.told = tl) → (∀ t ∈ ts, ¬ isF t → ∀ v, wo t.x = some v → ex < t.c + v) → (∃ t ∈ ts, isF t) → lessF wo ((o, d), f) ts = ((some ex, tl), true)
  | [], _, _, _, _, _, _, ⟨t, ht, _⟩ => by cases ht
  | t :: ts, o, d, f, ho, hF, hB, he => by
    show lessF wo (lessStep wo ((o, d), f) t) ts = _
    have hF' : ∀ t' ∈ ts, isF t' → ∃ v, wo t'.x = some v ∧ t'.c + v = ex ∧ t'.told = tl := fun t' ht => hF t' (List.mem_cons_of_mem _ ht)
    have hB' : ∀ t' ∈ ts, ¬ isF t' → ∀ v, wo t'.x = some v → ex < t'.c + v := fun t' ht => hB t' (List.mem_cons_of_mem _ ht)
    by_cases hf : isF t
    · obtain ⟨v, h1, h2, h3⟩ := hF t List.mem_cons_self hf
      have e : lessStep wo ((o, d), f) t = ((some ex, tl), true) := by
        unfold lessStep
        rw [h1]
        rcases ho with ho | ⟨b, ho, hb⟩
        · rw [ho]
          show ((some (t.c + v), t.told), true) = _
          rw [h2, h3]
        · rw [ho]
          show (if t.c + v < b then _ else _) = _
          rw [if_pos (by omega), h2, h3]
      rw [e]; exact lessF_ex hF' hB'
    · have he' : ∃ t' ∈ ts, isF t' := by
        obtain ⟨t', h1, h2⟩ := he
        rcases List.mem_cons.mp h1 with z | z
        · exact absurd (z ▸ h2) hf
        · exact ⟨t', z, h2⟩
      have e : ∃ o' d' f', lessStep wo ((o, d), f) t = ((o', d'), f') ∧ (o' = none ∨ ∃ b, o' = some b ∧ ex < b) := by
        unfold lessStep
        cases hw : wo t.x with
        | none => exact ⟨o, d, f, rfl, ho⟩
        | some v =>
          have hb := hB t List.mem_cons_self hf v hw
          rcases ho with ho | ⟨b, ho, hb2⟩
          · rw [ho]; exact ⟨_, _, _, rfl, .inr ⟨_, rfl, hb⟩⟩
          · rw [ho]
            show ∃ o' d' f', (if t.c + v < b then ((some (t.c + v), t.told), true) else ((some b, d), f)) = ((o', d'), f') ∧ _
            split
            · exact ⟨_, _, _, rfl, .inr ⟨_, rfl, hb⟩⟩
            · exact ⟨_, _, _, rfl, .inr ⟨_, rfl, hb2⟩⟩
      obtain ⟨o', d', f', e, ho'⟩ := e
      rw [e]; exact lessF_fwd ho' hF' hB' he'
end
/-- the turns of the row u ++ [p] towards v ++ [q], where the neighbour ahead is known -/
theorem turns_ok {m : Nat} {rs : List Nat} (ok : Ok24 (m :: rs)) {u v : List Int} {p q : Int} (hu : Wd (m :: rs) (u ++ [p])) (hv : Wd (m :: rs) (v ++ [q])) (hne : q ≠ p) {wo : List Int → Option Int} (hw : ∀ x c, wo x = some c → c = exV (m :: rs) x (v ++ [q])) (hf : (wo (fwdW rs p q)).isSome = true) :
    (∀ t ∈ turnsOf rs m u p, t.x = fwdW rs p q → ∃ c, wo t.x = some c ∧ t.c + c = exV (m :: rs) (u ++ [p]) (v ++ [q]) ∧ t.told = gapT rs p (stepT p q)) ∧ (∀ t ∈ turnsOf rs m u p, ¬ t.x = fwdW rs p q → ∀ c, wo t.x = some c → exV (m :: rs) (u ++ [p]) (v ++ [q]) < t.c + c) ∧ ∃ t ∈ turnsOf rs m u p, t.x = fwdW rs p q := by
  obtain ⟨u', p', eu, wu, p0, p1⟩ := hu
  obtain ⟨v', q', ev, wv, q0, q1⟩ := hv
  obtain ⟨rfl, ep⟩ := List.append_inj' eu rfl
  obtain ⟨rfl, eq⟩ := List.append_inj' ev rfl
  have ep : p = p' := by injection ep
  have eq : q = q' := by injection eq
  subst ep; subst eq
  have hu : Wd (m :: rs) (u ++ [p]) := ⟨u, p, rfl, wu, p0, p1⟩
  have hv : Wd (m :: rs) (v ++ [q]) := ⟨v, q, rfl, wv, q0, q1⟩
  have st : (stepT p q = p + 1 ∨ stepT p q = p - 1) ∧ 0 ≤ stepT p q ∧ stepT p q ≤ (m : Int) - 1 := by
    unfold stepT
    split <;> omega
  have inj : ∀ (d : D), d ∈ gapsAt rs m p → ∃ t : Int, (t = p + 1 ∨ t = p - 1) ∧ 0 ≤ t ∧ d = gapD p t (Wy rs (min p t).toNat) ∧ (gapTn rs u d).x = Wy rs (min p t).toNat ++ [t] ∧ (gapTn rs u d).c = dst (pos rs u) (pos rs (Wy rs (min p t).toNat)) + 1 ∧ (gapTn rs u d).told = gapT rs p t := fun d hd => by
    obtain ⟨t, h1, h2, h3, e⟩ := (gapsAt_iff p0 p1).mp hd
    refine ⟨t, h1, h2, e, ?_, ?_, ?_⟩
    · show gW d ++ [gT d] = _
      rw [e, gW_gap, gT_gap]
    · show dst (pos rs u) (pos rs (gW d)) + 1 = _
      rw [e, gW_gap]
    · show D.tup [.str "gap", d, ti (gW d), .int 1] = _
      rw [e, gW_gap]; rfl
  refine ⟨fun tn ht hx => ?_, fun tn ht hx c hc => ?_, ?_⟩
  · obtain ⟨d, hd, rfl⟩ := List.mem_map.mp ht
    obtain ⟨t, h1, h2, e, e1, e2, e3⟩ := inj d hd
    obtain ⟨c, hc⟩ := Option.isSome_iff_exists.mp hf
    have et : t = stepT p q := by
      rw [e1] at hx
      unfold fwdW at hx
      have := (List.append_inj' hx rfl).2
      injection this
    refine ⟨c, by rw [hx]; exact hc, ?_, by rw [e3, et]⟩
    have ec := hw _ c hc
    have := (gap_val ok hu hv hne h1 h2).1 et
    rw [e2, ec, ← this, et]; rfl
  · obtain ⟨d, hd, rfl⟩ := List.mem_map.mp ht
    obtain ⟨t, h1, h2, e, e1, e2, e3⟩ := inj d hd
    have et : t ≠ stepT p q := fun z => hx (by rw [e1, z]; rfl)
    have ec := hw _ c hc
    have := (gap_val ok hu hv hne h1 h2).2 et
    rw [e2, ec, e1]; exact this
  · have hg : gapD p (stepT p q) (Wy rs (min p (stepT p q)).toNat) ∈ gapsAt rs m p := (gapsAt_iff p0 p1).mpr ⟨stepT p q, st.1, st.2.1, st.2.2, rfl⟩
    refine ⟨_, List.mem_map.mpr ⟨_, hg, rfl⟩, ?_⟩
    show gW _ ++ [gT _] = _
    rw [gW_gap, gT_gap]; rfl
def spFamily (P : Program) (w : World) (K : PySem.W.Frag) (R : List Nat) (n0 : Nat) : Sp := fun vs H Q _ => ∃ (a dk df : Addr) (kn fm : List (D × D)) (y : List Int) (wv : V), vs = [.ref a, .int ((n0 + 1 : Nat) : Int), wv] ∧ Sv P w K R a dk df H kn fm ∧ SS R (n0 + 2) kn fm ∧ Rp K H (.tup [ti y]) wv ∧ Ends2 (low R (n0 + 1)) y ∧ n0 < R.length ∧
  ∀ v G1 H', Core (Zs dk df) H G1 → Same G1 H' → (∃ kn' fm', Sv P w K R a dk df G1 kn' fm' ∧ SS R (n0 + 2) kn' fm' ∧ Ex (n0 + 2) kn fm kn' fm' ∧ (dget fm' (famD (n0 + 1) y)).isSome = true) → Q v H'
def PostT (P : Program) (w : World) (K : PySem.W.Frag) (R : List Nat) (a dk df : Addr) (n0 : Nat) (kn fm : List (D × D)) (ts : List D) (H : Hp) (v : V) (G1 : Hp) : Prop := ∃ kn' fm' l vs, Sv P w K R a dk df G1 kn' fm' ∧ SS R (n0 + 1) kn' fm' ∧ Ex (n0 + 1) kn fm kn' fm' ∧ v = .ref l ∧ H l = none ∧ G1 l = some (.lst vs) ∧ RpAll K G1 ts vs
def spTurns (P : Program) (w : World) (K : PySem.W.Frag) (R : List Nat) (n0 : Nat) : Sp := fun vs H Q _ => ∃ (a dk df : Addr) (kn fm : List (D × D)) (m : Nat) (u v : List Int) (p q : Int) (rowv : V), vs = [.ref a, rowv] ∧ Sv P w K R a dk df H kn fm ∧ SS R (n0 + 1) kn fm ∧ Rp K H (rowD (u ++ [p]) (v ++ [q])) rowv ∧ low R (n0 + 1) = m :: low R n0 ∧ n0 < R.length ∧ Nd (low R (n0 + 1)) (u ++ [p]) ∧ Ends2 (low R (n0 + 1)) (v ++ [q]) ∧ q ≠ p ∧
  ∀ r G1 H', Core (Zs dk df) H G1 → Same G1 H' → PostT P w K R a dk df n0 kn fm ((turnsOf (low R n0) m u p).map (tnD (v ++ [q]))) H r G1 → Q r H'
end WB
namespace WB
open PySem PySem.Spec PyProof.Rows L2
theorem core_k {dk df : Addr} {G G1 : Hp} (c : Core (fun x => x = dk) G G1) : Core (Zs dk df) G G1 := fun a o e n => c a o e fun z => n (.inl z)
theorem core_f {dk df : Addr} {G G1 : Hp} (c : Core (fun x => x = df) G G1) : Core (Zs dk df) G G1 := fun a o e n => c a o e fun z => n (.inr z)
theorem exC_still (m : Nat) (rs : List Nat) (u v : List Int) (p : Int) : exC (m :: rs) (u ++ [p]) (v ++ [p]) = .tup [ti [exV rs u v], belowD] := by
  unfold exC
  rw [exV_still, told_snoc, if_pos rfl]
theorem kn_small {R : List Nat} {N : Nat} {kn fm : List (D × D)} (ok : Ok24 R) (hR : R.length ≤ 60) (s : SS R N kn fm) : kn.length < 1000000 := by have := s.ko.len ok; omega
theorem fm_small {R : List Nat} {N : Nat} {kn fm : List (D × D)} (hR : R.length ≤ 60) (s : SS R N kn fm) : fm.length < 1000000 := by have := s.fo.len; omega
section
variable {X : Cx} {G : Hp} {Γ : List AV} {e o : Expr} {es : List Expr} {pos apos : Pos} {m : Str} {ps : List Str} {k : Nat} {sp : Sp} {Z : Addr → Prop} {post : V → Hp → Hp → Prop} {as : List AV}
/-- a method's call, told with the heap before it -/
theorem gy_methH {A Cc dx : Addr} {fs : List (Str × V)} {pl : Sem Bool} (M : Mtd X.prog X.w X.K X.mg X.base Cc m ps k sp) (hr : Room k X.A) (ho : GV X G Γ o (.v (.ref A))) (hG : G A = some (.ins Cc dx fs)) (hl : fs.lookup m = none) (ha : GA X G Γ (e :: es) as) (hZ : ZOk X G Γ Z)
    (hsp : ∀ (vs : List V) (H : Hp) (Q : VK), Same G H → ArgsOk X.K H as vs → (∀ v G1 H', Core Z H G1 → Same G1 H' → post v H G1 → Q v H') → sp (.ref A :: vs) H Q L2.E0) (hst : ∀ v H G1 G2, Tra Z H G1 G2 → post v H G1 → post v H G2)
    (hst1 : starEach (e :: es) X.env = (false, eval e X.env) :: starEach es X.env := by rfl) (hpl : (backTo pos (starEach es X.env)).any (·.1) = false := by rfl)
    (ht : eval (.Call (.Attribute o m apos) (e :: es) [] pos) X.env = (do let ov ← eval o X.env; standAt apos.atName; let (f, first) ← holding [ov] (getMethod ov m pl); callWith pos f first (backTo pos (starEach (e :: es) X.env)) (backToKw pos (keywordEach [] X.env))) := by rfl) :
    GY X G Γ (.Call (.Attribute o m apos) (e :: es) [] pos) (fun v G' => Core Z G G' ∧ ∃ H, Same G H ∧ post v H G') := fun σ H Q F kq => by
  obtain ⟨f, fd, hm, Fn, hb⟩ := M.ex
  refine er_of (pe_meth pe_self M.cls hm Fn hr hb .nil pass0 pa_self hst1 hpl ht) ?_
  refine ho σ H _ F fun x H1 e1 r1 => ?_
  have ex : x = .ref A := r1
  subst ex
  refine ⟨A, dx, fs, rfl, e1 _ _ (F.ex _ _ hG), hl, ?_⟩
  refine ha σ H1 _ (F.same e1) fun vs H2 e2 r2 => ?_
  have F2 := F.same (e1.trans e2)
  rw [List.append_nil]
  refine hsp vs H2 Q F2.ex r2 fun v G1 H' c1 s1 hp => ?_
  have cH : Core Z H2 H' := c1.then s1
  obtain ⟨G', d1, d2, F', tr⟩ := F2.region (hZ σ H2 F2) cH
  exact kq v H' G' ⟨d1, H2, F2.ex, hst v H2 G1 G' (tr G1 c1 s1) hp⟩ F'
end
section
variable {X : Cx} {G : Hp} {Γ : List AV} {e e1 o : Expr} {pos apos : Pos} {k : Nat} {R : List Nat} {A dk df : Addr} {kn fm : List (D × D)} {n0 : Nat}
theorem gy_turns (M : Mtd X.prog X.w X.K X.mg X.base (He.ga X.K "Solver") "first_turns" ["self", "row"] k (spTurns X.prog X.w X.K R n0)) (hr : Room k X.A) (ho : GV X G Γ o (.v (.ref A))) (S : Sv X.prog X.w X.K R A dk df G kn fm) (ss : SS R (n0 + 1) kn fm) {m : Nat} {u v : List Int} {p q : Int} (he : GE X G Γ e (rowD (u ++ [p]) (v ++ [q]))) (hlow : low R (n0 + 1) = m :: low R n0) (hn : n0 < R.length) (hx : Nd (low R (n0 + 1)) (u ++ [p])) (hy : Ends2 (low R (n0 + 1)) (v ++ [q])) (hne : q ≠ p)
    (hst1 : starEach [e] X.env = (false, eval e X.env) :: starEach [] X.env := by rfl) (hpl : (backTo pos (starEach [] X.env)).any (·.1) = false := by rfl)
    {pl : Sem Bool} (ht : eval (.Call (.Attribute o "first_turns" apos) [e] [] pos) X.env = (do let ov ← eval o X.env; standAt apos.atName; let (f, first) ← holding [ov] (getMethod ov "first_turns" pl); callWith pos f first (backTo pos (starEach [e] X.env)) (backToKw pos (keywordEach [] X.env))) := by rfl) :
    GY X G Γ (.Call (.Attribute o "first_turns" apos) [e] [] pos) (fun r G' => Core (Zs dk df) G G' ∧ ∃ kn' fm' l vs, Sv X.prog X.w X.K R A dk df G' kn' fm' ∧ SS R (n0 + 1) kn' fm' ∧ Ex (n0 + 1) kn fm kn' fm' ∧ r = .ref l ∧ G l = none ∧ G' l = some (.lst vs) ∧ RpAll X.K G' ((turnsOf (low R n0) m u p).map (tnD (v ++ [q]))) vs) := by
  obtain ⟨dx, fs, hG, hl⟩ := S.ins (m := "first_turns") (fun _ _ _ _ _ => rfl)
  refine GY.imp (gy_methH (Z := Zs dk df) (as := [.d (rowD (u ++ [p]) (v ++ [q]))]) (post := fun r H G' => PostT X.prog X.w X.K R A dk df n0 kn fm ((turnsOf (low R n0) m u p).map (tnD (v ++ [q]))) H r G') M hr ho hG hl (gac1 he hst1) (zok_ext S.zext) (fun vs H Q s r hq => ?_) (fun v H G1 G2 t q => ?_) hst1 hpl ht) fun r G' ⟨c1, H, s, q⟩ => ?_
  · obtain ⟨rowv, r', ev, rr, er⟩ := r
    subst ev; cases er
    exact ⟨A, dk, df, kn, fm, m, u, v, p, q, rowv, rfl, S.mono s, ss, rr, hlow, hn, hx, hy, hne, hq⟩
  · obtain ⟨kn', fm', l, vs, h1, h2, h3, h4, h5, h6, h7⟩ := q
    exact ⟨kn', fm', l, vs, h1.tra t, h2, h3, h4, h5, t _ _ h6 (.inr (.inr h5)), by
      have : ∀ {ds : List D} {vs : List V}, RpAll X.K G1 ds vs → RpAll X.K G2 ds vs := fun h => h.mono t.tps
      exact this h7⟩
  · obtain ⟨kn', fm', l, vs, h1, h2, h3, h4, h5, h6, h7⟩ := q
    exact ⟨c1, kn', fm', l, vs, h1, h2, h3, h4, s.free h5, h6, h7⟩
theorem gy_family (M : Mtd X.prog X.w X.K X.mg X.base (He.ga X.K "Solver") "reckon_family" ["self", "many", "wishes"] k (spFamily X.prog X.w X.K R n0)) (hr : Room k X.A) (ho : GV X G Γ o (.v (.ref A))) (S : Sv X.prog X.w X.K R A dk df G kn fm) (ss : SS R (n0 + 2) kn fm) {y : List Int} (he : GE X G Γ e (.int ((n0 + 1 : Nat) : Int))) (he1 : GE X G Γ e1 (.tup [ti y])) (hn : n0 < R.length) (hy : Ends2 (low R (n0 + 1)) y)
    (hst1 : starEach [e, e1] X.env = (false, eval e X.env) :: starEach [e1] X.env := by rfl) (hst2 : starEach [e1] X.env = (false, eval e1 X.env) :: starEach [] X.env := by rfl) (hpl : (backTo pos (starEach [e1] X.env)).any (·.1) = false := by rfl)
    {pl : Sem Bool} (ht : eval (.Call (.Attribute o "reckon_family" apos) [e, e1] [] pos) X.env = (do let ov ← eval o X.env; standAt apos.atName; let (f, first) ← holding [ov] (getMethod ov "reckon_family" pl); callWith pos f first (backTo pos (starEach [e, e1] X.env)) (backToKw pos (keywordEach [] X.env))) := by rfl) :
    GY X G Γ (.Call (.Attribute o "reckon_family" apos) [e, e1] [] pos) (fun _ G' => Core (Zs dk df) G G' ∧ ∃ kn' fm', Sv X.prog X.w X.K R A dk df G' kn' fm' ∧ SS R (n0 + 2) kn' fm' ∧ Ex (n0 + 2) kn fm kn' fm' ∧ (dget fm' (famD (n0 + 1) y)).isSome = true) := by
  obtain ⟨dx, fs, hG, hl⟩ := S.ins (m := "reckon_family") (fun _ _ _ _ _ => rfl)
  refine gy_meth (Z := Zs dk df) (as := [.d (.int ((n0 + 1 : Nat) : Int)), .d (.tup [ti y])]) (post := fun _ G' => ∃ kn' fm', Sv X.prog X.w X.K R A dk df G' kn' fm' ∧ SS R (n0 + 2) kn' fm' ∧ Ex (n0 + 2) kn fm kn' fm' ∧ (dget fm' (famD (n0 + 1) y)).isSome = true) M hr ho hG hl (gac he (gac1 he1 hst2) hst1) (zok_ext S.zext) (fun vs H Q s r hq => ?_) (fun v H G1 G2 t q => ?_) hst1 hpl ht
  · obtain ⟨v1, r', ev, r1, v2, r'', ev2, r2, er⟩ := r
    subst ev; subst ev2; cases er
    have e1 : v1 = .int ((n0 + 1 : Nat) : Int) := r1
    subst e1
    exact ⟨A, dk, df, kn, fm, y, v2, rfl, S.mono s, ss, r2, hy, hn, hq⟩
  · obtain ⟨kn', fm', h1, h2⟩ := q
    exact ⟨kn', fm', h1.tra t, h2⟩
end
section
variable {P : Program} {w : World} {K : PySem.W.Frag} {mg : Str → Option Value} {base : Heap} {R : List Nat}
theorem sc_reckon : FnScope ["self", "row"] ["self", "row"] (defScope s_Solver_reckon) := ⟨rfl, rfl, rfl, by decide +kernel, rfl, by decide +kernel, by decide +kernel⟩
theorem c_reckon0 (T : Tx K mg) (ok : Ok24 R) (hR : R.length ≤ 60) {ρ : List Int → List Int → Prop} : Mtd P w K mg base (He.ga K "Solver") "reckon" ["self", "row"] 1 (spReckon P w K R ρ 0) := by
  refine mtd_make (N := ["self", "row"]) T.cls_Solver T.m_Solver_reckon T.f_Solver_reckon sc_reckon (fun _ _ _ _ _ _ us hl => match us, hl with | [_, _], _ => rfl) ?_ ?_
  · rintro vs H Q E ⟨a, dk, df, kn, fm, x, y, rowv, rfl, _⟩; rfl
  · rintro cdv A outer s H vs Q E C ⟨a, dk, df, kn, fm, x, y, rowv, rfl, S, ss, hrow, hx, hy, hn, hρ, h0, hq⟩
    refine (?_ : GS _ H ([.v (.ref a), .d (rowD x y)] ++ []) _ _) _ _ (fm_start (as := [.v (.ref a), .d (rowD x y)]) ⟨_, _, rfl, rfl, _, _, rfl, hrow, rfl⟩ (Nat.le_of_ble_eq_true rfl))
    rw [low_zero] at hx hy
    have ex : x = [] := hx
    have ey : y = [] := by rcases hy with h | h <;> exact h
    subst ex; subst ey
    refine gs_when (gt_of (gt_eq' C (ge_ixT (d := ti []) (ge_var (x := rowD [] []) 1) ge_int) (ge_tup (ds := []) ga_nil) (ti_sh []) (ti_sh [])) rfl) ?_
    have ec : exC (low R 0) [] [] = .tup [ti [0], belowD] := by rw [low_zero]; rfl
    refine gs_dset C (gy_of (ge_tup (ds := [ti [0], belowD]) (gac (ge_nothing T S (gv_var 0 rfl (fun q => by cases q))) (gac1 (ge_tup (ds := [.str "below"]) (gac1 ge_str)))))) fun vv G1 ⟨s1, r1⟩ => ⟨dk, kn, [ti [], ti []], .tup [ti [0], belowD], (S.mono s1).kn, r1, gv_known T (S.mono s1) (gv_var 0 rfl (fun q => by cases q)), ge_var (x := rowD [] []) 1, kn_small ok hR ss, row_dep [] [], fun G2 c2 hd2 => ?_⟩
    refine gs_end (gs_nil fun σ H2 F => ?_)
    have hx0 : Nd (low R 0) [] := by rw [low_zero]; rfl
    have hy0 : Ends2 (low R 0) [] := by rw [low_zero]; exact .inl rfl
    refine hq .non G2 H2 ((Core.of s1).trans (core_k c2)) F.ex ⟨_, fm, (S.mono s1).setK c2 hd2, ⟨?_, ss.ko.set (x := []) (y := []) hn hx0 hy0, ss.fo⟩, Ex.refl.setK h0 (by decide), ?_⟩
    · have := ss.good.setK ok (x := []) (y := []) hn hx0 hy0 (fun n' m e => absurd e (by omega))
      rw [ec] at this; exact this
    · rw [ec]
      show dget (dset kn (rowD [] []) _) (rowD [] []) = _
      rw [dget_dset, if_pos rfl]
/-- the promises that a level leans on -/
abbrev MBest (P : Program) (w : World) (K : PySem.W.Frag) (mg : Str → Option Value) (base : Heap) (R : List Nat) (ρ : List Int → List Int → Prop) (n k : Nat) : Prop := Mtd P w K mg base (He.ga K "Solver") "best" ["self", "row"] k (spRow P w K R ρ (fun rs x y => ti [exV rs x y]) n)
abbrev MFam (P : Program) (w : World) (K : PySem.W.Frag) (mg : Str → Option Value) (base : Heap) (R : List Nat) (n0 k : Nat) : Prop := Mtd P w K mg base (He.ga K "Solver") "reckon_family" ["self", "many", "wishes"] k (spFamily P w K R n0)
abbrev MTurns (P : Program) (w : World) (K : PySem.W.Frag) (mg : Str → Option Value) (base : Heap) (R : List Nat) (n0 k : Nat) : Prop := Mtd P w K mg base (He.ga K "Solver") "first_turns" ["self", "row"] k (spTurns P w K R n0)
abbrev anyR : List Int → List Int → Prop := fun _ _ => True
theorem fwd_in {m : Nat} {rs : List Nat} {p q : Int} (h0 : 0 ≤ p) (h1 : p ≤ (m : Int) - 1) (q0 : 0 ≤ q) (q1 : q ≤ (m : Int) - 1) (hne : q ≠ p) : gapD p (stepT p q) (Wy rs (min p (stepT p q)).toNat) ∈ gapsD rs m := by
  have st : (stepT p q = p + 1 ∨ stepT p q = p - 1) ∧ 0 ≤ stepT p q ∧ stepT p q ≤ (m : Int) - 1 := by
    unfold stepT
    split <;> omega
  exact gapsAt_mem ((gapsAt_iff h0 h1).mpr ⟨stepT p q, st.1, st.2.1, st.2.2, rfl⟩)
theorem wy_ends (rs : List Nat) (j : Nat) : Ends2 rs (Wy rs j) := by
  unfold Wy
  split
  · exact .inr rfl
  · exact .inl rfl
theorem c_reckonS (T : Tx K mg) (ok : Ok24 R) (hR : R.length ≤ 60) {ρ : List Int → List Int → Prop} {n0 k : Nat} (hk : 2 ≤ k) (hn0 : n0 < R.length) (Mb : MBest P w K mg base R anyR n0 k) (Mf : (∃ u p v q, ρ (u ++ [p]) (v ++ [q]) ∧ p ≠ q) → MFam P w K mg base R n0 k ∧ MTurns P w K mg base R n0 k) : Mtd P w K mg base (He.ga K "Solver") "reckon" ["self", "row"] (k + 1) (spReckon P w K R ρ (n0 + 1)) := by
  refine mtd_make (N := ["self", "row"]) T.cls_Solver T.m_Solver_reckon T.f_Solver_reckon sc_reckon (fun _ _ _ _ _ _ us hl => match us, hl with | [_, _], _ => rfl) ?_ ?_
  · rintro vs H Q E ⟨a, dk, df, kn, fm, x, y, rowv, rfl, _⟩; rfl
  · rintro cdv A outer s H vs Q E C ⟨a, dk, df, kn, fm, x, y, rowv, rfl, S, ss, hrow, hx, hy, hn, hρ, h0, hq⟩
    refine (?_ : GS _ H ([.v (.ref a), .d (rowD x y)] ++ []) _ _) _ _ (fm_start (as := [.v (.ref a), .d (rowD x y)]) ⟨_, _, rfl, rfl, _, _, rfl, hrow, rfl⟩ (Nat.le_of_ble_eq_true rfl))
    obtain ⟨m, hlow, _, _⟩ := low_succ hn0
    have okm : Ok24 (m :: low R n0) := hlow ▸ ok.low (n0 + 1)
    have hxm : Nd (m :: low R n0) x := hlow ▸ hx
    have hym : Ends2 (m :: low R n0) y := hlow ▸ hy
    obtain ⟨u, p, ex, hu, p0, p1⟩ := hxm
    obtain ⟨v, q, ey, hv, q0, q1⟩ := hym.nd okm
    subst ex; subst ey
    have hxl : (u ++ [p]).length = n0 + 1 := hx.len ok hn
    have hul : u.length = n0 := by simpa using hxl
    refine gs_else (gt_of (k := false) (gt_eq' C (ge_ixT (d := ti (u ++ [p])) (ge_var (x := rowD (u ++ [p]) (v ++ [q])) 1) ge_int) (ge_tup (ds := []) ga_nil) (ti_sh _) (ti_sh [])) ?_) ?_
    · show D.eqv (ti (u ++ [p])) (ti []) = false
      rw [ti_eqv]; exact decide_eq_false (by simp)
    by_cases hpq : q = p
    · subst hpq
      refine gs_when (gt_of (gt_val (ge_call (c_is_still T) (C.hr.mono hk) (gac1 (ge_var (x := rowD (u ++ [q]) (v ++ [q])) 1)) ⟨u, v, q, q, rfl, rfl⟩)) (decide_eq_true rfl)) ?_
      refine gs_dset C (gy_tup2 (Φ := fun v2 G2 => Core (Zs dk df) H G2 ∧ PostR P w K R a dk df n0 kn fm u v G2 ∧ Rp K G2 (.tup [ti [exV (low R n0) u v], belowD]) v2) (gy_row Mb C.hr (gv_var 0 rfl (fun q => by cases q)) S (ss.down (by omega)) (ge_call (c_lower T) (C.hr.mono (by omega)) (gac1 (ge_var (x := rowD (u ++ [q]) (v ++ [q])) 1)) ⟨[(u, q), (v, q)], rfl, Nat.le_of_ble_eq_true rfl, rfl⟩) (hu.nd okm.tl) hv (by omega) trivial) fun v1 G1 ⟨c1, hp, r1⟩ => ⟨_, belowD, r1, ge_tup (ds := [.str "below"]) (gac1 ge_str), fun G2 v2 s2 r2 => ⟨c1.then s2, hp.mono s2, r2⟩⟩) fun v2 G1 ⟨c1, ⟨kn1, fm1, S1, ss1, ex1, hg1⟩, r1⟩ => ⟨dk, kn1, [ti (u ++ [q]), ti (v ++ [q])], _, S1.kn, r1, gv_known T S1 (gv_var 0 rfl (fun q => by cases q)), ge_var (x := rowD (u ++ [q]) (v ++ [q])) 1, kn_small ok hR ss1, row_dep _ _, fun G2 c2 hd2 => ?_⟩
      refine gs_end (gs_end (gs_nil fun σ H2 F => ?_))
      have ec : exC (low R (n0 + 1)) (u ++ [q]) (v ++ [q]) = .tup [ti [exV (low R n0) u v], belowD] := by rw [hlow]; exact exC_still _ _ _ _ _
      have h01 : dget kn1 (rowD (u ++ [q]) (v ++ [q])) = none := by rw [ex1.k2 _ _ (by rw [hxl]; exact Nat.le_refl _)]; exact h0
      refine hq .non G2 H2 (c1.trans (core_k c2)) F.ex ⟨_, fm1, S1.setK c2 hd2, ⟨?_, ss1.ko.set hn hx hy, ss1.fo⟩, (ex1.up (by omega)).setK h01 (by rw [hxl]; omega), ?_⟩
      · have := (Good.lift ok ss.good ss1.good ex1).setK ok hn hx hy (fun n' m' _ _ _ u' p' v' q' e1 e2 hne => by
          have a1 := (List.append_inj' e1 rfl).2
          have a2 := (List.append_inj' e2 rfl).2
          injection a1 with a1
          injection a2 with a2
          exact absurd (a1.symm.trans a2) hne)
        rw [ec] at this; exact this
      · rw [ec]
        show dget (dset kn1 (rowD (u ++ [q]) (v ++ [q])) _) (rowD (u ++ [q]) (v ++ [q])) = _
        rw [dget_dset, if_pos rfl]
    · have hne : p ≠ q := fun z => hpq z.symm
      obtain ⟨Mfa, Mtu⟩ := Mf ⟨u, p, v, q, hρ, hne⟩
      have hyl : (v ++ [q]).length = n0 + 1 := hy.len ok hn
      refine gs_else (gt_of (k := false) (gt_val (ge_call (c_is_still T) (C.hr.mono hk) (gac1 (ge_var (x := rowD (u ++ [p]) (v ++ [q])) 1)) ⟨u, v, p, q, rfl, rfl⟩)) (decide_eq_false hpq)) ?_
      refine gs_exprY (gy_family Mfa C.hr (gv_var 0 rfl (fun q => by cases q)) S ss (ge_of (ge_lenT (ds := (u ++ [p]).map D.int) (ge_ixT (d := ti (u ++ [p])) (ge_var (x := rowD (u ++ [p]) (v ++ [q])) 1) ge_int) T.z_len) (by rw [List.length_map, hxl])) (ge_slT (ds := [ti (u ++ [p]), ti (v ++ [q])]) (l := some 1) (u := none) (ge_var (x := rowD (u ++ [p]) (v ++ [q])) 1) (gp_some ge_int) gp_none) hn0 hy) fun _ G1 ⟨c1, kn1, fm1, S1, ss1, ex1, hfl⟩ => ?_
      have ec : exC (low R (n0 + 1)) (u ++ [p]) (v ++ [q]) = cellD (some (exV (m :: low R n0) (u ++ [p]) (v ++ [q])), gapT (low R n0) p (stepT p q)) := by
        rw [hlow]; unfold exC; rw [told_snoc, if_neg hne]; rfl
      cases hc : dget kn1 (rowD (u ++ [p]) (v ++ [q])) with
      | some c =>
        refine gs_unless (gt_of (gt_dnin C (ge_var (x := rowD (u ++ [p]) (v ++ [q])) 1) (gv_known T S1 (gv_var 0 rfl (fun q => by cases q))) S1.kn (row_dep _ _)) (by rw [show D.tup [ti (u ++ [p]), ti (v ++ [q])] = rowD (u ++ [p]) (v ++ [q]) from rfl, hc]; rfl)) ?_
        refine gs_end (gs_end (gs_nil fun σ H2 F => ?_))
        have hcx := ss1.good.ex (n0 + 1) (Nat.lt_succ_self _) hn _ _ c hx hy hc
        exact hq .non G1 H2 c1 F.ex ⟨kn1, fm1, S1, ss1, ex1, by rw [hc, hcx]⟩
      | none =>
        refine gs_when (gt_of (gt_dnin C (ge_var (x := rowD (u ++ [p]) (v ++ [q])) 1) (gv_known T S1 (gv_var 0 rfl (fun q => by cases q))) S1.kn (row_dep _ _)) (by rw [show D.tup [ti (u ++ [p]), ti (v ++ [q])] = rowD (u ++ [p]) (v ++ [q]) from rfl, hc]; rfl)) ?_
        refine gs_dset C (gy_of (ge_tup (ds := [.non, belowD]) (gac ge_non (gac1 (ge_tup (ds := [.str "below"]) (gac1 ge_str)))))) fun vv G2 ⟨s2, r2⟩ => ⟨dk, kn1, [ti (u ++ [p]), ti (v ++ [q])], noneC, (S1.mono s2).kn, r2, gv_known T (S1.mono s2) (gv_var 0 rfl (fun q => by cases q)), ge_var (x := rowD (u ++ [p]) (v ++ [q])) 1, kn_small ok hR ss1, row_dep _ _, fun G3 c3 hd3 => ?_⟩
        have S3 : Sv P w K R a dk df G3 (dset kn1 (rowD (u ++ [p]) (v ++ [q])) noneC) fm1 := (S1.mono s2).setK c3 hd3
        have ss3 : SS R (n0 + 1) (dset kn1 (rowD (u ++ [p]) (v ++ [q])) noneC) fm1 := ⟨(ss1.good.down (by omega)).high ok (Nat.le_refl _) hxl, ss1.ko.set hn hx hy, ss1.fo⟩
        have hts : ∀ t ∈ turnsOf (low R n0) m u p, t.x ≠ u ++ [p] ∧ ∃ tl, dget kn1 (rowD t.x (v ++ [q])) = some (cellD (some (exV (m :: low R n0) t.x (v ++ [q])), tl)) := by
          intro t ht
          obtain ⟨d, hd, rfl⟩ := List.mem_map.mp ht
          obtain ⟨tt, h1, h2, h3, e⟩ := (gapsAt_iff p0 p1).mp hd
          have ex : (gapTn (low R n0) u d).x = Wy (low R n0) (min p tt).toNat ++ [tt] := by
            show gW d ++ [gT d] = _
            rw [e, gW_gap, gT_gap]
          have hgap := gapsAt_mem hd
          rw [e] at hgap
          have hsome := ss1.good.fam n0 m (by omega) hn0 hlow (v ++ [q]) hy hfl _ _ _ hgap
          obtain ⟨c, hcc⟩ := Option.isSome_iff_exists.mp hsome
          have hnd : Nd (low R (n0 + 1)) (Wy (low R n0) (min p tt).toNat ++ [tt]) := by rw [hlow]; exact ⟨_, _, rfl, wy_ends _ _, h2, h3⟩
          have hce := ss1.good.ex (n0 + 1) (Nat.lt_succ_self _) hn _ _ c hnd hy hcc
          rw [ex]
          refine ⟨fun z => ?_, toldD (m :: low R n0) (Wy (low R n0) (min p tt).toNat ++ [tt]) (v ++ [q]), by rw [hcc, hce, hlow]; rfl⟩
          have := (List.append_inj' z rfl).2
          injection this with this
          omega
        have hkey : ∀ t ∈ turnsOf (low R n0) m u p, (rowD t.x (v ++ [q])).key ≠ (rowD (u ++ [p]) (v ++ [q])).key := fun t ht z => (hts t ht).1 (row_key.mp z).1
        have htl : (turnsOf (low R n0) m u p).length ≤ 1000 := by
          unfold turnsOf
          rw [List.length_map]
          have h1 : (gapsAt (low R n0) m p).length ≤ (gapsD (low R n0) m).length := List.length_filter_le _ _
          rw [gapsD_len] at h1
          have := okm.hd
          omega
        have hless : lessF (fun x => some (exV (m :: low R n0) x (v ++ [q]))) ((none, belowD), false) (turnsOf (low R n0) m u p) = ((some (exV (m :: low R n0) (u ++ [p]) (v ++ [q])), gapT (low R n0) p (stepT p q)), true) := by
          obtain ⟨t1, t2, t3⟩ := turns_ok okm (u := u) (v := v) (p := p) (q := q) (by rw [← hlow]; exact hx.wd (ok.low _)) (by rw [← hlow]; exact hy.wd (ok.low _)) hpq (wo := fun x => some (exV (m :: low R n0) x (v ++ [q]))) (fun x c h => (Option.some.inj h).symm) rfl
          exact lessF_fwd (isF := fun t => t.x = fwdW (low R n0) p q) (.inl rfl) t1 t2 t3
        refine gs_exprY (gy_methS 1 (d := rowD (u ++ [p]) (v ++ [q])) (Z := Zs dk df) (post := fun _ _ _ G5 => ∃ kn4 fm4 kn5, SS R (n0 + 1) kn4 fm4 ∧ Ex (n0 + 1) (dset kn1 (rowD (u ++ [p]) (v ++ [q])) noneC) fm1 kn4 fm4 ∧ Sv P w K R a dk df G5 kn5 fm4 ∧ LessPost kn4 kn5 (u ++ [p]) (v ++ [q]) ((some (exV (m :: low R n0) (u ++ [p]) (v ++ [q])), gapT (low R n0) p (stepT p q)), true)) (c_lessen T R) (C.hr.mono (by omega)) (gv_var 0 rfl (fun q => by cases q)) (S3.ins fun _ _ _ _ _ => rfl) (gy_turns Mtu C.hr (gv_var 0 rfl (fun q => by cases q)) S3 ss3 (ge_var (x := rowD (u ++ [p]) (v ++ [q])) 1) hlow hn0 hx hy hpq) ?_ ?_ ?_) ?_
        · rintro v2 G4 ⟨c4, kn4, fm4, l, tv, S4, _⟩
          exact zok_ext S4.zext
        · rintro v1 v2 G4 H4 Q4 ⟨c4, kn4, fm4, l, tv, S4, ss4, ex4, rfl, hl0, hl4, hr4⟩ s4 r4 hq4
          refine ⟨a, dk, df, kn4, fm4, u ++ [p], v ++ [q], turnsOf (low R n0) m u p, (none, belowD), fun x => some (exV (m :: low R n0) x (v ++ [q])), v1, l, tv, rfl, S4.mono s4, r4, SqL.of (s4 _ _ hl4), hr4.mono (Same.tup s4), htl, kn_small ok hR ss4, ?_, fun t ht => ⟨(hts t ht).1, ?_⟩, ?_⟩
          · exact ex4.k1 _ _ (by rw [dget_dset, if_pos rfl]; rfl)
          · obtain ⟨tl, h1⟩ := (hts t ht).2
            exact ⟨tl, ex4.k1 _ _ (by rw [dget_dset, if_neg fun z => hkey t ht z.symm]; exact h1)⟩
          · rintro r G5 H5 c5 s5 ⟨kn5, S5, LP, _⟩
            rw [hless] at LP
            exact hq4 r G5 H5 c5 s5 ⟨kn4, fm4, kn5, ss4, ex4, S5, LP⟩
        · rintro v2 G4 r H4 G5 G6 t ⟨kn4, fm4, kn5, h1, h2, h3, h4⟩
          exact ⟨kn4, fm4, kn5, h1, h2, h3.tra t, h4⟩
        · rintro r G6 ⟨v2, G4, ⟨c4, _⟩, c6, kn4, fm4, kn5, ss4, ex4, S5, LP⟩
          refine gs_end (gs_end (gs_end (gs_nil fun σ H2 F => ?_)))
          have hat : dget kn5 (rowD (u ++ [p]) (v ++ [q])) = some (exC (low R (n0 + 1)) (u ++ [p]) (v ++ [q])) := by rw [LP.at_, ec]
          have exS : Ex (n0 + 1) (dset kn1 (rowD (u ++ [p]) (v ++ [q])) (exC (low R (n0 + 1)) (u ++ [p]) (v ++ [q]))) fm1 kn5 fm4 := by
            refine ⟨fun qq c hh => ?_, fun x' y' hl => ?_, ex4.f1, ex4.f2⟩
            · rw [dget_dset] at hh
              by_cases hk' : (rowD (u ++ [p]) (v ++ [q])).key = qq.key
              · rw [if_pos hk'] at hh
                rw [← dget_key hk', hat]; exact hh
              · rw [if_neg hk'] at hh
                rw [LP.oth qq fun z => hk' z.symm]
                exact ex4.k1 _ _ (by rw [dget_dset, if_neg hk']; exact hh)
            · rw [dget_dset]
              by_cases hk' : (rowD (u ++ [p]) (v ++ [q])).key = (rowD x' y').key
              · rw [if_pos hk', ← dget_key hk', hat]
              · rw [if_neg hk', LP.oth _ fun z => hk' z.symm, ex4.k2 x' y' hl, dget_dset, if_neg hk']
          have g5 : Good R (n0 + 1) kn5 fm4 := ss4.good.but ok (Nat.le_refl _) hxl LP.oth
          have gS : Good R (n0 + 2) (dset kn1 (rowD (u ++ [p]) (v ++ [q])) (exC (low R (n0 + 1)) (u ++ [p]) (v ++ [q]))) fm1 := ss1.good.setK ok hn hx hy fun _ _ _ _ _ _ _ _ _ _ _ _ => hfl
          refine hq .non G6 H2 (((c1.then s2).trans (core_k c3)).trans (c4.trans c6)) F.ex ⟨kn5, fm4, S5, ⟨Good.lift ok gS g5 exS, ss4.ko.same LP.keys, ss4.fo⟩, ?_, hat⟩
          exact ex1.trans ((Ex.refl.setK hc (by rw [hxl]; omega)).trans (exS.up (by omega)))
end
end WB
namespace WB
open PySem PySem.Spec PyProof.Rows L2
section
variable {P : Program} {w : World} {K : PySem.W.Frag} {mg : Str → Option Value} {base : Heap} {R : List Nat}
theorem cost_dep (k h t : Int) : (costK k h t).key.depth ≤ 8 := by
  show (NestedKey.tup [.num k, .num h, .num t]).depth ≤ 8
  simp [NestedKey.depth, NestedKey.depthAll]
theorem gapsAt_len {rs : List Nat} {m : Nat} (ok : Ok24 (m :: rs)) (p : Int) : (gapsAt rs m p).length ≤ 6 := by
  have h1 : (gapsAt rs m p).length ≤ (gapsD rs m).length := List.length_filter_le _ _
  rw [gapsD_len] at h1
  have := ok.hd
  omega
theorem splitsD_get {rs : List Nat} {m : Nat} {u : List Int} {p : Int} {y : List Int} {i : Nat} {d : D} (h : (splitsD rs m u p y)[i]? = some d) : ∃ g, (gapsAt rs m p)[i]? = some g ∧ d = splD u y g := by
  unfold splitsD at h
  rw [← map_flat] at h
  rw [List.getElem?_map] at h
  obtain ⟨g, h1, h2⟩ := Option.map_eq_some_iff.mp h
  exact ⟨g, h1, h2.symm⟩
theorem splitsD_len (rs : List Nat) (m : Nat) (u : List Int) (p : Int) (y : List Int) : (splitsD rs m u p y).length = (gapsAt rs m p).length := by
  unfold splitsD
  rw [← map_flat, List.length_map]
theorem sc_first_turns : FnScope ["self", "row", "k", "found", "lead", "gap", "rest", "price", "told"] ["self", "row"] (defScope s_Solver_first_turns) := ⟨rfl, rfl, rfl, by decide +kernel, rfl, by decide +kernel, by decide +kernel⟩
theorem c_turns (T : Tx K mg) (ok : Ok24 R) (hR : R.length ≤ 60) {n0 k : Nat} (hk : 3 ≤ k) (Mb : MBest P w K mg base R anyR n0 k) : MTurns P w K mg base R n0 (k + 1) := by
  refine mtd_make (N := ["self", "row", "k", "found", "lead", "gap", "rest", "price", "told"]) T.cls_Solver T.m_Solver_first_turns T.f_Solver_first_turns sc_first_turns (fun _ _ _ _ _ _ us hl => match us, hl with | [_, _], _ => rfl) ?_ ?_
  · rintro vs H Q E ⟨a, dk, df, kn, fm, m, u, v, p, q, rowv, rfl, _⟩; rfl
  · rintro cdv A outer s H vs Q E C ⟨a, dk, df, kn, fm, m, u, v, p, q, rowv, rfl, S, ss, hrow, hlow, hn0, hx, hy, hne, hq⟩
    refine (?_ : GS _ H ([.v (.ref a), .d (rowD (u ++ [p]) (v ++ [q]))] ++ [.no, .no, .no, .no, .no, .no, .no]) _ _) _ _ (fm_start (as := [.v (.ref a), .d (rowD (u ++ [p]) (v ++ [q]))]) ⟨_, _, rfl, rfl, _, _, rfl, hrow, rfl⟩ (Nat.le_of_ble_eq_true rfl))
    have okm : Ok24 (m :: low R n0) := hlow ▸ ok.low (n0 + 1)
    have hxl : (u ++ [p]).length = n0 + 1 := hx.len ok hn0
    have hul : u.length = n0 := by simpa using hxl
    have hll : (low R n0).length = n0 := low_len (by omega)
    obtain ⟨u', p', eu, hu, p0, p1⟩ : Nd (m :: low R n0) (u ++ [p]) := hlow ▸ hx
    obtain ⟨rfl, ep⟩ := List.append_inj' eu rfl
    have ep : p = p' := by injection ep
    subst ep
    have hR2 : R = R.take (R.length - 1 - n0) ++ m :: low R n0 := by
      obtain ⟨m', e1, e2, _⟩ := low_succ hn0
      rw [hlow] at e1
      injection e1 with e1
      rw [e1]; exact e2
    have hgl := gapsAt_len okm p
    refine gs_parL C 2 3 (x := .int (n0 : Nat)) (ge_of (ge_sub (ge_lenT (ds := (u ++ [p]).map D.int) (ge_ixT (d := ti (u ++ [p])) (ge_var (x := rowD (u ++ [p]) (v ++ [q])) 1) ge_int) T.z_len) ge_int) ?_) (gl_lst (ds := []) ga_nil) ?_
    · rw [List.length_map, hxl]
      congr 1
      omega
    refine gs_forX (els := splitsD (low R n0) m u p (v ++ [q])) C (js := [4, 5, 6]) (fun d Γ => match d with | .tup [a, b, c] => ((Γ.set 4 (.d a)).set 5 (.d b)).set 6 (.d c) | _ => Γ) (Zs dk df)
      (fun _ i G' Γ' => ∃ kn' fm', Sv P w K R a dk df G' kn' fm' ∧ SS R (n0 + 1) kn' fm' ∧ Ex (n0 + 1) kn fm kn' fm' ∧ Γ' = [.v (.ref a), .d (rowD (u ++ [p]) (v ++ [q])), .d (.int (n0 : Nat)), .own ((((gapsAt (low R n0) m p).take i).map (gapTn (low R n0) u)).map (tnD (v ++ [q]))), .no, .no, .no, .no, .no])
      (gi_new (gl_call (c_splits T) (C.hr.mono hk) (gac (ge_lockF T S (gv_var 0 rfl (fun q => by cases q))) (gac1 (ge_var (x := rowD (u ++ [p]) (v ++ [q])) 1))) ⟨R.take (R.length - 1 - n0), low R n0, m, u, v, p, q, by rw [← hR2], okm, by rw [hul, hll], by omega, hne, rfl⟩)) ?_ (zok_ext S.zext) ?_ ?_ ?_
    · intro i d hd
      obtain ⟨g, hg, rfl⟩ := splitsD_get hd
      obtain ⟨h', t', w', rfl, _⟩ := gapsD_mem okm (gapsAt_mem (List.mem_of_getElem? hg))
      rw [splD_gap]
      exact tg_tup C (tgs_cons (tg_name C 4) (tgs_cons (tg_name C 5) (tgs_cons (tg_name C 6) tgs_nil)))
    · intro Hc G c1 c2 c3 _
      exact ⟨kn, fm, S.mono c2, ss, Ex.refl, rfl⟩
    · intro Hc core cz i d hd G Γ' cg ⟨kn', fm', S', ss', ex', eΓ⟩
      subst eΓ
      obtain ⟨g, hg, rfl⟩ := splitsD_get hd
      have hgm := List.mem_of_getElem? hg
      obtain ⟨t, h1, h2, h3, eg⟩ := (gapsAt_iff p0 p1).mp hgm
      have hgD := gapsAt_mem hgm
      subst eg
      generalize hw' : Wy (low R n0) (min p t).toNat = w' at hgm hgD hg
      have hwe : Ends2 (low R n0) w' := by rw [← hw']; exact wy_ends _ _
      rw [splD_gap]
      -- the price ahead
      refine gs_setY C 7 (gy_row Mb C.hr (gv_var 0 rfl (fun q => by cases q)) S' ss' (x := u) (y := w') (ge_var (x := .tup [ti u, ti w']) 4) (hu.nd okm.tl) hwe (by omega) trivial) fun r G1 ⟨c1, ⟨kn1, fm1, S1, ss1, ex1, _⟩, r1⟩ => ⟨.d (ti [exV (low R n0) u w']), r1, ?_⟩
      refine gs_when (gt_of (gt_notN (ge_var (x := ti [exV (low R n0) u w']) 7)) rfl) ?_
      refine gs_set C 8 (ge_tup (ds := [.str "gap", gapD p t w', ti w', .int 1]) (gac ge_str (gac (ge_var (x := gapD p t w') 5) (gac (ge_ixT (ds := [ti u, ti w']) (i := -1) (d := ti w') (ge_var (x := .tup [ti u, ti w']) 4) (ge_neg ge_int)) (gac1 (ge_sub (i := 2) (j := 1) (ge_lenT (ds := [ti u, ti w']) (ge_var (x := .tup [ti u, ti w']) 4) T.z_len) ge_int)))))) ?_
      obtain ⟨dx, lv, dc, nv, cm, g1, g2, g3, g4, g5, g6, g7⟩ := S1.ex
      have hcost : dget cm (costK (n0 : Nat) p t) = some (ti [1]) := by
        have := g4 _ _ _ hR2 p t w' hgD
        rwa [hll] at this
      have eTn : tnD (v ++ [q]) (gapTn (low R n0) u (gapD p t w')) = .tup [ti [exV (low R n0) u w' + 1], rowD (w' ++ [t]) (v ++ [q]), .tup [.str "gap", gapD p t w', ti w', .int 1]] := by
        unfold tnD gapTn
        simp only [gW_gap, gT_gap]
        rfl
      refine gs_append 3 (xs := (((gapsAt (low R n0) m p).take i).map (gapTn (low R n0) u)).map (tnD (v ++ [q]))) (d := tnD (v ++ [q]) (gapTn (low R n0) u (gapD p t w'))) (by
        rw [eTn]
        exact ge_tup (ds := [ti [exV (low R n0) u w' + 1], rowD (w' ++ [t]) (v ++ [q]), .tup [.str "gap", gapD p t w', ti w', .int 1]]) (gac (ge_call (c_added T) (C.hr.mono (by omega)) (gac (ge_var (x := ti [exV (low R n0) u w']) 7) (gac1 (ge_dget C (gv_fld (gv_var (p := .v (.ref a)) 0 rfl (fun q => by cases q)) g1 T.cls_Solver T.n_Solver_costs rfl) (ge_tup (ds := [.int (n0 : Nat), .int p, .int t]) (gac (ge_var (x := .int (n0 : Nat)) 2) (gac (ge_ixT (d := .int p) (ge_var (x := gapD p t w') 5) ge_int) (gac1 (ge_ixT (d := .int t) (ge_var (x := gapD p t w') 5) ge_int))))) g3 hcost (cost_dep _ _ _)))) ⟨_, _, rfl, rfl⟩) (gac (ge_var (x := rowD (w' ++ [t]) (v ++ [q])) 6) (gac1 (ge_var 8))))) ?_ (by rw [List.length_map, List.length_map, List.length_take]; omega)
      refine gs_end (gs_nil fun σ H2 F => ?_)
      have etk : ((((gapsAt (low R n0) m p).take (i + 1)).map (gapTn (low R n0) u)).map (tnD (v ++ [q]))) = ((((gapsAt (low R n0) m p).take i).map (gapTn (low R n0) u)).map (tnD (v ++ [q]))) ++ [tnD (v ++ [q]) (gapTn (low R n0) u (gapD p t w'))] := by
        rw [List.take_add_one, hg, List.map_append, List.map_append]; rfl
      refine ⟨G1, _, fun x o e => c1 x o (cg x o e) fun z => ?_, ⟨kn1, fm1, S1, ss1, ex'.trans ex1, rfl⟩, ?_⟩
      · have := cz x z
        rw [e] at this; cases this
      · rw [etk]
        exact F.weak ⟨.inr rfl, .inr rfl, .inr rfl, .inr rfl, .inl rfl, .inl rfl, .inl rfl, .inl rfl, .inl rfl, trivial⟩
    · intro Hc core cz G Γ' cg ⟨kn', fm', S', ss', ex', eΓ⟩
      subst eΓ
      rw [splitsD_len, List.take_length]
      have cG : Core (Zs dk df) H G := core.then cg
      refine gs_retOS 3 (xs := ((gapsAt (low R n0) m p).map (gapTn (low R n0) u)).map (tnD (v ++ [q]))) fun l vs G1 H2 hl0 s1 hl1 hr1 s2 => ?_
      have hl : H l = none := by
        cases hh : H l with
        | none => rfl
        | some o =>
          have nz : ¬ Zs dk df l := fun z => by
            obtain ⟨⟨φ, e⟩, _⟩ := S'.zext l z
            rw [hl0] at e; cases e
          have := cG l o hh nz
          rw [hl0] at this; cases this
      exact hq _ G1 H2 (cG.then s1) s2 ⟨kn', fm', l, vs, S'.mono s1, ss', ex', rfl, hl, hl1, hr1⟩
end
end WB
namespace WB
open PySem PySem.Spec PyProof.Rows L2
/-! ### still rows of a level under way -/
/-- the tables but for one row of level N -/
structure ExB (N : Nat) (x y : List Int) (kn fm kn' fm' : List (D × D)) : Prop where
  k1 : ∀ q c, dget kn q = some c → dget kn' q = some c
  k2 : ∀ x' y', N ≤ x'.length → (rowD x' y').key ≠ (rowD x y).key → dget kn' (rowD x' y') = dget kn (rowD x' y')
  f1 : ∀ q, (dget fm q).isSome = true → (dget fm' q).isSome = true
  f2 : ∀ n y, N ≤ n → dget fm' (famD n y) = dget fm (famD n y)
def PostS (P : Program) (w : World) (K : PySem.W.Frag) (R : List Nat) (a dk df : Addr) (n0 : Nat) (kn fm : List (D × D)) (x y : List Int) (G1 : Hp) : Prop := ∃ kn' fm', Sv P w K R a dk df G1 kn' fm' ∧ SS R (n0 + 1) kn' fm' ∧ ExB (n0 + 1) x y kn fm kn' fm' ∧ dget kn' (rowD x y) = some (exC (low R (n0 + 1)) x y)
def spStill (P : Program) (w : World) (K : PySem.W.Frag) (R : List Nat) (n0 : Nat) (fresh : Bool) : Sp := fun vs H Q _ => ∃ (a dk df : Addr) (kn fm : List (D × D)) (u v : List Int) (q : Int) (rowv : V), vs = [.ref a, rowv] ∧ Sv P w K R a dk df H kn fm ∧ SS R (n0 + 1) kn fm ∧ Rp K H (rowD (u ++ [q]) (v ++ [q])) rowv ∧ Nd (low R (n0 + 1)) (u ++ [q]) ∧ Ends2 (low R (n0 + 1)) (v ++ [q]) ∧ n0 < R.length ∧
  (dget kn (rowD (u ++ [q]) (v ++ [q])) = none ∨ (fresh = false ∧ dget kn (rowD (u ++ [q]) (v ++ [q])) = some (exC (low R (n0 + 1)) (u ++ [q]) (v ++ [q])))) ∧
  ∀ r G1 H', Core (Zs dk df) H G1 → Same G1 H' → PostS P w K R a dk df n0 kn fm (u ++ [q]) (v ++ [q]) G1 → Q r H'
section
variable {P : Program} {w : World} {K : PySem.W.Frag} {mg : Str → Option Value} {base : Heap} {R : List Nat}
theorem PostS.mono {a dk df : Addr} {n : Nat} {kn fm : List (D × D)} {x y : List Int} {G1 G2 : Hp} (s : Same G1 G2) (h : PostS P w K R a dk df n kn fm x y G1) : PostS P w K R a dk df n kn fm x y G2 := by
  obtain ⟨kn', fm', h1, h2⟩ := h
  exact ⟨kn', fm', h1.mono s, h2⟩
theorem c_reckonStill (T : Tx K mg) (ok : Ok24 R) (hR : R.length ≤ 60) {n0 k : Nat} (hk : 2 ≤ k) (Mb : MBest P w K mg base R anyR n0 k) : Mtd P w K mg base (He.ga K "Solver") "reckon" ["self", "row"] (k + 1) (spStill P w K R n0 true) := by
  refine mtd_make (N := ["self", "row"]) T.cls_Solver T.m_Solver_reckon T.f_Solver_reckon sc_reckon (fun _ _ _ _ _ _ us hl => match us, hl with | [_, _], _ => rfl) ?_ ?_
  · rintro vs H Q E ⟨a, dk, df, kn, fm, u, v, q, rowv, rfl, _⟩; rfl
  · rintro cdv A outer s H vs Q E C ⟨a, dk, df, kn, fm, u, v, q, rowv, rfl, S, ss, hrow, hx, hy, hn0, h0', hq⟩
    have h0 : dget kn (rowD (u ++ [q]) (v ++ [q])) = none := by
      rcases h0' with h | ⟨h, _⟩
      · exact h
      · cases h
    refine (?_ : GS _ H ([.v (.ref a), .d (rowD (u ++ [q]) (v ++ [q]))] ++ []) _ _) _ _ (fm_start (as := [.v (.ref a), .d (rowD (u ++ [q]) (v ++ [q]))]) ⟨_, _, rfl, rfl, _, _, rfl, hrow, rfl⟩ (Nat.le_of_ble_eq_true rfl))
    obtain ⟨m, hlow, _, _⟩ := low_succ hn0
    have okm : Ok24 (m :: low R n0) := hlow ▸ ok.low (n0 + 1)
    obtain ⟨u', p', eu, hu, p0, p1⟩ : Nd (m :: low R n0) (u ++ [q]) := hlow ▸ hx
    obtain ⟨rfl, ep⟩ := List.append_inj' eu rfl
    have hym : Ends2 (m :: low R n0) (v ++ [q]) := hlow ▸ hy
    obtain ⟨v', q', ev, hv, q0, q1⟩ := hym.nd okm
    obtain ⟨rfl, eq⟩ := List.append_inj' ev rfl
    have hxl : (u ++ [q]).length = n0 + 1 := hx.len ok hn0
    refine gs_else (gt_of (k := false) (gt_eq' C (ge_ixT (d := ti (u ++ [q])) (ge_var (x := rowD (u ++ [q]) (v ++ [q])) 1) ge_int) (ge_tup (ds := []) ga_nil) (ti_sh _) (ti_sh [])) ?_) ?_
    · show D.eqv (ti (u ++ [q])) (ti []) = false
      rw [ti_eqv]; exact decide_eq_false (by simp)
    refine gs_when (gt_of (gt_val (ge_call (c_is_still T) (C.hr.mono hk) (gac1 (ge_var (x := rowD (u ++ [q]) (v ++ [q])) 1)) ⟨u, v, q, q, rfl, rfl⟩)) (decide_eq_true rfl)) ?_
    refine gs_dset C (gy_tup2 (Φ := fun v2 G2 => Core (Zs dk df) H G2 ∧ PostR P w K R a dk df n0 kn fm u v G2 ∧ Rp K G2 (.tup [ti [exV (low R n0) u v], belowD]) v2) (gy_row Mb C.hr (gv_var 0 rfl (fun q => by cases q)) S ss (ge_call (c_lower T) (C.hr.mono (by omega)) (gac1 (ge_var (x := rowD (u ++ [q]) (v ++ [q])) 1)) ⟨[(u, q), (v, q)], rfl, Nat.le_of_ble_eq_true rfl, rfl⟩) (hu.nd okm.tl) hv (by omega) trivial) fun v1 G1 ⟨c1, hp, r1⟩ => ⟨_, belowD, r1, ge_tup (ds := [.str "below"]) (gac1 ge_str), fun G2 v2 s2 r2 => ⟨c1.then s2, hp.mono s2, r2⟩⟩) fun v2 G1 ⟨c1, ⟨kn1, fm1, S1, ss1, ex1, hg1⟩, r1⟩ => ⟨dk, kn1, [ti (u ++ [q]), ti (v ++ [q])], _, S1.kn, r1, gv_known T S1 (gv_var 0 rfl (fun q => by cases q)), ge_var (x := rowD (u ++ [q]) (v ++ [q])) 1, kn_small ok hR ss1, row_dep _ _, fun G2 c2 hd2 => ?_⟩
    refine gs_end (gs_end (gs_nil fun σ H2 F => ?_))
    have ec : exC (low R (n0 + 1)) (u ++ [q]) (v ++ [q]) = .tup [ti [exV (low R n0) u v], belowD] := by rw [hlow]; exact exC_still _ _ _ _ _
    refine hq .non G2 H2 (c1.trans (core_k c2)) F.ex ⟨_, fm1, S1.setK c2 hd2, ⟨ss1.good.high ok (Nat.le_refl _) hxl, ss1.ko.set hn0 hx hy, ss1.fo⟩, ⟨fun qq c hh => ?_, fun x' y' hl hne => ?_, ex1.f1, ex1.f2⟩, ?_⟩
    · rw [dget_dset]
      by_cases hk' : (D.tup [ti (u ++ [q]), ti (v ++ [q])]).key = qq.key
      · have hk2 : (rowD (u ++ [q]) (v ++ [q])).key = qq.key := hk'
        rw [← dget_key hk2, h0] at hh; cases hh
      · rw [if_neg hk']; exact ex1.k1 _ _ hh
    · rw [dget_dset, if_neg fun z => hne z.symm]; exact ex1.k2 _ _ hl
    · rw [ec]
      show dget (dset kn1 (rowD (u ++ [q]) (v ++ [q])) _) (rowD (u ++ [q]) (v ++ [q])) = _
      rw [dget_dset, if_pos rfl]
theorem PostS.tra {a dk df : Addr} {n : Nat} {kn fm : List (D × D)} {x y : List Int} {Z : Addr → Prop} {H G1 G2 : Hp} (t : Tra Z H G1 G2) (h : PostS P w K R a dk df n kn fm x y G1) : PostS P w K R a dk df n kn fm x y G2 := by
  obtain ⟨kn', fm', h1, h2⟩ := h
  exact ⟨kn', fm', h1.tra t, h2⟩
end
section
variable {X : Cx} {G : Hp} {Γ : List AV} {e o : Expr} {pos apos : Pos} {k : Nat} {R : List Nat} {A dk df : Addr} {kn fm : List (D × D)} {n0 : Nat} {u v : List Int} {q : Int} {fresh : Bool}
theorem gy_still {m : Str} (M : Mtd X.prog X.w X.K X.mg X.base (He.ga X.K "Solver") m ["self", "row"] k (spStill X.prog X.w X.K R n0 fresh)) (hr : Room k X.A) (ho : GV X G Γ o (.v (.ref A))) (S : Sv X.prog X.w X.K R A dk df G kn fm) (ss : SS R (n0 + 1) kn fm) (he : GE X G Γ e (rowD (u ++ [q]) (v ++ [q]))) (hx : Nd (low R (n0 + 1)) (u ++ [q])) (hy : Ends2 (low R (n0 + 1)) (v ++ [q])) (hn : n0 < R.length) (h0 : dget kn (rowD (u ++ [q]) (v ++ [q])) = none ∨ (fresh = false ∧ dget kn (rowD (u ++ [q]) (v ++ [q])) = some (exC (low R (n0 + 1)) (u ++ [q]) (v ++ [q]))))
    (hm : ∀ lv dc nv dk df, (svF lv dc nv dk df).lookup m = none := by intro _ _ _ _ _; rfl) (hst1 : starEach [e] X.env = (false, eval e X.env) :: starEach [] X.env := by rfl) (hpl : (backTo pos (starEach [] X.env)).any (·.1) = false := by rfl)
    {pl : Sem Bool} (ht : eval (.Call (.Attribute o m apos) [e] [] pos) X.env = (do let ov ← eval o X.env; standAt apos.atName; let (f, first) ← holding [ov] (getMethod ov m pl); callWith pos f first (backTo pos (starEach [e] X.env)) (backToKw pos (keywordEach [] X.env))) := by rfl) :
    GY X G Γ (.Call (.Attribute o m apos) [e] [] pos) (fun _ G' => Core (Zs dk df) G G' ∧ PostS X.prog X.w X.K R A dk df n0 kn fm (u ++ [q]) (v ++ [q]) G') := by
  obtain ⟨dx, fs, hG, hl⟩ := S.ins hm
  refine gy_meth (Z := Zs dk df) (as := [.d (rowD (u ++ [q]) (v ++ [q]))]) (post := fun _ G' => PostS X.prog X.w X.K R A dk df n0 kn fm (u ++ [q]) (v ++ [q]) G') M hr ho hG hl (gac1 he hst1) (zok_ext S.zext) (fun vs H Q s r hq => ?_) (fun v H G1 G2 t q => q.tra t) hst1 hpl ht
  obtain ⟨rowv, r', ev, rr, er⟩ := r
  subst ev; cases er
  exact ⟨A, dk, df, kn, fm, u, v, q, rowv, rfl, S.mono s, ss, rr, hx, hy, hn, h0, fun r G1 H' c1 s1 p => hq r G1 H' c1 s1 p⟩
end
section
variable {P : Program} {w : World} {K : PySem.W.Frag} {mg : Str → Option Value} {base : Heap} {R : List Nat}
theorem c_bestStill (T : Tx K mg) {n0 k : Nat} (M : Mtd P w K mg base (He.ga K "Solver") "reckon" ["self", "row"] k (spStill P w K R n0 true)) : Mtd P w K mg base (He.ga K "Solver") "best" ["self", "row"] (k + 1) (spStill P w K R n0 false) := by
  refine mtd_make (N := ["self", "row"]) T.cls_Solver T.m_Solver_best T.f_Solver_best sc_best (fun _ _ _ _ _ _ us hl => match us, hl with | [_, _], _ => rfl) ?_ ?_
  · rintro vs H Q E ⟨a, dk, df, kn, fm, u, v, q, rowv, rfl, _⟩; rfl
  · rintro cdv A outer s H vs Q E C ⟨a, dk, df, kn, fm, u, v, q, rowv, rfl, S, ss, hrow, hx, hy, hn0, h0, hq⟩
    refine (?_ : GS _ H ([.v (.ref a), .d (rowD (u ++ [q]) (v ++ [q]))] ++ []) _ _) _ _ (fm_start (as := [.v (.ref a), .d (rowD (u ++ [q]) (v ++ [q]))]) ⟨_, _, rfl, rfl, _, _, rfl, hrow, rfl⟩ (Nat.le_of_ble_eq_true rfl))
    have ret : ∀ G, Core (Zs dk df) H G → PostS P w K R a dk df n0 kn fm (u ++ [q]) (v ++ [q]) G → ∀ (p1 p2 p3 p4 p5 p6 p7 : Pos) (z : Nat), GS (cxOf CX0 P w K mg base ["self", "row"] d_Solver_best.qual d_Solver_best.scope (He.fAd K d_Solver_best.at_) cdv A outer s H E).nox G [.v (.ref a), .d (rowD (u ++ [q]) (v ++ [q]))] [.Return (some (.Subscript (.Subscript (.Attribute (.Name "self" p1) "known" p2) (.Name "row" p3) p4) (.Constant (.int 0) z p5) p6)) p7] { nx := fun _ H' => Q .non H', rt := Q } := by
      intro G core ⟨kn', fm', S', ss', ex', hg⟩ p1 p2 p3 p4 p5 p6 p7 z
      refine gs_retY (gy_of (ge_ixT (ds := [ti [exV (low R (n0 + 1)) (u ++ [q]) (v ++ [q])], toldD (low R (n0 + 1)) (u ++ [q]) (v ++ [q])]) (d := ti [exV (low R (n0 + 1)) (u ++ [q]) (v ++ [q])]) (ge_dget C (gv_known T S' (gv_var 0 rfl (fun q => by cases q))) (ge_var (x := rowD (u ++ [q]) (v ++ [q])) 1) S'.kn hg (row_dep _ _)) ge_int)) fun r G2 H' ⟨s2, r2⟩ s3 => ?_
      exact hq r G2 H' (core.then s2) s3 (PostS.mono s2 ⟨kn', fm', S', ss', ex', hg⟩)
    rcases h0 with hc | ⟨_, hc⟩
    · refine gs_when (gt_of (gt_dnin C (ge_var (x := rowD (u ++ [q]) (v ++ [q])) 1) (gv_known T S (gv_var 0 rfl (fun q => by cases q))) S.kn (row_dep _ _)) (by rw [show D.tup [ti (u ++ [q]), ti (v ++ [q])] = rowD (u ++ [q]) (v ++ [q]) from rfl, hc]; rfl)) ?_
      refine gs_exprY (gy_still M C.hr (gv_var 0 rfl (fun q => by cases q)) S ss (ge_var 1) hx hy hn0 (.inl hc)) fun r G' ⟨c1, hp⟩ => gs_end ?_
      exact ret G' c1 hp _ _ _ _ _ _ _ _
    · refine gs_unless (gt_of (gt_dnin C (ge_var (x := rowD (u ++ [q]) (v ++ [q])) 1) (gv_known T S (gv_var 0 rfl (fun q => by cases q))) S.kn (row_dep _ _)) (by rw [show D.tup [ti (u ++ [q]), ti (v ++ [q])] = rowD (u ++ [q]) (v ++ [q]) from rfl, hc]; rfl)) ?_
      exact ret H Core.refl ⟨kn, fm, S, ss, ⟨fun _ _ h => h, fun _ _ _ _ => rfl, fun _ h => h, fun _ _ _ => rfl⟩, hc⟩ _ _ _ _ _ _ _ _
end
end WB
namespace WB
open PySem PySem.Spec PyProof.Rows L2
/-! ### a family under way, plainly -/
def famW (rs : List Nat) (m : Nat) : List (List Int) := (gapsD rs m).map fun d => gW d ++ [gT d]
theorem famW_iff {rs : List Nat} {m : Nat} {x : List Int} : x ∈ famW rs m ↔ ∃ j : Nat, j + 1 < m ∧ (x = Wy rs j ++ [(j : Int) + 1] ∨ x = Wy rs j ++ [(j : Int)]) := by
  unfold famW
  rw [List.mem_map]
  constructor
  · rintro ⟨d, hd, rfl⟩
    obtain ⟨j, hj, e⟩ := gapsD_iff.mp hd
    refine ⟨j, hj, ?_⟩
    rcases e with e | e <;> rw [e, gW_gap, gT_gap]
    · exact .inl rfl
    · exact .inr rfl
  · rintro ⟨j, hj, e⟩
    rcases e with e | e
    · exact ⟨_, gapsD_iff.mpr ⟨j, hj, .inl rfl⟩, by rw [gW_gap, gT_gap, e]⟩
    · exact ⟨_, gapsD_iff.mpr ⟨j, hj, .inr rfl⟩, by rw [gW_gap, gT_gap, e]⟩
theorem famW_nd {rs : List Nat} {m : Nat} {x : List Int} (h : x ∈ famW rs m) : Nd (m :: rs) x := by
  obtain ⟨j, hj, e⟩ := famW_iff.mp h
  rcases e with e | e
  · exact ⟨_, _, e, wy_ends rs j, by omega, by omega⟩
  · exact ⟨_, _, e, wy_ends rs j, by omega, by omega⟩
/-- the word behind a gap -/
theorem gap_fam {rs : List Nat} {m : Nat} {h t : Int} (ht : t = h + 1 ∨ t = h - 1) (h0 : 0 ≤ h) (h1 : h ≤ (m : Int) - 1) (t0 : 0 ≤ t) (t1 : t ≤ (m : Int) - 1) : Wy rs (min h t).toNat ++ [t] ∈ famW rs m := by
  rw [famW_iff]
  rcases ht with ht | ht
  · refine ⟨h.toNat, by omega, .inl ?_⟩
    have e1 : (min h t).toNat = h.toNat := by omega
    have e2 : ((h.toNat : Nat) : Int) + 1 = t := by omega
    rw [e1, e2]
  · refine ⟨t.toNat, by omega, .inr ?_⟩
    have e1 : (min h t).toNat = t.toNat := by omega
    have e2 : ((t.toNat : Nat) : Int) = t := by omega
    rw [e1, e2]
theorem step_ok {m : Nat} {p q : Int} (p0 : 0 ≤ p) (p1 : p ≤ (m : Int) - 1) (q0 : 0 ≤ q) (q1 : q ≤ (m : Int) - 1) (hne : q ≠ p) : (stepT p q = p + 1 ∨ stepT p q = p - 1) ∧ 0 ≤ stepT p q ∧ stepT p q ≤ (m : Int) - 1 := by
  unfold stepT
  split <;> omega
theorem fwd_fam {rs : List Nat} {m : Nat} {p q : Int} (p0 : 0 ≤ p) (p1 : p ≤ (m : Int) - 1) (q0 : 0 ≤ q) (q1 : q ≤ (m : Int) - 1) (hne : q ≠ p) : fwdW rs p q ∈ famW rs m := by
  obtain ⟨h1, h2, h3⟩ := step_ok p0 p1 q0 q1 hne
  exact gap_fam h1 p0 p1 h2 h3
def Fin (rs : List Nat) (m : Nat) (y : List Int) (kn : List (D × D)) (x : List Int) : Prop := dget kn (rowD x y) = some (exC (m :: rs) x y)
structure WsOk (rs : List Nat) (m : Nat) (q : Int) (ws : List (List Int)) : Prop where
  sub : ∀ x ∈ ws, x ∈ famW rs m ∧ x.getLastD 0 ≠ q
  all : ∀ x ∈ famW rs m, x.getLastD 0 ≠ q → x ∈ ws
structure FI (rs : List Nat) (m : Nat) (y : List Int) (q : Int) (ws : List (List Int)) (kn1 kn : List (D × D)) : Prop where
  oth : ∀ d : D, (∀ x ∈ ws, d.key ≠ (rowD x y).key) → dget kn d = dget kn1 d
  cell : ∀ x ∈ ws, dget kn (rowD x y) = some noneC ∨ Fin rs m y kn x
  clo : ∀ x ∈ ws, Fin rs m y kn x → Fin rs m y kn (fwdW rs (x.getLastD 0) q)
theorem none_ne (rs : List Nat) (x y : List Int) : noneC ≠ exC rs x y := fun e => by
  unfold noneC exC at e
  injection e with e
  injection e with e _
  cases e
section
variable {rs : List Nat} {m : Nat} {y : List Int} {q : Int} {ws : List (List Int)} {kn1 kn kn' : List (D × D)}
theorem FI.notws (F : FI rs m y q ws kn1 kn) {x : List Int} (h : x ∉ ws) : dget kn (rowD x y) = dget kn1 (rowD x y) := F.oth _ fun x' hx' z => h (by rw [(row_key.mp z).1]; exact hx')
/-- family words are laid -/
theorem FI.known (F : FI rs m y q ws kn1 kn) (W : WsOk rs m q ws) (st : ∀ x ∈ famW rs m, x.getLastD 0 = q → Fin rs m y kn1 x) {x : List Int} (h : x ∈ famW rs m) : dget kn (rowD x y) = some noneC ∨ Fin rs m y kn x := by
  by_cases hq : x.getLastD 0 = q
  · right
    unfold Fin
    rw [F.notws fun z => (W.sub x z).2 hq]
    exact st x h hq
  · exact F.cell x (W.all x h hq)
open Classical in
noncomputable def woK (rs : List Nat) (m : Nat) (y : List Int) (kn : List (D × D)) (x : List Int) : Option Int := if Fin rs m y kn x then some (exV (m :: rs) x y) else none
theorem woK_ex {x : List Int} {c : Int} (h : woK rs m y kn x = some c) : c = exV (m :: rs) x y := by
  unfold woK at h
  split at h
  · exact (Option.some.inj h).symm
  · cases h
theorem woK_fin {x : List Int} (h : Fin rs m y kn x) : woK rs m y kn x = some (exV (m :: rs) x y) := if_pos h
theorem woK_no {x : List Int} (h : ¬ Fin rs m y kn x) : woK rs m y kn x = none := if_neg h
theorem woK_cell {x : List Int} (h : dget kn (rowD x y) = some noneC ∨ Fin rs m y kn x) : ∃ tl, dget kn (rowD x y) = some (cellD (woK rs m y kn x, tl)) := by
  by_cases hf : Fin rs m y kn x
  · exact ⟨toldD (m :: rs) x y, by rw [woK_fin hf]; exact hf⟩
  · rcases h with h | h
    · exact ⟨belowD, by rw [woK_no hf]; exact h⟩
    · exact absurd h hf
variable {u v : List Int} {p : Int}
/-- what a turn leads to -/
theorem turn_at (p0 : 0 ≤ p) (p1 : p ≤ (m : Int) - 1) {t : Tn} (h : t ∈ turnsOf rs m u p) : ∃ tt : Int, (tt = p + 1 ∨ tt = p - 1) ∧ 0 ≤ tt ∧ tt ≤ (m : Int) - 1 ∧ t.x = Wy rs (min p tt).toNat ++ [tt] ∧ t.x ∈ famW rs m := by
  obtain ⟨d, hd, rfl⟩ := List.mem_map.mp h
  obtain ⟨tt, h1, h2, h3, e⟩ := (gapsAt_iff p0 p1).mp hd
  have ex : (gapTn rs u d).x = Wy rs (min p tt).toNat ++ [tt] := by
    show gW d ++ [gT d] = _
    rw [e, gW_gap, gT_gap]
  exact ⟨tt, h1, h2, h3, ex, by rw [ex]; exact gap_fam h1 p0 p1 h2 h3⟩
/-- a turn whose end is known: the neighbour ahead is known -/
theorem FI.ahead (F : FI rs m y q ws kn1 kn) (W : WsOk rs m q ws) (p0 : 0 ≤ p) (p1 : p ≤ (m : Int) - 1) (q0 : 0 ≤ q) (q1 : q ≤ (m : Int) - 1) (hne : q ≠ p) {t : Tn} (h : t ∈ turnsOf rs m u p) (hf : Fin rs m y kn t.x) : Fin rs m y kn (fwdW rs p q) := by
  obtain ⟨tt, h1, h2, h3, ex, hm⟩ := turn_at p0 p1 h
  by_cases hs : tt = stepT p q
  · rw [ex, hs] at hf; exact hf
  · -- the other way: from there ahead lies p, and on
    have hq : tt ≠ q := fun z => hs (by
      rw [z]; unfold stepT
      split <;> omega)
    have hl : t.x.getLastD 0 = tt := by rw [ex, List.getLastD_concat]
    have hw := W.all t.x hm (by rw [hl]; exact hq)
    have hb := F.clo t.x hw hf
    rw [hl] at hb
    have hst : stepT tt q = p := by
      unfold stepT at hs ⊢
      split <;> split at hs <;> omega
    have hfw : fwdW rs tt q = Wy rs (min p tt).toNat ++ [p] := by
      unfold fwdW
      rw [hst, Int.min_comm]
    rw [hfw] at hb
    have hpm : Wy rs (min p tt).toNat ++ [p] ∈ famW rs m := by
      have := gap_fam (rs := rs) (m := m) (h := tt) (t := p) (by omega) h2 h3 p0 p1
      rwa [Int.min_comm] at this
    have hpl : (Wy rs (min p tt).toNat ++ [p]).getLastD 0 = p := List.getLastD_concat ..
    have := F.clo _ (W.all _ hpm (by rw [hpl]; exact fun z => hne z.symm)) hb
    rwa [hpl] at this
theorem FI.less_no (F : FI rs m y q ws kn1 kn) (W : WsOk rs m q ws) (p0 : 0 ≤ p) (p1 : p ≤ (m : Int) - 1) (q0 : 0 ≤ q) (q1 : q ≤ (m : Int) - 1) (hne : q ≠ p) (hf : ¬ Fin rs m y kn (fwdW rs p q)) (s : (Option Int × D) × Bool) : lessF (woK rs m y kn) s (turnsOf rs m u p) = s :=
  lessF_no fun t ht => woK_no fun z => hf (F.ahead W p0 p1 q0 q1 hne ht z)
theorem FI.less_fin (okm : Ok24 (m :: rs)) (hx : Wd (m :: rs) (u ++ [p])) (hy : Wd (m :: rs) (v ++ [q])) (ey : y = v ++ [q]) (hne : q ≠ p) (hf : Fin rs m y kn (fwdW rs p q)) :
    lessF (woK rs m y kn) ((none, belowD), false) (turnsOf rs m u p) = ((some (exV (m :: rs) (u ++ [p]) y), gapT rs p (stepT p q)), true) ∧ lessF (woK rs m y kn) ((some (exV (m :: rs) (u ++ [p]) y), gapT rs p (stepT p q)), false) (turnsOf rs m u p) = ((some (exV (m :: rs) (u ++ [p]) y), gapT rs p (stepT p q)), false) := by
  subst ey
  obtain ⟨t1, t2, t3⟩ := turns_ok okm hx hy hne (wo := woK rs m (v ++ [q]) kn) (fun x c h => woK_ex h) (by rw [woK_fin hf]; rfl)
  exact ⟨lessF_fwd (isF := fun t => t.x = fwdW rs p q) (.inl rfl) t1 t2 t3, lessF_ex (isF := fun t => t.x = fwdW rs p q) t1 t2⟩
/-- the row's cell when it is known -/
theorem exC_cell (u v : List Int) (hne : q ≠ p) : exC (m :: rs) (u ++ [p]) (v ++ [q]) = cellD (some (exV (m :: rs) (u ++ [p]) (v ++ [q])), gapT rs p (stepT p q)) := by
  unfold exC; rw [told_snoc, if_neg fun z => hne z.symm]; rfl
/-- a row becomes known -/
theorem FI.put (F : FI rs m y q ws kn1 kn) {x : List Int} (hx : x ∈ ws) (h1 : Fin rs m y kn' x) (h2 : ∀ d : D, d.key ≠ (rowD x y).key → dget kn' d = dget kn d) (hf : Fin rs m y kn (fwdW rs (x.getLastD 0) q)) : FI rs m y q ws kn1 kn' := by
  have up : ∀ x', Fin rs m y kn x' → Fin rs m y kn' x' := fun x' h => by
    by_cases e : x' = x
    · rw [e]; exact h1
    · unfold Fin
      rw [h2 _ fun z => e (row_key.mp z).1]; exact h
  refine ⟨fun d hd => by rw [h2 d (hd x hx), F.oth d hd], fun x' hx' => ?_, fun x' hx' h => ?_⟩
  · by_cases e : x' = x
    · rw [e]; exact .inr h1
    · rcases F.cell x' hx' with h | h
      · left; rw [h2 _ fun z => e (row_key.mp z).1]; exact h
      · exact .inr (up x' h)
  · by_cases e : x' = x
    · rw [e]; exact up _ hf
    · have : Fin rs m y kn x' := by
        unfold Fin at h ⊢
        rwa [h2 _ fun z => e (row_key.mp z).1] at h
      exact up _ (F.clo x' hx' this)
open Classical in
noncomputable def cnt (y : List Int) (ws : List (List Int)) (kn : List (D × D)) : Nat := (ws.filter fun x => decide (dget kn (rowD x y) = some noneC)).length
theorem filter_lt {α : Type} {f g : α → Bool} : ∀ {l : List α} {x : α}, (∀ a, g a = true → f a = true) → x ∈ l → f x = true → g x = false → (l.filter g).length < (l.filter f).length
  | a :: l, x, h, hx, h1, h2 => by
    have le : ∀ l : List α, (l.filter g).length ≤ (l.filter f).length := by
      intro l
      induction l with
      | nil => exact Nat.le_refl _
      | cons b l ih =>
        rw [List.filter_cons, List.filter_cons]
        cases hg : g b with
        | true => rw [h b hg]; simpa using ih
        | false =>
          cases f b
          · simpa using ih
          · simp; omega
    rcases List.mem_cons.mp hx with e | hx
    · subst e
      rw [List.filter_cons, List.filter_cons, h1, h2]
      have := le l
      simp; omega
    · have ih := filter_lt h hx h1 h2
      rw [List.filter_cons, List.filter_cons]
      cases hg : g a with
      | true => rw [h a hg]; simpa using ih
      | false =>
        cases f a
        · simpa using ih
        · simp; omega
theorem cnt_put {x : List Int} (hx : x ∈ ws) (h0 : dget kn (rowD x y) = some noneC) (h1 : Fin rs m y kn' x) (h2 : ∀ d : D, d.key ≠ (rowD x y).key → dget kn' d = dget kn d) : cnt y ws kn' < cnt y ws kn := by
  classical
  unfold cnt
  refine filter_lt (x := x) (fun a ha => ?_) hx ?_ ?_
  · have ha' := of_decide_eq_true ha
    by_cases e : a = x
    · subst e
      have : dget kn' (rowD a y) = some (exC (m :: rs) a y) := h1
      rw [this] at ha'
      exact absurd (Option.some.inj ha').symm (none_ne _ _ _)
    · rw [h2 _ fun z => e (row_key.mp z).1] at ha'
      simpa using ha'
  · simpa using h0
  · have : dget kn' (rowD x y) = some (exC (m :: rs) x y) := h1
    rw [this]
    exact decide_eq_false fun z => none_ne _ _ _ (Option.some.inj z).symm
/-- where nothing more can be lessened all is known -/
theorem FI.done (F : FI rs m y q ws kn1 kn) (W : WsOk rs m q ws) (st : ∀ x ∈ famW rs m, x.getLastD 0 = q → Fin rs m y kn1 x) (q0 : 0 ≤ q) (q1 : q ≤ (m : Int) - 1) (h : ∀ x ∈ ws, dget kn (rowD x y) = some noneC → ¬ Fin rs m y kn (fwdW rs (x.getLastD 0) q)) : ∀ (k : Nat) (x : List Int), x ∈ ws → (q - x.getLastD 0).natAbs ≤ k → Fin rs m y kn x
  | 0, x, hx, hk => absurd (by omega) (W.sub x hx).2
  | k + 1, x, hx, hk => by
    obtain ⟨hm, hne⟩ := W.sub x hx
    obtain ⟨u, p, e, _, p0, p1⟩ := famW_nd hm
    have hl : x.getLastD 0 = p := by rw [e, List.getLastD_concat]
    rw [hl] at hne hk
    have hfm := fwd_fam (rs := rs) p0 p1 q0 q1 (fun z => hne z.symm)
    have hfl : (fwdW rs p q).getLastD 0 = stepT p q := List.getLastD_concat ..
    have hff : Fin rs m y kn (fwdW rs p q) := by
      by_cases hs : stepT p q = q
      · unfold Fin
        rw [F.notws fun z => (W.sub _ z).2 (by rw [hfl]; exact hs)]
        exact st _ hfm (by rw [hfl]; exact hs)
      · refine FI.done F W st q0 q1 h k _ (W.all _ hfm (by rw [hfl]; exact hs)) ?_
        rw [hfl]
        unfold stepT
        split <;> omega
    rcases F.cell x hx with hc | hc
    · have := h x hx hc
      rw [hl] at this
      exact absurd hff this
    · exact hc
end
end WB
namespace WB
open PySem PySem.Spec PyProof.Rows L2
/-! ### the dict of turns, its values lists -/
def turnsX (rs : List Nat) (m : Nat) (y x : List Int) : List D := (turnsOf rs m x.dropLast (x.getLastD 0)).map (tnD y)
theorem turnsX_snoc (rs : List Nat) (m : Nat) (y u : List Int) (p : Int) : turnsX rs m y (u ++ [p]) = (turnsOf rs m u p).map (tnD y) := by
  unfold turnsX
  rw [List.dropLast_concat, List.getLastD_concat]
def TAll (K : PySem.W.Frag) (G : Hp) (rs : List Nat) (m : Nat) (y : List Int) : List (List Int) → List XE → Prop
  | [], xs => xs = []
  | x :: wl, xs => ∃ a l vs r, xs = ((rowD x y).key, a, .ref l) :: r ∧ Rp K G (rowD x y) (.ref a) ∧ G l = some (.lst vs) ∧ RpAll K G (turnsX rs m y x) vs ∧ TAll K G rs m y wl r
def wput : List (List Int) → List Int → List (List Int)
  | [], x => [x]
  | a :: l, x => if a = x then a :: l else a :: wput l x
theorem wput_mem {x z : List Int} : ∀ {l : List (List Int)}, z ∈ wput l x ↔ z = x ∨ z ∈ l
  | [] => by simp [wput]
  | a :: l => by
    unfold wput
    by_cases h : a = x
    · rw [if_pos h, List.mem_cons, h]
      constructor
      · rintro (h | h)
        · exact .inl h
        · exact .inr (.inr h)
      · rintro (h | h | h)
        · exact .inl h
        · exact .inl h
        · exact .inr h
    · rw [if_neg h, List.mem_cons, wput_mem, List.mem_cons]
      constructor
      · rintro (h | h | h)
        · exact .inr (.inl h)
        · exact .inl h
        · exact .inr (.inr h)
      · rintro (h | h | h)
        · exact .inr (.inl h)
        · exact .inl h
        · exact .inr (.inr h)
section
variable {P : Program} {w : World} {K : PySem.W.Frag} {G G1 : Hp} {rs : List Nat} {m : Nat} {y : List Int}
theorem TAll.tra (tp : Tps K G G1) (hl : ∀ l vs, G l = some (.lst vs) → G1 l = some (.lst vs)) : ∀ {wl : List (List Int)} {xs : List XE}, TAll K G rs m y wl xs → TAll K G1 rs m y wl xs
  | [], _, h => h
  | _ :: _, _, ⟨a, l, vs, r, e, h1, h2, h3, h4⟩ => ⟨a, l, vs, r, e, h1.mono tp, hl l vs h2, h3.mono tp, TAll.tra tp hl h4⟩
theorem TAll.len : ∀ {wl : List (List Int)} {xs : List XE}, TAll K G rs m y wl xs → xs.length = wl.length
  | [], _, h => by cases h; rfl
  | _ :: _, _, ⟨a, l, vs, r, e, h1, h2, h3, h4⟩ => by rw [e]; exact congrArg Nat.succ h4.len
theorem TAll.get : ∀ {wl : List (List Int)} {xs : List XE}, TAll K G rs m y wl xs → ∀ (i : Nat) (en : XE), xs[i]? = some en → ∃ x, wl[i]? = some x ∧ en.1 = (rowD x y).key ∧ Rp K G (rowD x y) (.ref en.2.1) ∧ ∃ l vs, en.2.2 = .ref l ∧ G l = some (.lst vs) ∧ RpAll K G (turnsX rs m y x) vs
  | [], _, h, i, en, q => by cases h; simp at q
  | x :: _, _, ⟨a, l, vs, r, e, h1, h2, h3, h4⟩, i, en, q => by
    subst e
    cases i with
    | zero => cases q; exact ⟨x, rfl, rfl, h1, l, vs, rfl, h2, h3⟩
    | succ i => exact h4.get i en q
theorem TAll.kall {wl : List (List Int)} {xs : List XE} (h : TAll K G rs m y wl xs) : KAll K G xs := fun e he => by
  obtain ⟨i, hi⟩ := List.mem_iff_getElem?.mp he
  obtain ⟨x, _, e1, e2, _⟩ := h.get i e hi
  exact ⟨rowD x y, e2, e1.symm, by rw [e1]; exact row_dep _ _⟩
theorem TAll.put {x : List Int} {a l : Addr} {vs : List V} (ha : Rp K G (rowD x y) (.ref a)) (hl : G l = some (.lst vs)) (hv : RpAll K G (turnsX rs m y x) vs) : ∀ {wl : List (List Int)} {xs : List XE}, TAll K G rs m y wl xs → TAll K G rs m y (wput wl x) (putX xs (rowD x y).key a (.ref l))
  | [], _, h => by cases h; exact ⟨a, l, vs, [], rfl, ha, hl, hv, rfl⟩
  | x0 :: wl, _, ⟨a0, l0, vs0, r, e, h1, h2, h3, h4⟩ => by
    subst e
    unfold wput putX
    by_cases h : x0 = x
    · subst h
      rw [if_pos rfl, if_pos rfl]
      exact ⟨a0, l, vs, r, rfl, h1, hl, hv, h4⟩
    · rw [if_neg h, if_neg fun z => h (row_key.mp z).1]
      exact ⟨a0, l0, vs0, _, rfl, h1, h2, h3, TAll.put ha hl hv h4⟩
/-! a thing apart from the solver's changes -/
def NotDc (G : Hp) (a dt : Addr) : Prop := ∀ C dx fs, G a = some (.ins C dx fs) → List.lookup ("costs" : Str) fs ≠ some (V.ref dt)
variable {R : List Nat} {a dk df dt : Addr} {kn fm : List (D × D)} {o : HO}
theorem Dic.coreD {dd : Addr} {mm : List (D × D)} (h : Dic P w K G dd mm) (hn : dd ≠ dt) (c : Core (fun x => x = dt) G G1) (tp : Tps K G G1) : Dic P w K G1 dd mm := by
  obtain ⟨n, xs, e, r⟩ := h
  exact ⟨n, xs, c _ _ e hn, r.mono tp⟩
theorem Sv.coreD (S : Sv P w K R a dk df G kn fm) (ha : a ≠ dt) (hk : dk ≠ dt) (hf : df ≠ dt) (hc : NotDc G a dt) (c : Core (fun x => x = dt) G G1) (tp : Tps K G G1) : Sv P w K R a dk df G1 kn fm := by
  obtain ⟨dx, lv, dc, nv, cm, h1, h2, h3, h4, h5, h6, h7⟩ := S.ex
  have hdc : dc ≠ dt := fun z => hc _ _ _ h1 (by rw [z]; rfl)
  exact ⟨⟨dx, lv, dc, nv, cm, c _ _ h1 ha, h2.mono tp, h3.coreD hdc c tp, h4, h5.mono tp, h6, h7⟩, S.kn.coreD hk c tp, S.fm.coreD hf c tp, S.ne⟩
theorem tps_d (h1 : ∀ xs, G dt ≠ some (.tup xs)) (h2 : ∀ ob xs, G dt ≠ some (.frz ob (.tup xs))) (c : Core (fun x => x = dt) G G1) : Tps K G G1 := fun x xs hx => by
  rcases hx with (hx | ⟨o, hx⟩) | hx
  · exact .inl (.inl (c x _ hx fun z => h1 xs (z ▸ hx)))
  · exact .inl (.inr ⟨o, c x _ hx fun z => h2 o xs (z ▸ hx)⟩)
  · exact .inr hx
theorem NotDc.core {Z : Addr → Prop} (h : NotDc G a dt) (S : Sv P w K R a dk df G kn fm) (c : Core Z G G1) (nz : ¬ Z a) : NotDc G1 a dt := by
  obtain ⟨dx, lv, dc, nv, cm, h1, _⟩ := S.ex
  intro C dx' fs e
  rw [c _ _ h1 nz] at e
  exact h C dx' fs (by rw [h1]; exact e)
theorem TAll.core {Z : Addr → Prop} {wl : List (List Int)} {xs : List XE} (h : TAll K G rs m y wl xs) (hz : ∀ x, Z x → ∃ φ, G x = some (.ext φ)) (c : Core Z G G1) : TAll K G1 rs m y wl xs :=
  h.tra (core_tps hz c) fun l vs e => c _ _ e fun z => by
    obtain ⟨φ, q⟩ := hz l z
    rw [e] at q; cases q
theorem lock_core {Z : Addr → Prop} {Hc G2 : Hp} {o1 o2 : HO} (c : Core Z (upd G dt o1) Hc) (s : Same Hc G2) : Core (fun x => Z x ∨ x = dt) G (upd G2 dt o2) := fun x o e n => by
  have hx : x ≠ dt := fun z => n (.inr z)
  rw [upd_ne hx]
  exact s _ _ (c x o (by rw [upd_ne hx]; exact e) fun z => n (.inl z))
theorem upd_coreD {o : HO} : Core (fun x => x = dt) G (upd G dt o) := fun x o e n => by rw [upd_ne n]; exact e
theorem Sv.notDc (S : Sv P w K R a dk df G kn fm) (hdt : G dt = none) : NotDc G a dt := fun C dx fs e q => by
  obtain ⟨dx', lv, dc, nv, cm, h1, h2, h3, _⟩ := S.ex
  rw [h1] at e
  cases e
  have q' : some (V.ref dc) = some (.ref dt) := q
  have : dc = dt := by injection (Option.some.inj q')
  obtain ⟨_, xs, e, _⟩ := h3
  rw [this, hdt] at e; cases e
theorem Sv.aNotZ (S : Sv P w K R a dk df G kn fm) : ¬ Zs dk df a := fun z => by
  obtain ⟨⟨φ, q⟩, _⟩ := S.zext a z
  obtain ⟨dx, lv, dc, nv, cm, h1, _⟩ := S.ex
  rw [h1] at q; cases q
theorem Sv.nd (S : Sv P w K R a dk df G kn fm) (hdt : G dt = none) : a ≠ dt ∧ dk ≠ dt ∧ df ≠ dt := by
  obtain ⟨dx, lv, dc, nv, cm, h1, _⟩ := S.ex
  obtain ⟨⟨φ, q1⟩, _⟩ := S.kn.ext
  obtain ⟨⟨ψ, q2⟩, _⟩ := S.fm.ext
  exact ⟨fun z => (by rw [z, hdt] at h1; cases h1), fun z => (by rw [z, hdt] at q1; cases q1), fun z => (by rw [z, hdt] at q2; cases q2)⟩
theorem NotDc.keep (h : NotDc G a dt) {o : HO} (h0 : G a = some o) (h1 : G1 a = some o) : NotDc G1 a dt := fun C dx fs e => h C dx fs (by rw [h0, ← h1]; exact e)
end
/-! ### the tables while the family is made -/
structure L1 (R : List Nat) (n0 m : Nat) (y : List Int) (q : Int) (kn fm kn' fm' : List (D × D)) (i : Nat) : Prop where
  k1 : ∀ d c, dget kn d = some c → dget kn' d = some c
  k2 : ∀ x' y', n0 + 1 ≤ x'.length → ¬ (y' = y ∧ x' ∈ famW (low R n0) m ∧ x'.getLastD 0 = q) → dget kn' (rowD x' y') = dget kn (rowD x' y')
  f1 : ∀ d, (dget fm d).isSome = true → (dget fm' d).isSome = true
  f2 : ∀ n y, n0 + 1 ≤ n → dget fm' (famD n y) = dget fm (famD n y)
  so : ∀ x ∈ famW (low R n0) m, x.getLastD 0 = q → dget kn' (rowD x y) = none ∨ Fin (low R n0) m y kn' x
  st : ∀ x ∈ (famW (low R n0) m).take i, x.getLastD 0 = q → Fin (low R n0) m y kn' x
section
variable {R : List Nat} {n0 m : Nat} {y : List Int} {q : Int} {kn fm kn' fm' kn2 fm2 : List (D × D)} {i : Nat} {x : List Int}
theorem L1.still (L : L1 R n0 m y q kn fm kn' fm' i) (hx : (famW (low R n0) m)[i]? = some x) (hq : x.getLastD 0 = q) (hw : low R (n0 + 1) = m :: low R n0) (hlen : ∀ x ∈ famW (low R n0) m, x.length = n0 + 1) (e : ExB (n0 + 1) x y kn' fm' kn2 fm2) (hg : dget kn2 (rowD x y) = some (exC (low R (n0 + 1)) x y)) : L1 R n0 m y q kn fm kn2 fm2 (i + 1) := by
  have hm := List.mem_of_getElem? hx
  have hf : Fin (low R n0) m y kn2 x := by unfold Fin; rw [← hw]; exact hg
  refine ⟨fun d c h => e.k1 _ _ (L.k1 d c h), fun x' y' h hn => ?_, fun d h => e.f1 _ (L.f1 d h), fun n y h => (e.f2 n y h).trans (L.f2 n y h), fun x' hx' hq' => ?_, fun x' hx' hq' => ?_⟩
  · rw [e.k2 x' y' h fun z => ?_]
    · exact L.k2 x' y' h hn
    · obtain ⟨rfl, rfl⟩ := row_key.mp z
      exact hn ⟨rfl, hm, hq⟩
  · by_cases ex : x' = x
    · rw [ex]; exact .inr hf
    · rcases L.so x' hx' hq' with h | h
      · left
        rw [e.k2 x' y (by rw [hlen x' hx']; exact Nat.le_refl _) fun z => ex (row_key.mp z).1]
        exact h
      · exact .inr (e.k1 _ _ h)
  · rw [List.take_add_one, hx] at hx'
    rcases List.mem_append.mp hx' with h | h
    · exact e.k1 _ _ (L.st x' h hq')
    · have ex : x' = x := by simpa using h
      rw [ex]; exact hf
theorem L1.turn (L : L1 R n0 m y q kn fm kn' fm' i) (hx : (famW (low R n0) m)[i]? = some x) (hq : x.getLastD 0 ≠ q) (hlen : ∀ x ∈ famW (low R n0) m, x.length = n0 + 1) (e : Ex (n0 + 1) kn' fm' kn2 fm2) : L1 R n0 m y q kn fm kn2 fm2 (i + 1) := by
  refine ⟨fun d c h => e.k1 _ _ (L.k1 d c h), fun x' y' h hn => ?_, fun d h => e.f1 _ (L.f1 d h), fun n y h => (e.f2 n y h).trans (L.f2 n y h), fun x' hx' hq' => ?_, fun x' hx' hq' => ?_⟩
  · rw [e.k2 x' y' h]; exact L.k2 x' y' h hn
  · rcases L.so x' hx' hq' with h | h
    · left; rw [e.k2 x' y (by rw [hlen x' hx']; exact Nat.le_refl _)]; exact h
    · exact .inr (e.k1 _ _ h)
  · rw [List.take_add_one, hx] at hx'
    rcases List.mem_append.mp hx' with h | h
    · exact e.k1 _ _ (L.st x' h hq')
    · have ex : x' = x := by simpa using h
      rw [ex] at hq'; exact absurd hq' hq
end
/-- the family is made -/
theorem fam_done {R : List Nat} {n0 m : Nat} {v : List Int} {q : Int} {kn fm kn1 fm1 kn3 : List (D × D)} {ws : List (List Int)} {i : Nat} (ok : Ok24 R) (hn0 : n0 < R.length) (hw : low R (n0 + 1) = m :: low R n0) (hy : Ends2 (low R (n0 + 1)) (v ++ [q]))
    (g : Good R (n0 + 2) kn fm) (h0 : dget fm (famD (n0 + 1) (v ++ [q])) = none) (L : L1 R n0 m (v ++ [q]) q kn (dset fm (famD (n0 + 1) (v ++ [q])) (.bl true)) kn1 fm1 i) (hi : (famW (low R n0) m).length ≤ i) (W : WsOk (low R n0) m q ws) (F : FI (low R n0) m (v ++ [q]) q ws kn1 kn3) (hall : ∀ x ∈ ws, Fin (low R n0) m (v ++ [q]) kn3 x) (ss : SS R (n0 + 1) kn3 fm1) :
    SS R (n0 + 2) kn3 fm1 ∧ Ex (n0 + 2) kn fm kn3 fm1 ∧ (dget fm1 (famD (n0 + 1) (v ++ [q]))).isSome = true := by
  have hst : ∀ x ∈ famW (low R n0) m, x.getLastD 0 = q → Fin (low R n0) m (v ++ [q]) kn1 x := fun x hx hq => L.st x (by rw [List.take_of_length_le hi]; exact hx) hq
  have hlen : ∀ x ∈ famW (low R n0) m, x.length = n0 + 1 := fun x hx => by
    have : Nd (low R (n0 + 1)) x := hw ▸ famW_nd hx
    exact this.len ok (by omega)
  have flag : (dget fm1 (famD (n0 + 1) (v ++ [q]))).isSome = true := L.f1 _ (by rw [dget_dset, if_pos rfl]; rfl)
  have none0 : ∀ x ∈ ws, dget kn (rowD x (v ++ [q])) = none := fun x hx => by
    obtain ⟨hm, hne⟩ := W.sub x hx
    obtain ⟨u, p, e, _⟩ := famW_nd hm
    have hnd : Nd (low R (n0 + 1)) x := hw ▸ famW_nd hm
    cases hc : dget kn (rowD x (v ++ [q])) with
    | none => rfl
    | some c =>
      rw [e, List.getLastD_concat] at hne
      have := g.nst n0 m (by omega) hn0 hw u p v q (e ▸ hnd) hy hne (by rw [← e, hc]; rfl)
      rw [h0] at this; cases this
  have fin_all : ∀ x ∈ famW (low R n0) m, Fin (low R n0) m (v ++ [q]) kn3 x := fun x hx => by
    by_cases hq : x.getLastD 0 = q
    · unfold Fin
      rw [F.notws fun z => (W.sub x z).2 hq]
      exact hst x hx hq
    · exact hall x (W.all x hx hq)
  have hk1 : ∀ d c, dget kn d = some c → dget kn3 d = some c := fun d c h => by
    rw [F.oth d fun x hx z => ?_]
    · exact L.k1 d c h
    · rw [dget_key z, none0 x hx] at h; cases h
  have hf1 : ∀ d, (dget fm d).isSome = true → (dget fm1 d).isSome = true := fun d h => L.f1 d (by
    rw [dget_dset]
    split
    · rfl
    · exact h)
  have hf2 : ∀ n y, n0 + 1 ≤ n → (n ≠ n0 + 1 ∨ y ≠ v ++ [q]) → dget fm1 (famD n y) = dget fm (famD n y) := fun n y h hn => by
    rw [L.f2 n y h, dget_dset, if_neg fun z => ?_]
    obtain ⟨e1, e2⟩ := fam_key.mp z
    rcases hn with hn | hn
    · exact hn e1.symm
    · exact hn e2.symm
  have hk2 : ∀ x' y', n0 + 1 ≤ x'.length → ¬ (y' = v ++ [q] ∧ x' ∈ famW (low R n0) m) → dget kn3 (rowD x' y') = dget kn (rowD x' y') := fun x' y' h hn => by
    rw [F.oth _ fun x hx z => ?_]
    · exact L.k2 x' y' h fun z => hn ⟨z.1, z.2.1⟩
    · obtain ⟨e1, e2⟩ := row_key.mp z
      exact hn ⟨e2, by rw [e1]; exact (W.sub x hx).1⟩
  refine ⟨⟨⟨fun n h1 h2 x' y' c hx' hy' hg => ?_, fun n1 m1 h1 h2 h3 y1 hy1 hg h t w hgap => ?_, fun n1 m1 h1 h2 h3 u p v1 q1 hx1 hy1 hne hg => ?_⟩, ss.ko, ss.fo⟩, ⟨hk1, fun x' y' h => ?_, hf1, fun n y h => hf2 n y (by omega) (.inl (by omega))⟩, flag⟩
  · by_cases hn : n < n0 + 1
    · exact ss.good.ex n hn h2 x' y' c hx' hy' hg
    · have en : n = n0 + 1 := by omega
      subst en
      by_cases hm : y' = v ++ [q] ∧ x' ∈ famW (low R n0) m
      · obtain ⟨rfl, hm⟩ := hm
        have := fin_all x' hm
        unfold Fin at this
        rw [hg] at this
        rw [hw]; exact Option.some.inj this
      · rw [hk2 x' y' (by rw [hx'.len ok h2]; exact Nat.le_refl _) hm] at hg
        exact g.ex (n0 + 1) h1 h2 x' y' c hx' hy' hg
  · by_cases hn : n1 + 1 < n0 + 1
    · exact ss.good.fam n1 m1 hn h2 h3 y1 hy1 hg h t w hgap
    · have en : n1 = n0 := by omega
      subst en
      by_cases e : y1 = v ++ [q]
      · subst e
        have em : m1 = m := by rw [h3] at hw; injection hw
        subst em
        have hm : w ++ [t] ∈ famW (low R n1) m1 := List.mem_map.mpr ⟨_, hgap, by rw [gW_gap, gT_gap]⟩
        have := fin_all _ hm
        unfold Fin at this
        rw [this]; rfl
      · rw [hf2 _ _ (Nat.le_refl _) (.inr e)] at hg
        have := g.fam n1 m1 h1 h2 h3 y1 hy1 hg h t w hgap
        obtain ⟨c, hc⟩ := Option.isSome_iff_exists.mp this
        rw [hk1 _ c hc]; rfl
  · by_cases hn : n1 + 1 < n0 + 1
    · exact ss.good.nst n1 m1 hn h2 h3 u p v1 q1 hx1 hy1 hne hg
    · have en : n1 = n0 := by omega
      subst en
      by_cases e : v1 ++ [q1] = v ++ [q]
      · rw [e]; exact flag
      · rw [hk2 _ _ (by rw [hx1.len ok (by omega)]; exact Nat.le_refl _) fun z => e z.1] at hg
        exact hf1 _ (g.nst n1 m1 h1 h2 h3 u p v1 q1 hx1 hy1 hne hg)
  · exact hk2 x' y' (by omega) fun z => by
      have := hlen x' z.2
      omega
end WB
namespace WB
open PySem PySem.Spec PyProof.Rows L2
def gWord (d : D) : D := ti (gW d ++ [gT d])
def rowO (y : List Int) : D → List D
  | d => [.tup [d, ti y]]
theorem famW_map (rs : List Nat) (m : Nat) : ((gapsD rs m).flatMap fun d => [gWord d]) = (famW rs m).map ti := by
  rw [← map_flat]
  unfold famW
  rw [List.map_map]; rfl
theorem rowO_map (y : List Int) (l : List (List Int)) : (l.map ti).flatMap (rowO y) = l.map fun x => rowD x y := by
  show ((l.map ti).flatMap fun d => [D.tup [d, ti y]]) = _
  rw [← map_flat, List.map_map]; rfl
section
variable {P : Program} {w : World} {K : PySem.W.Frag} {mg : Str → Option Value} {base : Heap} {R : List Nat}
theorem sc_family : FnScope ["self", "many", "wishes", "words", "rows", "turns", "row", "is_less", "some", "gap", "way", "word", "at"] ["self", "many", "wishes"] (defScope s_Solver_reckon_family) := ⟨rfl, rfl, rfl, by decide +kernel, rfl, by decide +kernel, by decide +kernel⟩
theorem c_family (T : Tx K mg) (ok : Ok24 R) (hR : R.length ≤ 60) {n0 k : Nat} (hk : 2 ≤ k) (Ms : Mtd P w K mg base (He.ga K "Solver") "best" ["self", "row"] k (spStill P w K R n0 false)) (Mt : MTurns P w K mg base R n0 k) : MFam P w K mg base R n0 (k + 1) := by
  refine mtd_make (N := ["self", "many", "wishes", "words", "rows", "turns", "row", "is_less", "some", "gap", "way", "word", "at"]) T.cls_Solver T.m_Solver_reckon_family T.f_Solver_reckon_family sc_family (fun _ _ _ _ _ _ us hl => match us, hl with | [_, _, _], _ => rfl) ?_ ?_
  · rintro vs H Q E ⟨a, dk, df, kn, fm, y, wv, rfl, _⟩; rfl
  · rintro cdv A outer s H vs Q E C ⟨a, dk, df, kn, fm, y, wv, rfl, S, ss, hwv, hy, hn0, hq⟩
    refine (?_ : GS _ H ([.v (.ref a), .d (.int ((n0 + 1 : Nat) : Int)), .d (.tup [ti y])] ++ [.no, .no, .no, .no, .no, .no, .no, .no, .no, .no]) _ _) _ _ (fm_start (as := [.v (.ref a), .d (.int ((n0 + 1 : Nat) : Int)), .d (.tup [ti y])]) ⟨_, _, rfl, rfl, _, _, rfl, rfl, _, _, rfl, hwv, rfl⟩ (Nat.le_of_ble_eq_true rfl))
    obtain ⟨m, hlow, hRs, hll⟩ := low_succ hn0
    have okm : Ok24 (m :: low R n0) := hlow ▸ ok.low (n0 + 1)
    have hm24 := okm.hd
    obtain ⟨v, q, ey, hv, q0, q1⟩ := (show Ends2 (m :: low R n0) y from hlow ▸ hy).nd okm
    subst ey
    have hlen : ∀ x ∈ famW (low R n0) m, x.length = n0 + 1 := fun x hx => by
      have : Nd (low R (n0 + 1)) x := hlow ▸ famW_nd hx
      exact this.len ok (by omega)
    have hfl : (famW (low R n0) m).length ≤ 6 := by
      unfold famW
      rw [List.length_map, gapsD_len]; omega
    cases hc : dget fm (famD (n0 + 1) (v ++ [q])) with
    | some c =>
      refine gs_when (gt_of (gt_din C (ge_tup (ds := [.int ((n0 + 1 : Nat) : Int), .tup [ti (v ++ [q])]]) (gac (ge_var 1) (gac1 (ge_var 2)))) (gv_fams T S (gv_var 0 rfl (fun q => by cases q))) S.fm (fam_dep _ _)) (by rw [show D.tup [.int ((n0 + 1 : Nat) : Int), .tup [ti (v ++ [q])]] = famD (n0 + 1) (v ++ [q]) from rfl, hc]; rfl)) ?_
      refine gs_retN fun H' s => ?_
      exact hq .non H H' Core.refl s ⟨kn, fm, S, ss, Ex.refl, by rw [hc]; rfl⟩
    | none =>
      refine gs_unless (gt_of (gt_din C (ge_tup (ds := [.int ((n0 + 1 : Nat) : Int), .tup [ti (v ++ [q])]]) (gac (ge_var 1) (gac1 (ge_var 2)))) (gv_fams T S (gv_var 0 rfl (fun q => by cases q))) S.fm (fam_dep _ _)) (by rw [show D.tup [.int ((n0 + 1 : Nat) : Int), .tup [ti (v ++ [q])]] = famD (n0 + 1) (v ++ [q]) from rfl, hc]; rfl)) ?_
      refine gs_dset C (gy_of ge_bl) fun vv G1 ⟨s1, r1⟩ => ⟨df, fm, [.int ((n0 + 1 : Nat) : Int), .tup [ti (v ++ [q])]], .bl true, (S.mono s1).fm, r1, gv_fams T (S.mono s1) (gv_var 0 rfl (fun q => by cases q)), ge_tup (ds := [.int ((n0 + 1 : Nat) : Int), .tup [ti (v ++ [q])]]) (gac (ge_var 1) (gac1 (ge_var 2))), fm_small hR ss, fam_dep _ _, fun G2 c2 hd2 => ?_⟩
      have S2 := (S.mono s1).setF c2 hd2
      have c02 : Core (Zs dk df) H G2 := (Core.of s1).trans (core_f c2)
      have ss2 : SS R (n0 + 1) kn (dset fm (famD (n0 + 1) (v ++ [q])) (.bl true)) := ⟨(ss.good.down (by omega)).highF (Nat.le_refl _), ss.ko, ss.fo.set (n := n0 + 1) (by omega) hy⟩
      clear s1 r1 c2 hd2
      refine gs_setLcI C 3 [("gap", 9), ("way", 10)] (els := gapsD (low R n0) m) (js := [9]) (ws := [10]) (fun d Γ => Γ.set 9 (.d d)) (fun d => [gWord d]) (gi_tup (ge_ixT (d := .tup (gapsD (low R n0) m)) (ge_ixT (d := boltD m (low R n0)) (ge_lockF T S2 (gv_var 0 rfl (fun q => by cases q))) (ge_sub (ge_var 1) ge_int) ?_) ge_int)) ?_ ?_ ?_ ?_ ?_
      · have e : ((n0 + 1 : Nat) : Int) - 1 = (((low R n0).length : Nat) : Int) := by rw [hll]; omega
        rw [e]
        have := lock_get (R.take (R.length - 1 - n0)) (low R n0) m
        rw [← hRs] at this
        exact atI_nat this
      · intro d hd s H C' cl fp
        exact tg_name C.blk 9
      · intro d hd
        exact no_set no_id
      · intro Hb s0 d hd s H C' cl fp
        obtain ⟨h', t', w', rfl, _, hw', _⟩ := gapsD_mem okm hd
        have hwl : w'.length ≤ 100 := by rw [hw'.len, hll]; omega
        refine gb_of (gb_last (els := [ti w']) (js := [10]) (outs := fun _ => gWord (gapD h' t' w')) (by exact C.hc) rfl [10] (fun d Γ => Γ.set 10 (.d d)) (gi_tup (ge_ixT (d := .tup [ti w']) (ge_var (x := gapD h' t' w') 9) ge_int)) ?_ ?_ ?_) rfl
        · intro d hd
          exact tg_name C.blk 10
        · intro d hd
          exact no_set no_id
        · intro Hb' s2 d hd
          obtain rfl := List.mem_singleton.mp hd
          refine ge_of (ge_cat' (xs := w'.map D.int) (ys := [.int t']) (ge_var (x := ti w') 10) (ge_tup (ds := [.int t']) (gac1 (ge_ixT (d := .int t') (ge_var (x := gapD h' t' w') 9) ge_int))) ?_) ?_
          · rw [List.length_map]; simp; omega
          · show _ = ti (gW (gapD h' t' w') ++ [gT (gapD h' t' w')])
            rw [gW_gap, gT_gap, ti_snoc]
      · rw [famW_map, List.length_map]; omega
      rw [famW_map]
      refine gs_freeze (xs := (famW (low R n0) m).map ti) 3 fun G3 s3 => ?_
      refine gs_setLcI C 4 [("word", 11), ("at", 12)] (els := (famW (low R n0) m).map ti) (js := [11]) (ws := [12]) (fun d Γ => Γ.set 11 (.d d)) (rowO (v ++ [q])) (gi_var 3) ?_ ?_ ?_ ?_ ?_
      · intro d hd s H C' cl fp
        exact tg_name C.blk 11
      · intro d hd
        exact no_set no_id
      · intro Hb s0 d hd s H C' cl fp
        refine gb_of (gb_last (els := rng 0 1) (js := [12]) (outs := fun _ => .tup [d, ti (v ++ [q])]) (by exact C.hc) rfl [12] (fun d Γ => Γ.set 12 (.d d)) (gi_range1 (hi := 1) (ge_of (ge_lenT (ds := [ti (v ++ [q])]) (ge_var (x := .tup [ti (v ++ [q])]) 2) T.z_len) rfl) T.z_range (by decide) (by decide)) ?_ ?_ ?_) rfl
        · intro d hd
          exact tg_name C.blk 12
        · intro d hd
          exact no_set no_id
        · intro Hb' s2 d' hd'
          obtain ⟨i, hi, rfl⟩ := rng_mem hd'
          have ei : (0 : Int) + (i : Nat) = 0 := by omega
          rw [ei]
          exact ge_cat' (xs := [d]) (ys := [ti (v ++ [q])]) (ge_tup (ds := [d]) (gac1 (ge_var 11))) (ge_slT (ds := [ti (v ++ [q])]) (l := some 0) (u := none) (ge_var (x := .tup [ti (v ++ [q])]) 2) (gp_some (ge_var 12)) gp_none) (Nat.le_of_ble_eq_true rfl)
      · rw [rowO_map, List.length_map]; omega
      rw [rowO_map]
      refine gs_freeze (xs := (famW (low R n0) m).map fun x => rowD x (v ++ [q])) 4 fun G4 s4 => ?_
      have S4 := (S2.mono s3).mono s4
      have c04 : Core (Zs dk df) H G4 := (c02.then s3).then s4
      clear S2 s3 s4 c02
      refine gs_setY C 5 gy_new fun vv G5 ⟨dt, ev, hdt, s5, hd5⟩ => ⟨.v (.ref dt), ev, ?_⟩
      clear ev
      obtain ⟨na, ndk, ndf⟩ := S4.nd hdt
      have nzd : ¬ Zs dk df dt := fun z => z.elim (fun e => ndk e.symm) fun e => ndf e.symm
      have S5 := S4.mono s5
      have nc5 : NotDc G5 a dt := (S4.notDc hdt).core S4 (Core.of (Z := Zs dk df) s5) S4.aNotZ
      have c05 : Core (Zs dk df) H G5 := c04.then s5
      have hHdt : H dt = none := by
        cases hh : H dt with
        | none => rfl
        | some o =>
          have := c04 dt o hh nzd
          rw [hdt] at this; cases this
      have hext5 : ∀ x, (Zs dk df x ∨ x = dt) → (∃ φ, G5 x = some (.ext φ)) ∧ K.lookup x = none := fun x hx => by
        rcases hx with hx | rfl
        · exact S5.zext x hx
        · exact hd5.ext
      obtain ⟨nkd, xs5, hdd5, hda5⟩ := hd5
      have hx0 : xs5 = [] := hda5
      subst hx0
      have naz : ¬ (Zs dk df a ∨ a = dt) := fun z => z.elim S5.aNotZ na
      have key1 : ∀ Hc G, Core (fun x => Zs dk df x ∨ x = dt) G5 Hc → Same Hc G → Core (Zs dk df) H G := fun Hc G c s x o e n => s x o (c x o (c05 x o e n) fun z => z.elim n fun e2 => by rw [e2, hHdt] at e; cases e)
      refine gs_forX (els := (famW (low R n0) m).map fun x => rowD x (v ++ [q])) C (js := [6]) (fun d Γ => Γ.set 6 (.d d)) (fun x => Zs dk df x ∨ x = dt)
        (fun _ i G' Γ' => ∃ kn' fm' wl xs, Sv P w K R a dk df G' kn' fm' ∧ SS R (n0 + 1) kn' fm' ∧ L1 R n0 m (v ++ [q]) q kn (dset fm (famD (n0 + 1) (v ++ [q])) (.bl true)) kn' fm' i ∧ NotDc G' a dt ∧ G' dt = some (DicO P w dt xs) ∧ TAll K G' (low R n0) m (v ++ [q]) wl xs ∧ wl.length ≤ i ∧ (∀ x, x ∈ wl ↔ x ∈ (famW (low R n0) m).take i ∧ x.getLastD 0 ≠ q) ∧
          Γ' = [.v (.ref a), .d (.int ((n0 + 1 : Nat) : Int)), .d (.tup [ti (v ++ [q])]), .bw ((famW (low R n0) m).map ti), .bw ((famW (low R n0) m).map fun x => rowD x (v ++ [q])), .v (.ref dt), .no, .no, .no, .no, .no, .no, .no])
        (gi_var 4) (fun i d hd => tg_name C 6) (zok_ext hext5) ?_ ?_ ?_
      · intro Hc G c1 c2 c3 _
        refine ⟨kn, _, [], [], S5.mono c2, ss2, ⟨fun _ _ h => h, fun _ _ _ _ => rfl, fun _ h => h, fun _ _ _ => rfl, fun x hx hxq => ?_, fun x hx => by simp at hx⟩, nc5.core S5 (Core.of (Z := Zs dk df) c2) S5.aNotZ, c2 _ _ hdd5, rfl, Nat.le_refl _, fun x => by simp, rfl⟩
        cases hcx : dget kn (rowD x (v ++ [q])) with
        | none => exact .inl rfl
        | some c =>
          right
          have := ss.good.ex (n0 + 1) (by omega) (by omega) x (v ++ [q]) c (hlow ▸ famW_nd hx) hy hcx
          unfold Fin
          rw [hcx, this, hlow]
      · intro Hc core cz i d hd G Γ' cg ⟨kn', fm', wl, xs, S', ss', L', nc', hdd', ht', hwl', hwm', eΓ⟩
        subst eΓ
        rw [List.getElem?_map] at hd
        obtain ⟨x, hx, rfl⟩ := Option.map_eq_some_iff.mp hd
        have hxm := List.mem_of_getElem? hx
        obtain ⟨u, p, ex, hu, p0, p1⟩ := famW_nd hxm
        subst ex
        have hxn : Nd (low R (n0 + 1)) (u ++ [p]) := hlow ▸ famW_nd hxm
        have hile : i < 6 := by
          have := (List.getElem?_eq_some_iff.mp hx).1
          omega
        have fix : ∀ G2, Core (fun x => Zs dk df x ∨ x = dt) G G2 → Same Hc G2 := fun G2 c x o e => c x o (cg x o e) fun z => by
          have := cz x z
          rw [e] at this; cases this
        have naz' : ¬ Zs dk df a := S'.aNotZ
        by_cases hpq : q = p
        · subst hpq
          refine gs_when (gt_of (gt_val (ge_call (c_is_still T) (C.hr.mono hk) (gac1 (ge_var (x := rowD (u ++ [q]) (v ++ [q])) 6)) ⟨u, v, q, q, rfl, rfl⟩)) (decide_eq_true rfl)) ?_
          refine gs_exprY (gy_still Ms C.hr (gv_var 0 rfl (fun q => by cases q)) S' ss' (ge_var 6) hxn hy hn0 ?_) fun _ G6 ⟨c6, kn6, fm6, S6, ss6, ex6, hg6⟩ => gs_end (gs_nil fun σ H2 F => ?_)
          · rcases L'.so _ hxm (List.getLastD_concat ..) with h | h
            · exact .inl h
            · refine .inr ⟨rfl, ?_⟩
              have h' : dget kn' (rowD (u ++ [q]) (v ++ [q])) = some (exC (m :: low R n0) (u ++ [q]) (v ++ [q])) := h
              rw [h', hlow]
          · refine ⟨G6, _, fix G6 fun x o e n => c6 x o e fun z => n (.inl z), ⟨kn6, fm6, wl, xs, S6, ss6, L'.still hx (List.getLastD_concat ..) hlow hlen ex6 hg6, nc'.core S' c6 naz', c6 _ _ hdd' nzd, ht'.core (fun x z => (S'.zext x z).1) c6, by omega, fun z => ?_, rfl⟩, ?_⟩
            · rw [hwm' z, List.take_add_one, hx, List.mem_append]
              constructor
              · rintro ⟨h1, h2⟩
                exact ⟨.inl h1, h2⟩
              · rintro ⟨h1 | h1, h2⟩
                · exact ⟨h1, h2⟩
                · have ez : z = u ++ [q] := by simpa using h1
                  rw [ez, List.getLastD_concat] at h2
                  exact absurd rfl h2
            · exact F.weak ⟨.inr rfl, .inr rfl, .inr rfl, .inr rfl, .inr rfl, .inr rfl, .inl rfl, .inr rfl, .inr rfl, .inr rfl, .inr rfl, .inr rfl, .inr rfl, trivial⟩
        · have hne : p ≠ q := fun z => hpq z.symm
          have hlast : (u ++ [p]).getLastD 0 = p := List.getLastD_concat ..
          have hnone : dget kn' (rowD (u ++ [p]) (v ++ [q])) = none := by
            rw [L'.k2 _ _ (by rw [hlen _ hxm]; exact Nat.le_refl _) fun z => hne (by rw [← hlast]; exact z.2.2)]
            cases hcx : dget kn (rowD (u ++ [p]) (v ++ [q])) with
            | none => rfl
            | some c =>
              have := ss.good.nst n0 m (by omega) hn0 hlow u p v q hxn hy hne (by rw [hcx]; rfl)
              rw [hc] at this; cases this
          refine gs_else (gt_of (k := false) (gt_val (ge_call (c_is_still T) (C.hr.mono hk) (gac1 (ge_var (x := rowD (u ++ [p]) (v ++ [q])) 6)) ⟨u, v, p, q, rfl, rfl⟩)) (decide_eq_false hpq)) ?_
          refine gs_when (gt_of (gt_dnin C (ge_var (x := rowD (u ++ [p]) (v ++ [q])) 6) (gv_known T S' (gv_var 0 rfl (fun q => by cases q))) S'.kn (row_dep _ _)) (by rw [show D.tup [ti (u ++ [p]), ti (v ++ [q])] = rowD (u ++ [p]) (v ++ [q]) from rfl, hnone]; rfl)) ?_
          refine gs_dsetV C (gy_turns Mt C.hr (gv_var 0 rfl (fun q => by cases q)) S' ss' (ge_var (x := rowD (u ++ [p]) (v ++ [q])) 6) hlow hn0 hxn hy hpq) fun vv G6 ⟨c6, kn6, fm6, l, vs, S6, ss6, ex6, evv, hl0, hl6, hr6⟩ => ?_
          have ht6 := ht'.core (fun x z => (S'.zext x z).1) c6
          have hdd6 := c6 _ _ hdd' nzd
          have nc6 := nc'.core S' c6 naz'
          refine ⟨dt, xs, [ti (u ++ [p]), ti (v ++ [q])], nkd, hdd6, ht6.kall, gv_var 5 rfl (fun q => by cases q), ge_var (x := rowD (u ++ [p]) (v ++ [q])) 6, by rw [ht6.len]; omega, row_dep _ _, fun G7 b c7 rb hdd7 => ?_⟩
          subst evv
          have tp7 : Tps K G6 G7 := tps_d (fun ys e => by rw [hdd6] at e; cases e) (fun ob ys e => by rw [hdd6] at e; cases e) c7
          have S7 := S6.coreD na ndk ndf nc6 c7 tp7
          have nl : l ≠ dt := fun z => by rw [z, hdd6] at hl6; cases hl6
          have ht7 : TAll K G7 (low R n0) m (v ++ [q]) (wput wl (u ++ [p])) (putX xs (rowD (u ++ [p]) (v ++ [q])).key b (.ref l)) := by
            refine TAll.put rb (c7 _ _ hl6 nl) ?_ (ht6.core (fun x z => by subst z; exact ⟨_, hdd6⟩) c7)
            rw [turnsX_snoc]
            have : ∀ {ds : List D} {vs : List V}, RpAll K G6 ds vs → RpAll K G7 ds vs := fun h => h.mono tp7
            exact this hr6
          refine gs_end (gs_end (gs_nil fun σ H2 F => ⟨G7, _, fix G7 ?_, ⟨kn6, fm6, wput wl (u ++ [p]), _, S7, ss6, L'.turn hx (by rw [hlast]; exact hne) hlen ex6, nc6.core S6 c7 na, hdd7, ht7, ?_, fun z => ?_, rfl⟩, ?_⟩))
          · exact fun x o e n => c7 x o (c6 x o e fun z => n (.inl z)) fun z => n (.inr z)
          · have : ∀ (l : List (List Int)) x, (wput l x).length ≤ l.length + 1 := by
              intro l x
              induction l with
              | nil => exact Nat.le_refl _
              | cons c l ih =>
                unfold wput
                split
                · exact Nat.le_succ _
                · simpa using ih
            have := this wl (u ++ [p])
            omega
          · rw [wput_mem, hwm' z, List.take_add_one, hx, List.mem_append]
            constructor
            · rintro (h1 | ⟨h1, h2⟩)
              · rw [h1, hlast]
                exact ⟨.inr (by simp), hne⟩
              · exact ⟨.inl h1, h2⟩
            · rintro ⟨h1 | h1, h2⟩
              · exact .inr ⟨h1, h2⟩
              · exact .inl (by simpa using h1)
          · exact F.weak ⟨.inr rfl, .inr rfl, .inr rfl, .inr rfl, .inr rfl, .inr rfl, .inl rfl, .inr rfl, .inr rfl, .inr rfl, .inr rfl, .inr rfl, .inr rfl, trivial⟩
      · intro Hc core cz G Γ' cg ⟨kn1, fm1, wl, xs, S1, ss1, LL, nc1, hdd1, ht1, hwl1, hwm1, eΓ⟩
        subst eΓ
        rw [List.length_map] at LL hwl1 hwm1
        have cG := key1 Hc G core cg
        have W : WsOk (low R n0) m q wl := ⟨fun x hx => by
          obtain ⟨h1, h2⟩ := (hwm1 x).mp hx
          exact ⟨List.mem_of_mem_take h1, h2⟩, fun x hx hxq => (hwm1 x).mpr ⟨by rw [List.take_length]; exact hx, hxq⟩⟩
        clear key1 core cz cg hwm1
        have hwll : wl.length ≤ 6 := by omega
        have hfx : ∀ Hc G G2 : Hp, (∀ a, Zs dk df a → Hc a = none) → Same Hc G → Core (Zs dk df) G G2 → Same Hc G2 := fun Hc G G2 cz cg c x o e => c x o (cg x o e) fun z => by
          have := cz x z
          rw [e] at this; cases this
        have hext1 : ∀ x, (Zs dk df x ∨ x = dt) → ∃ φ, G x = some (.ext φ) := fun x hx => by
          rcases hx with hx | rfl
          · exact (S1.zext x hx).1
          · exact ⟨_, hdd1⟩
        have hlen1 := ht1.len
        refine gs_lockKeys C (js := [6]) (kd := wl.map fun x => rowD x (v ++ [q])) (fun d Γ => Γ.set 6 (.d d)) (Zs dk df)
          (fun _ i G' Γ' => ∃ kn2, Sv P w K R a dk df G' kn2 fm1 ∧ SS R (n0 + 1) kn2 fm1 ∧ NotDc G' a dt ∧ (∀ d : D, (∀ x ∈ wl.take i, d.key ≠ (rowD x (v ++ [q])).key) → dget kn2 d = dget kn1 d) ∧ (∀ x ∈ wl.take i, dget kn2 (rowD x (v ++ [q])) = some noneC) ∧
            Γ' = [.v (.ref a), .d (.int ((n0 + 1 : Nat) : Int)), .d (.tup [ti (v ++ [q])]), .bw ((famW (low R n0) m).map ti), .bw ((famW (low R n0) m).map fun x => rowD x (v ++ [q])), .v (.ref dt), .no, .no, .no, .no, .no, .no, .no])
          hdd1 nkd nzd (by rw [hlen1, List.length_map]) (fun i en e => by
            obtain ⟨x, h1, _, h2, _⟩ := ht1.get i en e
            exact ⟨rowD x (v ++ [q]), by rw [List.getElem?_map, h1]; rfl, h2⟩) (fun G' _ => gv_var 5 rfl (fun q => by cases q)) (fun i d hd => tg_name C 6) S1.zext ?_ ?_ ?_
        · intro od Hc G' c1 c2 c3 _
          have S1' := S1.coreD na ndk ndf nc1 (upd_coreD (o := .frz od (DicO P w dt xs))) (tps_d (fun ys e => by rw [hdd1] at e; cases e) (fun ob ys e => by rw [hdd1] at e; cases e) upd_coreD)
          have nc1' := nc1.core S1 (upd_coreD (o := .frz od (DicO P w dt xs))) na
          exact ⟨kn1, S1'.mono c2, ss1, nc1'.core S1' (Core.of (Z := Zs dk df) c2) S1.aNotZ, fun _ _ => rfl, fun x hx => by simp at hx, rfl⟩
        · intro od Hc core cz i d hd G' Γ' cg ⟨kn2, S2, ss2', nc2, ho, hn, eΓ⟩
          subst eΓ
          rw [List.getElem?_map] at hd
          obtain ⟨x, hx, rfl⟩ := Option.map_eq_some_iff.mp hd
          have hxm := List.mem_of_getElem? hx
          have hxl := hlen x (W.sub x hxm).1
          refine gs_dset C (gy_of (ge_tup (ds := [.non, belowD]) (gac ge_non (gac1 (ge_tup (ds := [.str "below"]) (gac1 ge_str)))))) fun vv G6 ⟨s6, r6⟩ => ⟨dk, kn2, [ti x, ti (v ++ [q])], noneC, (S2.mono s6).kn, r6, gv_known T (S2.mono s6) (gv_var 0 rfl (fun q => by cases q)), ge_var (x := rowD x (v ++ [q])) 6, kn_small ok hR ss2', row_dep _ _, fun G7 c7 hd7 => ?_⟩
          refine gs_nil fun σ H2 F => ⟨G7, _, hfx Hc G' G7 cz cg ((Core.of s6).trans (core_k c7)), ⟨_, (S2.mono s6).setK c7 hd7, ⟨ss2'.good.high ok (Nat.le_refl _) hxl, ss2'.ko.set (n := n0 + 1) (by omega) (hlow ▸ famW_nd (W.sub x hxm).1) hy, ss2'.fo⟩, (nc2.core S2 (Core.of (Z := Zs dk df) s6) S2.aNotZ).core (S2.mono s6) (core_k c7) S2.aNotZ, fun d hd => ?_, fun x' hx' => ?_, rfl⟩, ?_⟩
          · rw [List.take_add_one, hx] at hd
            rw [dget_dset, if_neg fun z => hd x (List.mem_append.mpr (.inr (by simp))) z.symm]
            exact ho d fun x' h' => hd x' (List.mem_append.mpr (.inl h'))
          · rw [List.take_add_one, hx] at hx'
            rw [dget_dset]
            split
            · rfl
            · rename_i hk
              rcases List.mem_append.mp hx' with h | h
              · exact hn x' h
              · have ex : x' = x := by simpa using h
                rw [ex] at hk
                exact absurd rfl hk
          · exact F.weak ⟨.inr rfl, .inr rfl, .inr rfl, .inr rfl, .inr rfl, .inr rfl, .inl rfl, .inr rfl, .inr rfl, .inr rfl, .inr rfl, .inr rfl, .inr rfl, trivial⟩
        · intro od Hc core cz G' Γ' cg ⟨kn2, S2, ss2', nc2, ho, hn, eΓ⟩
          subst eΓ
          rw [List.length_map, List.take_length] at ho hn
          have hfz : G' dt = some (.frz od (DicO P w dt xs)) := cg _ _ (core dt _ upd_same nzd)
          have tpx : Tps K G' (upd G' dt (DicO P w dt xs)) := tps_d (fun ys e => by rw [hfz] at e; cases e) (fun ob ys e => by rw [hfz] at e; cases e) upd_coreD
          have S3 := S2.coreD na ndk ndf nc2 (upd_coreD (o := DicO P w dt xs)) tpx
          have nc3 := nc2.core S2 (upd_coreD (o := DicO P w dt xs)) na
          have cc := lock_core (o2 := DicO P w dt xs) core cg
          have ht3 := ht1.core hext1 cc
          have c03 : Core (Zs dk df) H (upd G' dt (DicO P w dt xs)) := fun x o e n => cc x o (cG x o e n) fun z => z.elim n fun e2 => by rw [e2, hHdt] at e; cases e
          have F2 : FI (low R n0) m (v ++ [q]) q wl kn1 kn2 := ⟨ho, fun x hx => .inl (hn x hx), fun x hx hf => by
            unfold Fin at hf
            rw [hn x hx] at hf
            exact absurd (Option.some.inj hf) (none_ne _ _ _)⟩
          have hst : ∀ x ∈ famW (low R n0) m, x.getLastD 0 = q → Fin (low R n0) m (v ++ [q]) kn1 x := fun x hx hxq => LL.st x (by rw [List.take_length]; exact hx) hxq
          have hdd8 : upd G' dt (DicO P w dt xs) dt = some (DicO P w dt xs) := upd_same
          clear core cz cg ht1 hfz tpx cc S2 nc2 ho hn S1 nc1 hdd1 hext1
          refine gs_set C 7 ge_bl ?_
          refine gs_whileX C (fun M G Γ' => ∃ kn3 b, M = 2 * cnt (v ++ [q]) wl kn3 + (if b = true then 1 else 0) ∧ Sv P w K R a dk df G kn3 fm1 ∧ SS R (n0 + 1) kn3 fm1 ∧ NotDc G a dt ∧ G dt = some (DicO P w dt xs) ∧ TAll K G (low R n0) m (v ++ [q]) wl xs ∧ FI (low R n0) m (v ++ [q]) q wl kn1 kn3 ∧ (b = false → ∀ x ∈ wl, dget kn3 (rowD x (v ++ [q])) = some noneC → ¬ Fin (low R n0) m (v ++ [q]) kn3 (fwdW (low R n0) (x.getLastD 0) q)) ∧ Core (Zs dk df) H G ∧
              Γ' = [.v (.ref a), .d (.int ((n0 + 1 : Nat) : Int)), .d (.tup [ti (v ++ [q])]), .bw ((famW (low R n0) m).map ti), .bw ((famW (low R n0) m).map fun x => rowD x (v ++ [q])), .v (.ref dt), .no, .d (.bl b), .no, .no, .no, .no, .no])
            _ ⟨kn2, true, rfl, S3, ss2', nc3, hdd8, ht3, F2, fun z => (by cases z), c03, rfl⟩ ?_
          rintro M G Γ' ⟨kn3, b, rfl, S4, ss4, nc4, hdd4, ht4, F4, hcl, c4, eΓ⟩
          subst eΓ
          refine ⟨b, gt_val (ge_var (x := .bl b) 7), fun eb => ?_, fun eb => ?_⟩
          · subst eb
            refine gs_set C 7 ge_bl ?_
            have hlen4 := ht4.len
            have hext4 : ∀ x, (Zs dk df x ∨ x = dt) → ∃ φ, G x = some (.ext φ) := fun x hx => by
              rcases hx with hx | rfl
              · exact (S4.zext x hx).1
              · exact ⟨_, hdd4⟩
            refine gs_lockItems C 6 8 (kv := wl.map fun x => (rowD x (v ++ [q]), turnsX (low R n0) m (v ++ [q]) x)) (Zs dk df)
              (fun _ i G' Γ' => ∃ kn4 fl, Sv P w K R a dk df G' kn4 fm1 ∧ SS R (n0 + 1) kn4 fm1 ∧ NotDc G' a dt ∧ FI (low R n0) m (v ++ [q]) q wl kn1 kn4 ∧ (fl = true → cnt (v ++ [q]) wl kn4 < cnt (v ++ [q]) wl kn3) ∧ (fl = false → kn4 = kn3 ∧ ∀ x ∈ wl.take i, dget kn3 (rowD x (v ++ [q])) = some noneC → ¬ Fin (low R n0) m (v ++ [q]) kn3 (fwdW (low R n0) (x.getLastD 0) q)) ∧
                Γ' = [.v (.ref a), .d (.int ((n0 + 1 : Nat) : Int)), .d (.tup [ti (v ++ [q])]), .bw ((famW (low R n0) m).map ti), .bw ((famW (low R n0) m).map fun x => rowD x (v ++ [q])), .v (.ref dt), .no, .d (.bl fl), .no, .no, .no, .no, .no])
              hdd4 nkd nzd (by rw [hlen4, List.length_map]) (fun i en e => by
                obtain ⟨x, h1, _, h2, l, vs, h3, h4, h5⟩ := ht4.get i en e
                exact ⟨rowD x (v ++ [q]), turnsX (low R n0) m (v ++ [q]) x, by rw [List.getElem?_map, h1]; rfl, h2, l, vs, h3, h4, h5⟩) (fun G' _ => gv_var 5 rfl (fun q => by cases q)) S4.zext ?_ ?_ ?_
            · intro od Hc G' c1 c2 c3 _
              have S4' := S4.coreD na ndk ndf nc4 (upd_coreD (o := .frz od (DicO P w dt xs))) (tps_d (fun ys e => by rw [hdd4] at e; cases e) (fun ob ys e => by rw [hdd4] at e; cases e) upd_coreD)
              have nc4' := nc4.core S4 (upd_coreD (o := .frz od (DicO P w dt xs))) na
              exact ⟨kn3, false, S4'.mono c2, ss4, nc4'.core S4' (Core.of (Z := Zs dk df) c2) S4.aNotZ, F4, fun z => (by cases z), fun _ => ⟨rfl, fun x hx => by simp at hx⟩, rfl⟩
            · intro od Hc core cz i d ds hd G' Γ' cg ⟨kn4, fl, S5', ss5, nc5', F5, hf1, hf2, eΓ⟩
              subst eΓ
              rw [List.getElem?_map] at hd
              obtain ⟨x, hx, exd⟩ := Option.map_eq_some_iff.mp hd
              obtain ⟨rfl, rfl⟩ : rowD x (v ++ [q]) = d ∧ turnsX (low R n0) m (v ++ [q]) x = ds := by
                injection exd with e1 e2
                exact ⟨e1, e2⟩
              have hxw := List.mem_of_getElem? hx
              obtain ⟨hxm, hxl⟩ := W.sub x hxw
              obtain ⟨u, p, ex, hu, p0, p1⟩ := famW_nd hxm
              subst ex
              rw [List.getLastD_concat] at hxl
              have hpq : q ≠ p := fun z => hxl z.symm
              have hxn : Nd (low R (n0 + 1)) (u ++ [p]) := hlow ▸ famW_nd hxm
              have hlast : (u ++ [p]).getLastD 0 = p := List.getLastD_concat ..
              rw [turnsX_snoc]
              -- the row's cell
              have hcur : ∃ cur : Option Int × D, dget kn4 (rowD (u ++ [p]) (v ++ [q])) = some (cellD cur) ∧
                  ((lessF (woK (low R n0) m (v ++ [q]) kn4) (cur, false) (turnsOf (low R n0) m u p) = (cur, false) ∧ (dget kn4 (rowD (u ++ [p]) (v ++ [q])) = some noneC → ¬ Fin (low R n0) m (v ++ [q]) kn4 (fwdW (low R n0) p q))) ∨
                   (dget kn4 (rowD (u ++ [p]) (v ++ [q])) = some noneC ∧ Fin (low R n0) m (v ++ [q]) kn4 (fwdW (low R n0) p q) ∧ ∃ c, lessF (woK (low R n0) m (v ++ [q]) kn4) (cur, false) (turnsOf (low R n0) m u p) = (c, true) ∧ cellD c = exC (m :: low R n0) (u ++ [p]) (v ++ [q]))) := by
                have wx : Wd (m :: low R n0) (u ++ [p]) := hlow ▸ hxn.wd (ok.low _)
                have wy : Wd (m :: low R n0) (v ++ [q]) := hlow ▸ hy.wd (ok.low _)
                rcases F5.cell _ hxw with h | h
                · refine ⟨(none, belowD), h, ?_⟩
                  by_cases hf : Fin (low R n0) m (v ++ [q]) kn4 (fwdW (low R n0) p q)
                  · exact .inr ⟨h, hf, _, (FI.less_fin okm wx wy rfl hpq hf).1, (exC_cell u v hpq).symm⟩
                  · exact .inl ⟨F5.less_no W p0 p1 q0 q1 hpq hf _, fun _ => hf⟩
                · have hb := F5.clo _ hxw h
                  rw [hlast] at hb
                  have h' : dget kn4 (rowD (u ++ [p]) (v ++ [q])) = some (exC (m :: low R n0) (u ++ [p]) (v ++ [q])) := h
                  refine ⟨(some (exV (m :: low R n0) (u ++ [p]) (v ++ [q])), gapT (low R n0) p (stepT p q)), by rw [h', exC_cell u v hpq], .inl ⟨(FI.less_fin okm wx wy rfl hpq hb).2, fun z => ?_⟩⟩
                  rw [h'] at z
                  exact absurd (Option.some.inj z).symm (none_ne _ _ _)
              obtain ⟨cur, hcg, hres⟩ := hcur
              have hgl := gapsAt_len okm p
              have htl : (turnsOf (low R n0) m u p).length ≤ 1000 := by
                unfold turnsOf
                rw [List.length_map]; omega
              have hwo : ∀ t ∈ turnsOf (low R n0) m u p, t.x ≠ u ++ [p] ∧ ∃ tl, dget kn4 (rowD t.x (v ++ [q])) = some (cellD (woK (low R n0) m (v ++ [q]) kn4 t.x, tl)) := fun t ht => by
                obtain ⟨tt, h1, h2, h3, ext, hfm⟩ := turn_at p0 p1 ht
                refine ⟨fun z => ?_, woK_cell (F5.known W hst hfm)⟩
                rw [ext] at z
                have := (List.append_inj' z rfl).2
                injection this with this
                omega
              obtain ⟨dx, fs, hG, hl⟩ := S5'.ins (m := "lessen") (fun _ _ _ _ _ => rfl)
              refine gs_setY C 7 (gy_or (Φ := fun vv G2 => Core (Zs dk df) G' G2 ∧ ∃ kn5, Sv P w K R a dk df G2 kn5 fm1 ∧ LessPost kn4 kn5 (u ++ [p]) (v ++ [q]) (lessF (woK (low R n0) m (v ++ [q]) kn4) (cur, false) (turnsOf (low R n0) m u p)) ∧ vv = .bl ((lessF (woK (low R n0) m (v ++ [q]) kn4) (cur, false) (turnsOf (low R n0) m u p)).2 || fl))
                (gy_meth (Z := Zs dk df) (as := [.d (rowD (u ++ [p]) (v ++ [q])), .bw ((turnsOf (low R n0) m u p).map (tnD (v ++ [q])))]) (post := fun vv G2 => ∃ kn5, Sv P w K R a dk df G2 kn5 fm1 ∧ LessPost kn4 kn5 (u ++ [p]) (v ++ [q]) (lessF (woK (low R n0) m (v ++ [q]) kn4) (cur, false) (turnsOf (low R n0) m u p)) ∧ vv = .bl (lessF (woK (low R n0) m (v ++ [q]) kn4) (cur, false) (turnsOf (low R n0) m u p)).2)
                  (c_lessen T R) (C.hr.mono hk) (gv_var 0 rfl (fun q => by cases q)) hG hl (gac (ge_var 6) (ga1 (gb_var 8))) (zok_ext S5'.zext) (fun vs H2 Q2 s r hq2 => ?_) (fun vv H2 G1 G2 t ⟨kn5, z1, z2⟩ => ⟨kn5, z1.tra t, z2⟩))
                (fun vv G2 ⟨c2, kn5, z1, z2, z3⟩ => ⟨_, fl, z3, ge_var 7, fun G3 s3 => ⟨c2.then s3, kn5, z1.mono s3, z2, rfl⟩⟩)) fun vv G2 ⟨c2, kn5, S6, LP, evv⟩ => ⟨.d (.bl _), evv, gs_nil fun σ H2 F => ?_⟩
              · obtain ⟨rowv, r', ev, rr, v2, r'', ev2, ⟨l, tv, el, sq, rp⟩, er⟩ := r
                subst ev; subst ev2; subst el; cases er
                exact ⟨a, dk, df, kn4, fm1, u ++ [p], v ++ [q], turnsOf (low R n0) m u p, cur, woK (low R n0) m (v ++ [q]) kn4, rowv, l, tv, rfl, S5'.mono s, rr, sq, rp, htl, kn_small ok hR ss5, hcg, hwo, fun vv G1 H' c1 s1 pp => hq2 vv G1 H' c1 s1 pp⟩
              · have nc6 := nc5'.core S5' c2 S5'.aNotZ
                have ss6 : SS R (n0 + 1) kn5 fm1 := ⟨ss5.good.but ok (Nat.le_refl _) (hlen _ hxm) LP.oth, ss5.ko.same LP.keys, ss5.fo⟩
                refine ⟨G2, _, hfx Hc G' G2 cz cg c2, ⟨kn5, (lessF (woK (low R n0) m (v ++ [q]) kn4) (cur, false) (turnsOf (low R n0) m u p)).2 || fl, S6, ss6, nc6, ?_, ?_, ?_, rfl⟩, F.weak ⟨.inr rfl, .inr rfl, .inr rfl, .inr rfl, .inr rfl, .inr rfl, .inl rfl, .inr rfl, .inl rfl, .inr rfl, .inr rfl, .inr rfl, .inr rfl, trivial⟩⟩
                · rcases hres with ⟨h1, _⟩ | ⟨h1, h2, c, h3, h4⟩
                  · rw [h1] at LP
                    rw [LP.no rfl]; exact F5
                  · rw [h3] at LP
                    refine F5.put hxw ?_ LP.oth (by rw [hlast]; exact h2)
                    unfold Fin
                    rw [LP.at_, h4]
                · rcases hres with ⟨h1, _⟩ | ⟨h1, h2, c, h3, h4⟩
                  · rw [h1] at LP ⊢
                    rw [LP.no rfl]; exact hf1
                  · rw [h3] at LP
                    have hdec : cnt (v ++ [q]) wl kn5 < cnt (v ++ [q]) wl kn4 := cnt_put (rs := low R n0) (m := m) hxw h1 (by unfold Fin; rw [LP.at_, h4]) LP.oth
                    intro _
                    cases fl with
                    | true => exact Nat.lt_trans hdec (hf1 rfl)
                    | false => rw [(hf2 rfl).1] at hdec; exact hdec
                · rcases hres with ⟨h1, h0⟩ | ⟨h1, h2, c, h3, h4⟩
                  · rw [h1] at LP ⊢
                    intro hfl'
                    obtain ⟨e1, e2⟩ := hf2 hfl'
                    refine ⟨(LP.no rfl).trans e1, fun x' hx' => ?_⟩
                    rw [List.take_add_one, hx] at hx'
                    rcases List.mem_append.mp hx' with h | h
                    · exact e2 x' h
                    · have exx : x' = u ++ [p] := by simpa using h
                      rw [exx, hlast, ← e1]; exact h0
                  · rw [h3]
                    intro z; cases z
            · intro od Hc core cz G' Γ' cg ⟨kn4, fl, S5', ss5, nc5', F5, hf1, hf2, eΓ⟩
              subst eΓ
              rw [List.length_map, List.take_length] at hf2
              have hfz : G' dt = some (.frz od (DicO P w dt xs)) := cg _ _ (core dt _ upd_same nzd)
              have tpx : Tps K G' (upd G' dt (DicO P w dt xs)) := tps_d (fun ys e => by rw [hfz] at e; cases e) (fun ob ys e => by rw [hfz] at e; cases e) upd_coreD
              have S6 := S5'.coreD na ndk ndf nc5' (upd_coreD (o := DicO P w dt xs)) tpx
              have nc6 := nc5'.core S5' (upd_coreD (o := DicO P w dt xs)) na
              have cc := lock_core (o2 := DicO P w dt xs) core cg
              have ht6 := ht4.core hext4 cc
              have c06 : Core (Zs dk df) H (upd G' dt (DicO P w dt xs)) := fun x o e n => cc x o (c4 x o e n) fun z => z.elim n fun e2 => by rw [e2, hHdt] at e; cases e
              refine gs_nil fun σ H2 F => ⟨2 * cnt (v ++ [q]) wl kn4 + (if fl = true then 1 else 0), _, _, ?_, ⟨kn4, fl, rfl, S6, ss5, nc6, upd_same, ht6, F5, ?_, c06, rfl⟩, F⟩
              · cases fl with
                | true => have := hf1 rfl; simp; omega
                | false => rw [(hf2 rfl).1]; simp
              · intro z
                obtain ⟨e1, e2⟩ := hf2 z
                rw [e1]; exact e2
          · refine gs_nil fun σ H2 F => ?_
            have hcl' := hcl eb
            have hall : ∀ x ∈ wl, Fin (low R n0) m (v ++ [q]) kn3 x := fun x hx => F4.done W hst q0 q1 hcl' _ x hx (Nat.le_refl _)
            obtain ⟨r1, r2, r3⟩ := fam_done ok hn0 hlow hy ss.good hc LL (Nat.le_refl _) W F4 hall ss4
            exact hq .non G H2 c4 F.ex ⟨kn3, fm1, S4, r1, r2, r3⟩
end
end WB
namespace WB
open PySem PySem.Spec PyProof.Rows L2
/-! ### level by level -/
theorem FnOk.mono {P : Program} {w : World} {K : PySem.W.Frag} {mg : Str → Option Value} {base : Heap} {CX : CXT} {i j : Nat} {f : Addr} {fd : FuncData} {ps : List Str} {sp : Sp} (F : FnOk P w K mg base CX i f fd ps sp) (h : i ≤ j) : FnOk P w K mg base CX j f fd ps sp :=
  ⟨F.len, fun A outer s H as us vs Q E r => F.go A outer s H as us vs Q E (r.mono h)⟩
theorem Mtd.mono {P : Program} {w : World} {K : PySem.W.Frag} {mg : Str → Option Value} {base : Heap} {Cc : Addr} {m : Str} {ps : List Str} {j k : Nat} {sp : Sp} (M : Mtd P w K mg base Cc m ps j sp) (h : j ≤ k) : Mtd P w K mg base Cc m ps k sp := by
  obtain ⟨f, fd, h1, h2, h3⟩ := M.ex
  exact ⟨M.cls, f, fd, h1, h2.mono h, h3⟩
section
variable {P : Program} {w : World} {K : PySem.W.Frag} {mg : Str → Option Value} {base : Heap} {R : List Nat}
theorem c_levels (T : Tx K mg) (ok : Ok24 R) (hR : R.length ≤ 60) : ∀ n : Nat, n ≤ R.length → Mtd P w K mg base (He.ga K "Solver") "reckon" ["self", "row"] (5 * n + 4) (spReckon P w K R anyR n)
  | 0, _ => (c_reckon0 T ok hR).mono (by decide)
  | n + 1, hn => by
    have Mr := c_levels T ok hR n (by omega)
    have Mb : MBest P w K mg base R anyR n (5 * n + 5) := c_best T Mr
    have Rs := c_reckonStill T ok hR (by omega) Mb
    have Bs := c_bestStill T Rs
    have Mt := c_turns T ok hR (by omega) Mb
    have Mf := c_family T ok hR (by omega) Bs (Mt.mono (by omega))
    exact c_reckonS T ok hR (by omega) (by omega) (Mb.mono (by omega)) fun _ => ⟨Mf, Mt.mono (by omega)⟩
/-- best and choice of any row of level n -/
theorem c_bestAll (T : Tx K mg) (ok : Ok24 R) (hR : R.length ≤ 60) {n : Nat} (hn : n ≤ R.length) : MBest P w K mg base R anyR n (5 * n + 5) := c_best T (c_levels T ok hR n hn)
abbrev MChoice (P : Program) (w : World) (K : PySem.W.Frag) (mg : Str → Option Value) (base : Heap) (R : List Nat) (n k : Nat) : Prop := Mtd P w K mg base (He.ga K "Solver") "choice" ["self", "row"] k (spRow P w K R anyR toldD n)
theorem c_choiceAll (T : Tx K mg) (ok : Ok24 R) (hR : R.length ≤ 60) {n : Nat} (hn : n ≤ R.length) : MChoice P w K mg base R n (5 * n + 5) := c_choice T (c_levels T ok hR n hn)
end
end WB
namespace WB
open PySem PySem.Spec PyProof.Rows L2
/-! ### a new instance; a def held by a local -/
section
variable {X : Cx} {G H0 : Hp} {Γ : List AV} {a b c e o : Expr} {es : List Expr} {pos np : Pos} {d : D} {n n0 : Str} {ps : List Str} {k : Nat} {sp : Sp} {as : List AV} {dom : List AV → AV → Prop} {Ψ : V → Hp → Prop}
theorem gv_def {f : Addr} (hm : X.mg n = some (.ref f)) (hg : Gl X n := by rfl) (hd : (n == ("__debug__" : Str)) = false := by decide) : GV X G Γ (.Name n pos) (.v (.ref f)) := fun σ H Q F k =>
  er_of (pe_glob (v := .ref f) hg hm rfl hd) (k _ H (Same.refl H) rfl)
theorem ge_callL (i : Nat) {f : Addr} (Cc : Cal X.prog X.w X.K X.mg X.base n0 ps k (spP X.K dom)) (hmf : X.mg n0 = some (.ref f)) (hr : Room k X.A) (ha : GA X G Γ (e :: es) as) (hd : dom as (.d d)) (hi : Γ[i]? = some (.v (.ref f)) := by rfl) (hN : X.N[i]? = some n := by rfl) (hv : Vis X.env.scope n := by first | exact Or.inl rfl | exact Or.inr (Or.inl rfl) | exact Or.inr (Or.inr rfl)) (hdb : (n == ("__debug__" : Str)) = false := by decide) (hcd : (n == ("__classdict__" : Str)) = false := by decide)
    (he : starEach (e :: es) X.env = (false, eval e X.env) :: starEach es X.env := by rfl) (hpl : (backTo pos (starEach es X.env)).any (·.1) = false := by rfl) : GE X G Γ (.Call (.Name n np) (e :: es) [] pos) d := fun σ H Q F kq => by
  obtain ⟨f', fd, Fn, hm, hk, hb⟩ := Cc.ex
  have ef : f' = f := by rw [hmf] at hm; injection hm with hm; injection hm with hm; exact hm.symm
  subst ef
  refine er_of (pe_callL (i := i) Fn hr hN hv hk hb .nil pass0 pa_self hdb hcd he hpl) ?_
  obtain ⟨ov, e1, e2⟩ := F.at_ i _ hi
  have eo : ov = some (.ref f') := e2
  subst eo
  refine ⟨e1, ?_⟩
  refine ha σ H _ F fun vs H1 s1 r1 => ?_
  show spP X.K dom (vs ++ []) H1 Q L2.E0
  rw [List.append_nil]
  exact ⟨as, .d d, r1, hd, fun v H2 s2 r2 => kq v H2 (s1.trans s2) r2⟩
theorem Fm.fullT {K : PySem.W.Frag} {H : Hp} {σ : L2.St} (F : Fm K G σ Γ H) : ∃ G', Same G G' ∧ Same G' H ∧ Fm K G' σ Γ H ∧ Tra NoZ H H G' := by
  obtain ⟨G', s0, s1, F', hall, ts⟩ := F.full
  refine ⟨G', s0, s1, F', fun x o e q => hall x o e fun ⟨i, xs, h1, h2⟩ => ?_⟩
  obtain ⟨l, vs, e1, _, e3, _⟩ := F.own h1
  rw [h2] at e1
  have el : x = l := by injection (Option.some.inj (Option.some.inj e1))
  subst el
  rw [e] at e3
  rcases q with q | q | q
  · exact q vs (Option.some.inj e3)
  · exact q
  · rw [e] at q; cases q
/-- C(e, ..) -/
theorem gy_make {C f : Addr} {fd : FuncData} {dvs : List V} {ds : List Value} {post : Addr → Hp → Prop} (M : Mk X.K C f) (Fn : FnOk X.prog X.w X.K X.mg X.base CX0 k f fd ps sp) (hr : Room (k + 1) X.A) (hm : X.mg n = some (.ref C)) (hb : Binds X.K fd ps ds) (hdv : Vals dvs ds) (ha : GA X G Γ (e :: es) as)
    (hsp : ∀ (vs : List V) (H : Hp) (Q : VK) (x dx : Addr), Same G H → ArgsOk X.K H as vs → H x = none → H dx = none → dx ≠ x → (∀ G1 H', Core (fun y => y = x) (upd (upd H dx (.own x)) x (.ins C dx [])) G1 → Same G1 H' → post x G1 → Q .non H') → sp (.ref x :: (vs ++ dvs)) (upd (upd H dx (.own x)) x (.ins C dx [])) Q L2.E0)
    (hst : ∀ x H G1 G2, Tra NoZ H G1 G2 → post x G1 → post x G2) (hms : ∀ x G1 H', Same G1 H' → post x G1 → post x H')
    (hg : Gl X n := by rfl) (hdb : (n == ("__debug__" : Str)) = false := by decide) (he : starEach (e :: es) X.env = (false, eval e X.env) :: starEach es X.env := by rfl) (hpl : (backTo pos (starEach es X.env)).any (·.1) = false := by rfl) :
    GY X G Γ (.Call (.Name n np) (e :: es) [] pos) (fun v G' => ∃ x, v = .ref x ∧ G x = none ∧ Same G G' ∧ post x G') := fun σ H Q F kq => by
  refine er_of (pe_make M Fn hr hg hm hb hdv pass0 pa_self hdb he hpl) ?_
  refine ha σ H _ F fun vs H1 s1 r1 x dx hx hdx hne => ?_
  have F1 := F.same s1
  refine hsp vs H1 _ x dx F1.ex r1 hx hdx hne fun G1 H' c1 s2 hp => ⟨rfl, ?_⟩
  have sm : Same H1 H' := fun y o q => by
    have n1 : y ≠ x := ne_of_none q hx
    have n2 : y ≠ dx := ne_of_none q hdx
    exact s2 _ _ (c1 y o (by rw [upd_ne n1, upd_ne n2]; exact q) n1)
  obtain ⟨G', t0, t1, F', tr⟩ := (F1.same sm).fullT
  exact kq _ H' G' ⟨x, rfl, F1.ex.free hx, t0, hst x H' H' G' tr (hms x G1 H' s2 hp)⟩ F'
end
section
variable {P : Program} {w : World} {K : PySem.W.Frag} {mg : Str → Option Value} {base : Heap} {R : List Nat}
/-! ### a solver is made -/
def spInit (P : Program) (w : World) (K : PySem.W.Frag) (R : List Nat) : Sp := fun vs H Q _ => ∃ (a dx : Addr) (lv : V), vs = [.ref a, lv, .non] ∧ H a = some (.ins (He.ga K "Solver") dx []) ∧ Rp K H (.tup (lockD R)) lv ∧
  ∀ G1 H', Core (fun y => y = a) H G1 → Same G1 H' → (∃ dk df, Sv P w K R a dk df G1 [] [] ∧ H dk = none ∧ H df = none) → Q .non H'
def CstI (R : List Nat) (cm : List (D × D)) (i : Nat) : Prop := ∀ (pre rs : List Nat) (m : Nat), R = pre ++ m :: rs → rs.length < i → ∀ h t v, gapD h t v ∈ gapsD rs m → dget cm (costK rs.length h t) = some (ti [1])
theorem cst_keep {cm : List (D × D)} {k q : D} (h : dget cm q = some (ti [1])) : dget (dset cm k (ti [1])) q = some (ti [1]) := by
  rw [dget_dset]
  split
  · rfl
  · exact h
theorem sc_init : FnScope ["self", "lock", "weigh", "k", "bolt", "gap", "part"] ["self", "lock", "weigh"] (defScope s_Solver_init) := ⟨rfl, rfl, rfl, by decide +kernel, rfl, by decide +kernel, by decide +kernel⟩
theorem c_init (T : Tx K mg) (ok : Ok24 R) (hR : R.length ≤ 60) : ∃ fd ds, FnOk P w K mg base CX0 2 (He.ma K (He.ga K "Solver") "__init__") fd ["self", "lock", "weigh"] (spInit P w K R) ∧ Vals [.non] ds ∧ Binds K fd ["self", "lock", "weigh"] ds := by
  obtain ⟨fd, F⟩ := T.f_Solver_init
  obtain ⟨ds, hv, hb⟩ := F.binds1 (ps := ["self", "lock", "weigh"]) 2 0 (fun q => by cases q) rfl (fun T kV doc pm an cdv ct us its h1 h2 => match us, its, h1, h2 with
    | [_, _], [_], _, _ => ⟨_, rfl, rfl⟩)
  refine ⟨fd, ds, fnx (N := ["self", "lock", "weigh", "k", "bolt", "gap", "part"]) (k := 1) F sc_init (fun vs H Q E ⟨a, dx, lv, h1, _⟩ => by rw [h1]; rfl) (fun cdv A outer s H vs Q E C ⟨a, dx, lv, h1, hA, hlv, hq⟩ => ?_), hv, hb⟩
  subst h1
  refine (?_ : GS _ H ([.v (.ref a), .d (.tup (lockD R)), .d .non] ++ [.no, .no, .no, .no]) _ _) _ _ (fm_start (as := [.v (.ref a), .d (.tup (lockD R)), .d .non]) ⟨_, _, rfl, rfl, _, _, rfl, hlv, _, _, rfl, rfl, rfl⟩ (Nat.le_of_ble_eq_true rfl))
  refine gs_setV C 2 (w := .ref (He.ga K "price_alone")) (gv_if (k0 := true) (gt_of (gt_isN (x := .non) (ge_var 2)) rfl) (fun _ => gv_def T.g_price_alone) fun q => by cases q) ?_
  have tpa : ∀ {G G1 : Hp} {fs : List (Str × V)}, G a = some (.ins (He.ga K "Solver") dx fs) → Core (fun y => y = a) G G1 → Tps K G G1 := fun {G G1 fs} e c => tps_d (fun ys e' => by rw [e] at e'; cases e') (fun ob ys e' => by rw [e] at e'; cases e') c
  -- lock
  refine gs_fldY C (gy_of (ge_var (x := .tup (lockD R)) 1)) fun lv2 G1 ⟨s1, r1⟩ => ⟨a, _, dx, [], gv_var 0 rfl (fun q => by cases q), s1 _ _ hA, T.cls_Solver, T.n_Solver_lock, by decide, rfl, fun G2 c2 e2 => ?_⟩
  have r2 := r1.mono (tpa (s1 _ _ hA) c2)
  have c02 : Core (fun y => y = a) H G2 := (Core.of s1).trans c2
  clear r1 c2 s1
  -- costs
  refine gs_fldY C gy_new fun vv G3 ⟨dc, ev, hdc, s3, hd3⟩ => ⟨a, _, dx, _, gv_var 0 rfl (fun q => by cases q), s3 _ _ e2, T.cls_Solver, T.n_Solver_costs, by show 1 < 1000; decide, rfl, fun G4 c4 e4 => ?_⟩
  subst ev
  have dca : dc ≠ a := fun z => by rw [z, e2] at hdc; cases hdc
  have hHdc : H dc = none := by
    cases hh : H dc with
    | none => rfl
    | some o => have := c02 dc o hh dca; rw [hdc] at this; cases this
  have tp4 := tpa (s3 _ _ e2) c4
  have r4 := (r2.mono (Same.tup s3)).mono tp4
  have hd4 := hd3.coreD dca c4 tp4
  have c04 : Core (fun y => y = a) H G4 := (c02.then s3).trans c4
  clear r2 c02 e2 hd3 s3 tp4 c4 hdc
  refine gs_forX (els := enuD (lockD R)) C (js := [3, 4]) (fun d Γ => match d with | .tup [x, y] => (Γ.set 3 (.d x)).set 4 (.d y) | _ => Γ) (fun x => x = dc)
    (fun _ i G' Γ' => ∃ cm, Dic P w K G' dc cm ∧ CstI R cm i ∧ cm.length ≤ 6 * i ∧ Γ' = [.v (.ref a), .d (.tup (lockD R)), .v (.ref (He.ga K "price_alone")), .no, .no, .no, .no])
    (gi_enumT (ge_var 1) T.z_enumerate) ?_ (zok_ext fun x hx => by subst hx; exact hd4.ext) ?_ ?_ ?_
  · intro i d hd
    have hi : i < (lockD R).length := by rw [← enuD_len]; exact (List.getElem?_eq_some_iff.mp hd).1
    rw [enuD_get (List.getElem?_eq_getElem hi)] at hd
    cases hd
    exact tg_tup C (tgs_cons (tg_name C 3) (tgs_cons (tg_name C 4) tgs_nil))
  · intro Hc G c1 c2 c3 _
    exact ⟨[], hd4.mono c2, fun pre rs m e hl => absurd hl (Nat.not_lt_zero _), Nat.zero_le _, rfl⟩
  · intro Hc core cz i d hd G Γ' cg ⟨cm, hdm, hcm, hlm, eΓ⟩
    subst eΓ
    have hi : i < (lockD R).length := by rw [← enuD_len]; exact (List.getElem?_eq_some_iff.mp hd).1
    rw [lockD_len] at hi
    obtain ⟨pre, m, rs, eR, hrs⟩ := split_at R i hi
    have eb : (lockD R)[i]? = some (boltD m rs) := by rw [eR, ← hrs]; exact lock_get _ _ _
    rw [enuD_get eb] at hd
    cases hd
    have okm : Ok24 (m :: rs) := (eR ▸ ok : Ok24 (pre ++ m :: rs)).part
    have hm24 := okm.hd
    have hA' : G a = some (.ins (He.ga K "Solver") dx [("lock", lv2), ("costs", .ref dc)]) := cg _ _ (core _ _ e4 fun z => dca z.symm)
    refine gs_forX (els := gapsD rs m) C (js := [5]) (fun d Γ => Γ.set 5 (.d d)) (fun x => x = dc)
      (fun _ j G' Γ' => ∃ cm', Dic P w K G' dc cm' ∧ CstI R cm' i ∧ (∀ g ∈ (gapsD rs m).take j, ∃ h t v, g = gapD h t v ∧ dget cm' (costK rs.length h t) = some (ti [1])) ∧ cm'.length ≤ cm.length + j ∧ Γ' = [.v (.ref a), .d (.tup (lockD R)), .v (.ref (He.ga K "price_alone")), .d (.int (i : Nat)), .d (boltD m rs), .no, .no])
      (gi_tup (ge_ixT (d := .tup (gapsD rs m)) (ge_var (x := boltD m rs) 4) ge_int)) (fun j d hd => tg_name C 5) (zok_ext fun x hx => by subst hx; exact hdm.ext) ?_ ?_ ?_
    · intro Hc2 G2 c1 c2 c3 _
      exact ⟨cm, hdm.mono c2, hcm, fun g hg => by simp at hg, Nat.le_refl _, rfl⟩
    · intro Hc2 core2 cz2 j d hd G2 Γ' cg2 ⟨cm', hdm', hcm', hin', hlm', eΓ⟩
      subst eΓ
      have hdmem := List.mem_of_getElem? hd
      obtain ⟨h, t, v, rfl, _⟩ := gapsD_mem okm hdmem
      have hj : j < 6 := by
        have := (List.getElem?_eq_some_iff.mp hd).1
        rw [gapsD_len] at this; omega
      have hA2 : G2 a = some (.ins (He.ga K "Solver") dx [("lock", lv2), ("costs", .ref dc)]) := cg2 _ _ (core2 _ _ hA' fun z => dca z.symm)
      refine gs_dset C (gy_of (ge_callL 2 (c_price_alone T) T.g_price_alone C.hr (gac (ge_var 3) (gac1 (ge_var (x := gapD h t v) 5))) ⟨.int h, .int t, .int 1, .tup [ti v], .int (i : Nat), rfl, rfl⟩)) fun vv G5 ⟨s5, r5⟩ => ⟨dc, cm', [.int (i : Nat), .int h, .int t], ti [1], hdm'.mono s5, r5, gv_fld (gv_var (p := .v (.ref a)) 0 rfl (fun q => by cases q)) (s5 _ _ hA2) T.cls_Solver T.n_Solver_costs rfl, ge_tup (ds := [.int (i : Nat), .int h, .int t]) (gac (ge_var 3) (gac (ge_ixT (d := .int h) (ge_var (x := gapD h t v) 5) ge_int) (gac1 (ge_ixT (d := .int t) (ge_var (x := gapD h t v) 5) ge_int)))), by omega, cost_dep _ _ _, fun G6 c6 hd6 => ?_⟩
      refine gs_nil fun σ H2 F2 => ⟨G6, _, fun x o e => c6 x o (s5 _ _ (cg2 x o e)) fun z => ?_, ⟨dset cm' (costK (i : Nat) h t) (ti [1]), hd6, fun pre' rs' m' e' hl' h' t' v' hg' => cst_keep (hcm' pre' rs' m' e' hl' h' t' v' hg'), fun g hg => ?_, ?_, rfl⟩, F2.weak ⟨.inr rfl, .inr rfl, .inr rfl, .inr rfl, .inr rfl, .inl rfl, .inr rfl, trivial⟩⟩
      · have := cz2 x z
        rw [e] at this; cases this
      · rw [List.take_add_one, hd] at hg
        rcases List.mem_append.mp hg with hg | hg
        · obtain ⟨h', t', v', e1, e2⟩ := hin' g hg
          exact ⟨h', t', v', e1, cst_keep e2⟩
        · have eg : g = gapD h t v := by simpa using hg
          refine ⟨h, t, v, eg, ?_⟩
          rw [hrs, dget_dset, if_pos rfl]
      · have := dset_len cm' (costK (i : Nat) h t) (ti [1])
        omega
    · intro Hc2 core2 cz2 G2 Γ' cg2 ⟨cm', hdm', hcm', hin', hlm', eΓ⟩
      subst eΓ
      rw [List.take_length] at hin'
      refine gs_nil fun σ H2 F2 => ⟨G2, _, fun x o e => cg2 x o (core2 x o (cg x o e) fun z => ?_), ⟨cm', hdm', fun pre' rs' m' e' hl' h' t' v' hg' => ?_, ?_, rfl⟩, F2.weak ⟨.inr rfl, .inr rfl, .inr rfl, .inl rfl, .inl rfl, .inr rfl, .inr rfl, trivial⟩⟩
      · have := cz x z
        rw [e] at this; cases this
      · by_cases hlt : rs'.length < i
        · exact hcm' pre' rs' m' e' hlt h' t' v' hg'
        · have hl2 : rs'.length = rs.length := by omega
          have e2 : m' :: rs' = m :: rs := by
            have e3 : pre' ++ m' :: rs' = pre ++ m :: rs := e'.symm.trans eR
            exact (List.append_inj' e3 (by simp [hl2])).2
          injection e2 with e2 e3
          subst e2; subst e3
          obtain ⟨h2, t2, v2, eg, hg2⟩ := hin' _ hg'
          have eh : h' = h2 ∧ t' = t2 := by
            injection eg with eg; injection eg with eg1 eg; injection eg with eg2 _
            injection eg1 with eg1; injection eg2 with eg2
            exact ⟨eg1, eg2⟩
          rw [eh.1, eh.2]; exact hg2
      · rw [gapsD_len] at hlm'; omega
  · intro Hc core cz G Γ' cg ⟨cm, hdm, hcm, hlm, eΓ⟩
    subst eΓ
    rw [enuD_len, lockD_len] at hcm
    have e5 : G a = some (.ins (He.ga K "Solver") dx [("lock", lv2), ("costs", .ref dc)]) := cg _ _ (core _ _ e4 fun z => dca z.symm)
    have r5 : Rp K G (.tup (lockD R)) lv2 := r4.mono ((core_tps (fun x z => by subst z; exact hd4.ext.1) core).trans (Same.tup cg))
    have c05 : Core (fun y => y = a) H G := fun x o e n => cg _ _ (core x o (c04 x o e n) fun z => by rw [z, hHdc] at e; cases e)
    have hcst : Cst R cm := fun pre rs m e h t v hg => hcm pre rs m e (by rw [e, List.length_append, List.length_cons]; omega) h t v hg
    clear core cz cg hcm hlm hd4 c04 r4 e4
    -- nothing
    refine gs_fldY C (gy_of (ge_tuple (ds := [.int 0]) (GL.rd (gl_lc0 (els := [.int 1]) C [("part", 6)] (js := [6]) (fun d Γ => Γ.set 6 (.d d)) (fun _ => .int 0) (gi_tup (ge_callL 2 (c_price_alone T) T.g_price_alone C.hr (gac ge_int (gac1 (ge_tup (ds := [.int 0, .int 1, .int 1, .tup []]) (gac ge_int (gac ge_int (gac ge_int (gac1 (ge_tup (ds := []) ga_nil)))))))) ⟨.int 0, .int 1, .int 1, .tup [], .int 0, rfl, rfl⟩)) ?_ ?_ (Nat.le_of_ble_eq_true rfl))) T.z_tuple)) fun nv G6 ⟨s6, r6⟩ => ⟨a, _, dx, _, gv_var 0 rfl (fun q => by cases q), s6 _ _ e5, T.cls_Solver, T.n_Solver_nothing, by show 2 < 1000; decide, rfl, fun G7 c7 e7 => ?_⟩
    · intro d hd s H C' cl fp
      exact tg_name C.blk 6
    · intro Hb s0 d hd s H C' cl fp
      exact ge_int
    have t7 := tpa (s6 _ _ e5) c7
    have hn7 : Rp K G7 (ti [0]) nv := r6.mono t7
    have hl7 := (r5.mono (Same.tup s6)).mono t7
    have hd7 := (hdm.mono s6).coreD dca c7 t7
    have c07 : Core (fun y => y = a) H G7 := (c05.then s6).trans c7
    clear r6 s6 c7 t7 r5 hdm c05 e5
    -- known
    refine gs_fldY C gy_new fun vv G8 ⟨dk, ev, hdk, s8, hdk8⟩ => ⟨a, _, dx, _, gv_var 0 rfl (fun q => by cases q), s8 _ _ e7, T.cls_Solver, T.n_Solver_known, by show 3 < 1000; decide, rfl, fun G9 c9 e9 => ?_⟩
    subst ev
    have dka : dk ≠ a := fun z => by rw [z, e7] at hdk; cases hdk
    have dkc : dc ≠ dk := fun z => by
      obtain ⟨_, xs, e, _⟩ := hd7
      rw [z, hdk] at e; cases e
    have hHk : H dk = none := by
      cases hh : H dk with
      | none => rfl
      | some o => have := c07 dk o hh dka; rw [hdk] at this; cases this
    have t9 := tpa (s8 _ _ e7) c9
    have hn9 := (hn7.mono (Same.tup s8)).mono t9
    have hl9 := (hl7.mono (Same.tup s8)).mono t9
    have hd9 := (hd7.mono s8).coreD dca c9 t9
    have hk9 := hdk8.coreD dka c9 t9
    have c09 : Core (fun y => y = a) H G9 := (c07.then s8).trans c9
    clear s8 c9 t9 hn7 hl7 hd7 c07 hdk8 e7 hdk
    -- families
    refine gs_fldY C gy_new fun vv G10 ⟨df, ev, hdf, s10, hdf10⟩ => ⟨a, _, dx, _, gv_var 0 rfl (fun q => by cases q), s10 _ _ e9, T.cls_Solver, T.n_Solver_families, by show 4 < 1000; decide, rfl, fun G11 c11 e11 => ?_⟩
    subst ev
    have dfa : df ≠ a := fun z => by rw [z, e9] at hdf; cases hdf
    have dfc : dc ≠ df := fun z => by
      obtain ⟨_, xs, e, _⟩ := hd9
      rw [z, hdf] at e; cases e
    have dfk : dk ≠ df := fun z => by
      obtain ⟨_, xs, e, _⟩ := hk9
      rw [z, hdf] at e; cases e
    have hHf : H df = none := by
      cases hh : H df with
      | none => rfl
      | some o => have := c09 df o hh dfa; rw [hdf] at this; cases this
    have t11 := tpa (s10 _ _ e9) c11
    refine gs_nil fun σ H2 F2 => hq G11 H2 ((c09.then s10).trans c11) F2.ex ⟨dk, df, ⟨⟨dx, lv2, dc, nv, cm, e11, (hl9.mono (Same.tup s10)).mono t11, (hd9.mono s10).coreD dca c11 t11, hcst, (hn9.mono (Same.tup s10)).mono t11, dkc, dfc⟩, (hk9.mono s10).coreD dka c11 t11, hdf10.coreD dfa c11 t11, dfk⟩, hHk, hHf⟩
end
section
variable {X : Cx} {G : Hp} {Γ : List AV} {e : Expr} {np pos : Pos} {R : List Nat} {k : Nat}
/-- Solver(lock) -/
theorem gy_solver (T : Tx X.K X.mg) (ok : Ok24 R) (hR : R.length ≤ 60) (hr : Room 3 X.A) (he : GE X G Γ e (.tup (lockD R))) (hg : Gl X "Solver" := by rfl) (he1 : starEach [e] X.env = (false, eval e X.env) :: starEach [] X.env := by rfl) (hpl : (backTo pos (starEach [] X.env)).any (·.1) = false := by rfl) :
    GY X G Γ (.Call (.Name "Solver" np) [e] [] pos) (fun v G' => ∃ x, v = .ref x ∧ G x = none ∧ Same G G' ∧ ∃ dk df, Sv X.prog X.w X.K R x dk df G' [] [] ∧ G dk = none ∧ G df = none) := by
  obtain ⟨fd, ds, Fn, hv, hb⟩ := c_init (P := X.prog) (w := X.w) (base := X.base) T ok hR
  refine gy_make (as := [.d (.tup (lockD R))]) T.mkr_Solver Fn hr T.g_Solver hb hv (gac1 he he1) (fun vs H Q x dx s r hx hdx hne hq => ?_) (fun x H G1 G2 t ⟨dk, df, S, n⟩ => ⟨dk, df, S.tra t, n⟩) (fun x G1 H' s ⟨dk, df, S, n⟩ => ⟨dk, df, S.mono s, n⟩) hg (by decide) he1 hpl
  obtain ⟨lv, r', ev, rl, er⟩ := r
  subst ev; cases er
  have sm : Same H (upd (upd H dx (.own x)) x (.ins (He.ga X.K "Solver") dx [])) := fun y o q => by
    rw [upd_ne (ne_of_none q hx), upd_ne (ne_of_none q hdx)]; exact q
  refine ⟨x, dx, lv, rfl, upd_same, Rp.mono (Same.tup sm) rl, fun G1 H' c1 s1 ⟨dk, df, S, n1, n2⟩ => hq G1 H' c1 s1 ⟨dk, df, S, ?_, ?_⟩⟩
  · cases hh : G dk with
    | none => rfl
    | some o => have := sm _ _ (s _ _ hh); rw [n1] at this; cases this
  · cases hh : G df with
    | none => rfl
    | some o => have := sm _ _ (s _ _ hh); rw [n2] at this; cases this
theorem ss_empty {R : List Nat} {N : Nat} : SS R N [] [] := ⟨⟨fun _ _ _ _ _ _ _ _ q => (by cases q), fun _ _ _ _ _ _ _ q => (by cases q), fun _ _ _ _ _ _ _ _ _ _ _ _ q => (by cases q)⟩, ⟨List.Pairwise.nil, fun _ h => (by cases h)⟩, ⟨List.Pairwise.nil, fun _ h => (by cases h)⟩⟩
end
end WB
namespace WB
open PySem PySem.Spec PyProof.Rows L2
section
variable {X : Cx} {G : Hp} {Γ : List AV} {e1 e2 : Expr} {np pos : Pos} {n : Str} {ps : List Str} {k : Nat} {sp : Sp} {d : D} {Ψ Φ : V → Hp → Prop}
/-- n(e1, e2), e1 changing things -/
theorem gy_callS (Cc : Cal X.prog X.w X.K X.mg X.base n ps k sp) (hr : Room k X.A) (h1 : GY X G Γ e1 Ψ)
    (h2 : ∀ v G', Ψ v G' → ∃ (Z : Addr → Prop) (post : V → Hp → Prop), ZOk X G' Γ Z ∧ GE X G' Γ e2 d ∧ (∀ (H : Hp) (v2 : V) (Q : VK), Same G' H → Rp X.K H d v2 → (∀ r G1 H', Core Z H G1 → Same G1 H' → post r G1 → Q r H') → sp [v, v2] H Q L2.E0) ∧ (∀ r H G1 G2, Tra Z H G1 G2 → post r G1 → post r G2) ∧ ∀ r G2, Core Z G' G2 → post r G2 → Φ r G2)
    (hg : Gl X n := by rfl) (hdb : (n == ("__debug__" : Str)) = false := by decide) (hst1 : starEach [e1, e2] X.env = (false, eval e1 X.env) :: starEach [e2] X.env := by rfl) (hst2 : starEach [e2] X.env = (false, eval e2 X.env) :: starEach [] X.env := by rfl) (hpl : (backTo pos (starEach [e2] X.env)).any (·.1) = false := by rfl) :
    GY X G Γ (.Call (.Name n np) [e1, e2] [] pos) Φ := fun σ H Q F kq => by
  obtain ⟨f, fd, Fn, hm, hk, hb⟩ := Cc.ex
  refine er_of (pe_call Fn hr hg hm hk hb .nil pass0 (pa_cons pe_self (pa_cons pe_self pa_nil hst2) hst1) hdb hst1 hpl) ?_
  refine h1 σ H _ F fun v H1 G' q F' => ?_
  obtain ⟨Z, post, hZ, g2, hsp, hst, hf⟩ := h2 v G' q
  refine g2 σ H1 _ F' fun v2 H2 s2 r2 => ?_
  have F2 := F'.same s2
  refine hsp H2 v2 Q F2.ex r2 fun r G1 H' c1 s1 hp => ?_
  obtain ⟨G2, d1, d2, F3, tr⟩ := F2.region (hZ σ H2 F2) (c1.then s1)
  exact kq r H' G2 (hf r G2 d1 (hst r H2 G1 G2 (tr G1 c1 s1) hp)) F3
end
section
variable {P : Program} {w : World} {K : PySem.W.Frag} {mg : Str → Option Value} {base : Heap} {R : List Nat}
/-- a def whose promise is told by state -/
theorem cal_make {x : Str} {st : Stmt} {f : Addr} {N ps : List Str} {k : Nat} {sp : Sp} (hg : mg x = some (.ref f)) (hF : ∃ fd, FunD K x x (defArgs st) (defBody st) (defScope st) [] [] f fd) (S : FnScope N ps (defScope st))
    (hbn : ∀ (kV doc pm : Value) (an : Option Addr) (cdv ct : Value) (us : List Value), us.length = ps.length → bindArgs (PySem.W.fnOf x x (defArgs st) (defBody st) (defScope st) .none kV doc pm an cdv ct) ⟨us, []⟩ = pure (ps.zip us)) (hlen : ∀ vs H Q E, sp vs H Q E → vs.length = ps.length)
    (hb : ∀ (cdv : Value) (A : Around) (outer : List Env) (s : Shared) (H : Hp) (vs : List V) (Q : VK) (E : XK), Cok (cxOf CX0 P w K mg base N x (defScope st) f cdv A outer s H E).nox k → sp vs H Q E → SR (cxOf CX0 P w K mg base N x (defScope st) f cdv A outer s H E).nox (defBody st) { nx := fun _ H' => Q .non H', rt := Q } (L2.start N vs) H) : Cal P w K mg base x ps (k + 1) sp := by
  obtain ⟨fd, F⟩ := hF
  exact ⟨f, fd, fnx F S hlen hb, hg, F.kp, F.bindsN hbn⟩
def spPrice (P : Program) (w : World) (K : PySem.W.Frag) (R : List Nat) : Sp := fun vs H Q _ => ∃ (a dk df : Addr) (kn fm : List (D × D)) (x y : List Int) (rowv : V), vs = [.ref a, rowv] ∧ Sv P w K R a dk df H kn fm ∧ SS R (R.length + 1) kn fm ∧ Rp K H (rowD x y) rowv ∧ Nd R x ∧ Ends2 R y ∧
  ∀ v G1 H', Core (Zs dk df) H G1 → Same G1 H' → v = .int (exV R x y) → Q v H'
theorem sc_least_price : FnScope ["solver", "row", "found"] ["solver", "row"] (defScope s_least_price) := ⟨rfl, rfl, rfl, by decide +kernel, rfl, by decide +kernel, by decide +kernel⟩
theorem c_least_price (T : Tx K mg) (ok : Ok24 R) (hR : R.length ≤ 60) : Cal P w K mg base "least_price" ["solver", "row"] (5 * R.length + 6) (spPrice P w K R) := by
  refine cal_make (N := ["solver", "row", "found"]) (st := s_least_price) T.g_least_price T.f_least_price sc_least_price (fun _ _ _ _ _ _ us hl => match us, hl with | [_, _], _ => rfl) ?_ ?_
  · rintro vs H Q E ⟨a, dk, df, kn, fm, x, y, rowv, rfl, _⟩; rfl
  · rintro cdv A outer s H vs Q E C ⟨a, dk, df, kn, fm, x, y, rowv, rfl, S, ss, hrow, hx, hy, hq⟩
    refine (?_ : GS _ H ([.v (.ref a), .d (rowD x y)] ++ [.no]) _ _) _ _ (fm_start (as := [.v (.ref a), .d (rowD x y)]) ⟨_, _, rfl, rfl, _, _, rfl, hrow, rfl⟩ (Nat.le_of_ble_eq_true rfl))
    refine gs_setY C 2 (gy_row (c_bestAll T ok hR (Nat.le_refl _)) C.hr (gv_var 0 rfl (fun q => by cases q)) S ss (ge_var (x := rowD x y) 1) (by rw [low_all]; exact hx) (by rw [low_all]; exact hy) (Nat.le_refl _) trivial) fun v G1 ⟨c1, hp, r1⟩ => ⟨.d (ti [exV R x y]), by rw [low_all] at r1; exact r1, ?_⟩
    refine gs_retY (gy_of (GV.exp (gv_if (p := .d (.int (exV R x y))) (k0 := false) (gt_of (gt_isN (ge_var (x := ti [exV R x y]) 2)) rfl) (fun q => by cases q) fun _ => GE.val (ge_ixT (ds := [.int (exV R x y)]) (d := .int (exV R x y)) (ge_var (x := ti [exV R x y]) 2) ge_int)))) fun v2 G2 H' ⟨s2, r2⟩ s3 => hq v2 G2 H' (c1.then s2) s3 r2
def dLeast (as : List AV) (q : AV) : Prop := ∃ (R : List Nat) (x y : List Int), as = [.d (.tup (lockD R)), .d (rowD x y)] ∧ 1 ≤ R.length ∧ R.length ≤ 60 ∧ Ok24 R ∧ Nd R x ∧ Ends2 R y ∧ q = .d (.int (exV R x y))
theorem sc_least : FnScope ["lock", "row"] ["lock", "row"] (defScope s_least) := ⟨rfl, rfl, rfl, by decide +kernel, rfl, by decide +kernel, by decide +kernel⟩
theorem c_least (T : Tx K mg) : Cal P w K mg base "least" ["lock", "row"] 307 (spP K dLeast) := by
  refine cal_pure (N := ["lock", "row"]) (st := s_least) (k := 306) T.g_least T.f_least sc_least (fun _ _ _ _ _ _ us hl => match us, hl with | [_, _], _ => rfl) ?_ ?_
  · rintro as r ⟨R, x, y, rfl, _⟩; rfl
  · rintro cdv A outer s H E C as r Q ⟨R, x, y, rfl, h1, h2, ok, hx, hy, rfl⟩ hq
    refine gs_expr (ge_call (c_must_be_lock T) (C.hr.mono (by decide)) (gac1 (ge_var 0)) ⟨R, rfl, h1, h2, ok, rfl⟩) ?_
    refine gs_expr (ge_callD (c_must_wish_all T) (ds := [.d (.int 2), .d (.int 4)]) (fun H => ⟨_, _, rfl, rfl, _, _, rfl, rfl, rfl⟩) (C.hr.mono (by decide)) (gac (ge_var 0) (gac1 (ge_var (x := rowD x y) 1))) ⟨R, x, y, rfl, h2, hx.wd ok, hy.wd ok, rfl⟩) ?_
    refine gs_retY (gy_callS (Φ := fun v G' => Same H G' ∧ v = .int (exV R x y)) (c_least_price T ok h2) (C.hr.mono (by omega)) (gy_solver T ok h2 (C.hr.mono (by decide)) (ge_var (x := .tup (lockD R)) 0)) fun v G1 ⟨a, ev, ha, s1, dk, df, S, n1, n2⟩ => ⟨Zs dk df, fun r _ => r = .int (exV R x y), zok_ext S.zext, ge_var (x := rowD x y) 1, fun H2 v2 Q2 s2 r2 hq2 => ?_, fun _ _ _ _ _ h => h, fun r G2 c2 e => ⟨?_, e⟩⟩) fun v G' H' ⟨s1, ev⟩ s2 => ?_
    · subst ev
      exact ⟨a, dk, df, [], [], x, y, v2, rfl, S.mono s2, ss_empty, r2, hx, hy, fun r G3 H3 c3 s3 e => hq2 r G3 H3 c3 s3 e⟩
    · exact fun x o e => c2 x o (s1 _ _ e) fun z => by
        rcases z with rfl | rfl
        · rw [n1] at e; cases e
        · rw [n2] at e; cases e
    · exact hq v H' (s1.trans s2) ev
end
end WB
namespace WB
open PySem PySem.Spec PyProof.Rows L2
/-! ### comprehensions over a list that a state-changing call gave -/
section
variable {X : Cx} {H0 : Hp} {Γ : List AV} {c e elt tg iter : Expr} {pos p1 spos : Pos} {els : List D} {n : Str} {k : Nat} {sts : List Stmt} {E : Ends} {Ψ : V → Hp → Prop}
theorem lc_body {scope : Scope} {vs : List Nat} {l0 : Addr} {tt : TT} {js : List Nat} {u : D → List AV → List AV} {f : D → D} {p : D → Bool} (hjs : ∀ j ∈ js, j ∈ vs) (hlen : els.length < 100000)
    (ht : ∀ d ∈ els, InBlk X scope fun Y => TgOk Y tg js d (u d))
    (hc : ∀ Hb, Same H0 Hb → ∀ d ∈ els, ∀ (σ : L2.St) (H : Hp) (Q : Bool → Hp → Prop), Fm X.K Hb σ (u d (wipeA Γ vs)) H → (∀ H', Same H H' → Q (p d) H') → tt σ H Q)
    (he : ∀ Hb, Same H0 Hb → ∀ d ∈ els, p d = true → InBlk X scope fun Y => GE Y Hb (u d (wipeA Γ vs)) elt (f d))
    {σ : L2.St} {H1 : Hp} (F : Fm X.K H0 σ Γ H1) {J : It} (hit : ∀ Hb, Same H0 Hb → Same Hb H1 → (∀ a o, H1 a = some o → ¬ ownAt σ Γ a → Hb a = some o) → ItOk X.K Hb J els) {Q : VK} (kq : ∀ l ws H', H1 l = none → Same H1 H' → H' l = some (.lst ws) → RpAll X.K H' ((els.filter p).map f) ws → Q (.ref l) H') :
    tLc (fun _ H R => R J H) (tgB X scope tg) tt (teB X scope elt) vs σ H1 Q := by
  obtain ⟨Hb, s0, sb, Fb, hall, _, _⟩ := F.rebase
  have ok := hit Hb s0 sb hall
  intro D hD
  have eD : Same H1 (upd H1 D (.lst [])) := fun b o q => by rw [upd_ne (ne_of_none q hD)]; exact q
  refine ⟨fun i m H' => m = els.length - i ∧ i ≤ els.length ∧ Same H1 H' ∧ ∃ acc, H' D = some (.lst acc) ∧ RpAll X.K H' (((els.take i).filter p).map f) acc, ⟨els.length, by simp, Nat.zero_le _, eD, [], upd_same, by rw [List.take_zero]; rfl⟩, ?_⟩
  rintro i m H' ⟨rfl, hi, e', acc, hacc, hr⟩
  by_cases hlt : i < els.length
  · refine .inr ⟨ok.go i H' hlt (sb.trans e'), fun H2 => Same H1 H2 ∧ ∃ acc, H2 D = some (.lst acc) ∧ RpAll X.K H2 (((els.take (i + 1)).filter p).map f) acc, fun H2 q => ⟨els.length - (i + 1), by omega, rfl, hlt, q⟩, fun x H'' hy => ?_⟩
    obtain ⟨e2, d, hd, hrd⟩ := ok.yld i x H' H'' hlt (sb.trans e') hy
    have hm : d ∈ els := List.mem_of_getElem? hd
    have etk : els.take (i + 1) = els.take i ++ [d] := by rw [List.take_add_one, hd]; rfl
    intro s1 H3 C1 cl1 fp1
    refine ht d hm s1 H3 C1 cl1 fp1 Hb (wipeA Γ vs) (wipe σ vs) H'' x _ ((Fb.same (e'.trans e2)).wipe vs) hrd fun σ2 l2 w2 F2 => ⟨?_, ?_⟩
    · rw [w2 vs hjs]
      have ww : ∀ us : List Nat, (∀ j ∈ us, j ∈ vs) → wipe (wipe σ vs) us = wipe σ vs := by
        intro us
        induction us with
        | nil => intro _; rfl
        | cons w us ih =>
          intro hw
          show (wipe (wipe σ vs) us).set w none = wipe σ vs
          rw [ih fun j hj => hw j (List.mem_cons_of_mem _ hj)]
          have hw0 := hw w List.mem_cons_self
          have : ∀ ts : List Nat, w ∈ ts → (wipe σ ts).set w none = wipe σ ts := by
            intro ts
            induction ts with
            | nil => intro h; cases h
            | cons t ts ih2 =>
              intro h
              show ((wipe σ ts).set t none).set w none = (wipe σ ts).set t none
              by_cases htw : t = w
              · subst htw; rw [List.set_set]
              · rcases List.mem_cons.mp h with z | z
                · exact absurd z.symm htw
                · rw [List.set_comm _ _ htw, ih2 z]
          exact this vs hw0
      exact ww vs fun _ h => h
    · refine hc Hb s0 d hm σ2 H'' _ F2 fun H4 e4 => ?_
      cases hp : p d with
      | false =>
        show Same H1 H4 ∧ _
        refine ⟨e'.trans (e2.trans e4), acc, (e2.trans e4) _ _ hacc, ?_⟩
        rw [etk, List.filter_append, List.filter_cons_of_neg (by rw [hp]; decide), List.filter_nil, List.append_nil]
        exact hr.mono (Same.tup (e2.trans e4))
      | true =>
        show teB X scope elt σ2 H4 _
        intro s5 H5 C5 cl5 fp5
        refine he Hb s0 d hm hp s5 H5 C5 cl5 fp5 σ2 H4 _ (F2.same e4) fun w H6 e6 r6 => ?_
        have e46 := e2.trans (e4.trans e6)
        refine ⟨acc, e46 _ _ hacc, ?_, ?_⟩
        · rw [hr.length, List.length_map]
          have h1 := List.length_filter_le p (els.take i)
          have h2 : (els.take i).length ≤ els.length := by rw [List.length_take]; omega
          exact Nat.lt_of_le_of_lt (Nat.le_trans h1 h2) (Nat.lt_of_lt_of_le hlen (by decide))
        · have hDn : H1 D = none := hD
          have ts : Tps X.K H6 (upd H6 D (.lst (acc ++ [w]))) := lst_ts (e46 _ _ hacc)
          refine ⟨fun b o q => by rw [upd_ne (ne_of_none q hDn)]; exact (e'.trans e46) _ _ q, _, upd_same, ?_⟩
          rw [etk, List.filter_append, List.filter_cons_of_pos hp, List.filter_nil, List.map_append]
          exact ((hr.mono (Same.tup e46)).mono ts).snoc (r6.mono ts)
  · have ei : i = els.length := by omega
    subst ei
    rw [List.take_length] at hr
    exact .inl ⟨ok.stop H' (sb.trans e'), kq D acc H' hD e' hacc hr⟩
/-- y = [f for .. in e if c], e changing things -/
theorem gs_setLcY (C : Cok X k) {scope : Scope} (i : Nat) (own : List (Str × Nat)) {js : List Nat} (u : D → List AV → List AV) (f : D → D) (p : D → Bool) (hi : GY X H0 Γ iter Ψ)
    (h : ∀ v G', Ψ v G' → ∃ (l : Addr) (vs : List V) (els : List D), v = .ref l ∧ G' l = some (.lst vs) ∧ RpAll X.K G' els vs ∧ els.length < 100000 ∧ (∀ d ∈ els, InBlk X scope fun Y => TgOk Y tg js d (u d)) ∧
      (∀ Hb, Same G' Hb → ∀ d ∈ els, InBlk X scope fun Y => GT Y Hb (u d (wipeA Γ (own.map (·.2)))) c (p d)) ∧ (∀ Hb, Same G' Hb → ∀ d ∈ els, p d = true → InBlk X scope fun Y => GE Y Hb (u d (wipeA Γ (own.map (·.2)))) elt (f d)) ∧
      GS X G' (Γ.set i (.own ((els.filter p).map f))) sts E)
    (hy : X.N[i]? = some n := by rfl) (hyl : X.env.scope.names.lookup n = some .local := by rfl)
    (hsw : swapsWith (.ListComp elt [⟨tg, iter, [c], 0⟩] scope pos) (some (.Name n p1)) spos.line X.env = pure true := by exact sw_true rfl rfl rfl rfl)
    (hjs : ∀ j ∈ js, j ∈ own.map (·.2) := by decide) (ok : BlkOk X.N X.env.scope scope own := by exact blkOk_by rfl) (hs : ∀ x, foldedSetIterable iter X.env x = pure x := by intro _; rfl) :
    GS X H0 Γ (.Assign [.Name n p1] (.ListComp elt [⟨tg, iter, [c], 0⟩] scope pos) spos :: sts) E := fun σ H F => by
  refine sr_cons (s1_of (ps_setLc (g := tgB X scope tg) (tt := ttB X scope c) (te := teB X scope elt) C.hc C.nd hy hyl hsw (pi_list pe_self) ok (fun s H C cl fp => pg_blk s H C cl fp) (fun s H C cl fp => pts_one (pt_blk s H C cl fp)) (fun s H C cl fp => pe_blk s H C cl fp) hs) ?_)
  refine hi σ H _ F fun v H1 G' q F' => ?_
  obtain ⟨l, vs, els, ev, hl, hr, hlen, ht, hcd, he, hgs⟩ := h v G' q
  refine ⟨l, ev, ⟨vs, SqL.of (F'.ex _ _ hl)⟩, ?_⟩
  show tLc (fun _ H R => R (Itl X.K l) H) (tgB X scope tg) (ttB X scope c) (teB X scope elt) (own.map (·.2)) σ H1 (fun x H1 => gName i x σ H1 fun σ' H' => SR X sts E σ' H')
  refine lc_body (p := p) (u := u) (js := js) (l0 := l) hjs hlen ht (fun Hb s0 d hd σ H Q F2 hq => fun s H' C cl fp => hcd Hb s0 d hd s H' C cl fp σ H Q F2 hq) he F' (fun Hb s0 sb hall => ?_) ?_
  rotate_left
  · exact fun l2 ws H' hn e' h1 r1 => hgs _ _ (F'.set_own hn e' h1 r1)
  have sbl : Hb l = some (.lst vs) := s0 _ _ hl
  have rb := hr.mono (Same.tup s0)
  have hln := hr.length
  refine ⟨fun i H' hi e' => ⟨vs, vs[i]'(by omega), SqL.of (e' _ _ sbl), List.getElem?_eq_getElem (by omega)⟩, fun H' e' => ⟨vs, SqL.of (e' _ _ sbl), by omega⟩, fun i x H' H'' hi e' hy => ?_⟩
  obtain ⟨e3, hy⟩ := hy
  subst e3
  obtain ⟨d, hd, hrd⟩ := rb.get' (hy vs (SqL.of (e' _ _ sbl)))
  exact ⟨Same.refl _, d, hd, hrd.mono (Same.tup e')⟩
end
end WB
namespace WB
open PySem PySem.Spec PyProof.Rows L2
/-! ### more of lists: pop, extend, append behind a field -/
section
variable {K : PySem.W.Frag} {H0 H : Hp} {σ : L2.St} {Γ : List AV}
theorem Fm.putOwn (F : Fm K H0 σ Γ H) {i : Nat} {xs ys : List D} {l : Addr} {vs ws : List V} (hi : Γ[i]? = some (.own xs)) (hs : σ[i]? = some (some (.ref l))) (hl : H l = some (.lst vs)) (hr : RpAll K H ys ws) : Fm K H0 σ (Γ.set i (.own ys)) (upd H l (.lst ws)) := by
  have ts : Tps K H (upd H l (.lst ws)) := lst_ts hl
  obtain ⟨l', vs', e1, h0, e2, e3⟩ := F.own hi
  rw [hs] at e1
  have el : l = l' := by injection (Option.some.inj (Option.some.inj e1))
  subst el
  have hlt : i < Γ.length := (List.getElem?_eq_some_iff.mp hi).1
  refine ⟨fun a o e => ?_, by rw [List.length_set]; exact F.len, fun j a h => ?_, fun j k zs us l2 hjk h1 h2 h3 h4 => ?_⟩
  · rw [upd_ne (ne_of_none e h0)]
    exact F.ex a o e
  · by_cases hj : j = i
    · subst hj
      rw [List.getElem?_set_self hlt] at h
      cases h
      exact ⟨_, hs, l, _, rfl, h0, upd_same, hr.mono ts⟩
    · rw [List.getElem?_set_ne (Ne.symm hj)] at h
      obtain ⟨o, r1, r2⟩ := F.at_ j a h
      refine ⟨o, r1, ?_⟩
      cases a with
      | no => trivial
      | d x => obtain ⟨v, q1, q2⟩ := r2; exact ⟨v, q1, q2.mono ts⟩
      | bw xs => obtain ⟨l', us, q1, q2, q3⟩ := r2; exact ⟨l', us, q1, q2, q3.mono ts⟩
      | own zs =>
        obtain ⟨l', us, q1, q2, q3, q4⟩ := r2
        have ne : l' ≠ l := fun q => F.dis i j xs zs l (Ne.symm hj) hi h hs (by rw [r1, q1, q])
        exact ⟨l', us, q1, q2, by rw [upd_ne ne]; exact q3, q4.mono ts⟩
      | v b => exact r2
  · have un : ∀ {m : Nat} {zs : List D}, (Γ.set i (.own ys))[m]? = some (.own zs) → ∃ zs', Γ[m]? = some (.own zs') := fun {m zs} e => by
      by_cases hm : m = i
      · exact ⟨xs, by rw [hm]; exact hi⟩
      · rw [List.getElem?_set_ne (Ne.symm hm)] at e
        exact ⟨zs, e⟩
    obtain ⟨_, g1⟩ := un h1
    obtain ⟨_, g2⟩ := un h2
    exact F.dis j k _ _ l2 hjk g1 g2 h3 h4
theorem rpAll_cut {ys : List D} {d : D} : ∀ {xs : List D} {vs : List V}, RpAll K H (xs ++ [d]) vs → ∃ ws v, vs = ws ++ [v] ∧ RpAll K H xs ws ∧ Rp K H d v
  | [], _, ⟨v, t, e, h1, h2⟩ => by
    cases h2; exact ⟨[], v, e, rfl, h1⟩
  | x :: xs, _, ⟨v, t, e, h1, h2⟩ => by
    obtain ⟨ws, w, e2, h3, h4⟩ := rpAll_cut (ys := ys) h2
    exact ⟨v :: ws, w, by rw [e, e2]; rfl, ⟨v, ws, rfl, h1, h3⟩, h4⟩
theorem rpAll_app {ys : List D} {us : List V} (h2 : RpAll K H ys us) : ∀ {xs : List D} {vs : List V}, RpAll K H xs vs → RpAll K H (xs ++ ys) (vs ++ us)
  | [], _, h => by cases h; exact h2
  | x :: xs, _, ⟨v, t, e, h1, h3⟩ => ⟨v, t ++ us, by rw [e]; rfl, h1, rpAll_app h2 h3⟩
end
section
variable {X : Cx} {G : Hp} {Γ : List AV} {e o : Expr} {pos p1 p2 p3 cpos : Pos} {d : D} {xs ys : List D} {n n2 : Str} {k : Nat} {sts : List Stmt} {E : Ends}
/-- x = xs.pop() -/
theorem gs_setPop (C : Cok X k) (i j : Nat) (h : GS X G ((Γ.set j (.own xs)).set i (.d d)) sts E) (hj : Γ[j]? = some (.own (xs ++ [d])) := by rfl) (hi : X.N[i]? = some n := by rfl) (hx : Loc X.env.scope n := by first | exact Or.inl rfl | exact Or.inr rfl)
    (hpe : PE X (.Call (.Attribute (.Name n2 p1) "pop" p2) [] [] cpos) (tBM0 X.K "list" rPop (tVar j)) := by exact pe_bm0 PySem.F.plainAttrs_list PySem.F.slot_list_pop PySem.F.type_list_pop mt_pop (pv _))
    (hs : swapsWith (.Call (.Attribute (.Name n2 p1) "pop" p2) [] [] cpos) (some (.Name n p3)) pos.line X.env = pure false := by rfl) (hf : X.fn n = true ∨ X.env.scope.names.lookup n = some .local := by first | exact .inl rfl | exact .inr rfl) :
    GS X G Γ (.Assign [.Name n p3] (.Call (.Attribute (.Name n2 p1) "pop" p2) [] [] cpos) pos :: sts) E := fun σ H F => by
  refine sr_cons (s1_of (ps_set C.nd hi hx hpe hs hf) ?_)
  obtain ⟨l, vs, e1, e0, e2, e3⟩ := F.own hj
  obtain ⟨ws, v, ev, h1, h2⟩ := rpAll_cut (ys := []) e3
  subst ev
  refine ⟨_, e1, .inl ⟨rfl, _, SqL.of e2⟩, ?_⟩
  refine ⟨l, _, v, rfl, rfl, e2, by simp, ?_⟩
  rw [List.dropLast_concat]
  exact h _ _ ((F.putOwn hj e1 e2 h1).set_d (h2.mono (lst_ts e2)))
/-- xs.extend(ys), both one's own -/
theorem gs_extend (i j : Nat) (h : GS X G (Γ.set i (.own (xs ++ ys))) sts E) (hi : Γ[i]? = some (.own xs) := by rfl) (hj : Γ[j]? = some (.own ys) := by rfl) (hl : xs.length + ys.length ≤ 100000)
    (hpe : PE X (.Call (.Attribute (.Name n p1) "extend" p2) [.Name n2 p3] [] cpos) (tBM X.K "list" rExtend (tVar i) (tCons (tVar j) tNil)) := by exact pe_bm PySem.F.plainAttrs_list PySem.F.slot_list_extend PySem.F.type_list_extend mt_extend (pv _) (pa_cons (pv _) pa_nil))
    (hsw : swapsWith (.Call (.Attribute (.Name n p1) "extend" p2) [.Name n2 p3] [] cpos) none pos.line X.env = pure false := by rfl) :
    GS X G Γ (.Expr (.Call (.Attribute (.Name n p1) "extend" p2) [.Name n2 p3] [] cpos) pos :: sts) E := fun σ H F => by
  refine sr_cons (s1_of (ps_expr hpe hsw) ?_)
  obtain ⟨l, vs, e1, e0, e2, e3⟩ := F.own hi
  obtain ⟨l2, vs2, f1, f0, f2, f3⟩ := F.own hj
  refine ⟨_, e1, .inl ⟨rfl, _, SqL.of e2⟩, ?_⟩
  refine ⟨_, f1, l, l2, vs, vs2, rfl, rfl, e2, f2, ?_, ?_⟩
  · rw [e3.length, f3.length]; exact Nat.le_trans hl (by decide)
  · exact h _ _ (F.putOwn hi e1 e2 (rpAll_app f3 e3))
/-- o.append(e), o a list that stands -/
theorem gs_appendF {dp : Addr} {vs : List V} (ho : GV X G Γ o (.v (.ref dp))) (hG : G dp = some (.lst vs)) (he : GE X G Γ e d) (hl : vs.length < 100000) (nb : noBw Γ = true) (h : ∀ G2 v, Core (fun x => x = dp) G G2 → Rp X.K G2 d v → G2 dp = some (.lst (vs ++ [v])) → GS X G2 Γ sts E)
    (hpe : PE X (.Call (.Attribute o "append" p2) [e] [] cpos) (tBM X.K "list" rAppend (fun σ H Q => ER X o σ H Q) (tCons (fun σ H Q => ER X e σ H Q) tNil)) := by exact pe_bm PySem.F.plainAttrs_list PySem.F.slot_list_append PySem.F.type_list_append mt_append pe_self (pa_cons pe_self pa_nil))
    (hsw : swapsWith (.Call (.Attribute o "append" p2) [e] [] cpos) none pos.line X.env = pure false := by rfl) :
    GS X G Γ (.Expr (.Call (.Attribute o "append" p2) [e] [] cpos) pos :: sts) E := fun σ H F => by
  refine sr_cons (s1_of (ps_expr hpe hsw) ?_)
  refine ho σ H _ F fun x H1 e1 r1 => ?_
  have ex : x = .ref dp := r1
  subst ex
  have F1 := F.same e1
  have hd1 := F1.ex _ _ hG
  refine ⟨.inl ⟨rfl, vs, SqL.of hd1⟩, ?_⟩
  refine he σ H1 _ F1 fun v H2 e2 r2 => ?_
  have F2 := F1.same e2
  have hd2 := F2.ex _ _ hG
  refine ⟨dp, vs, v, rfl, rfl, hd2, Nat.lt_of_lt_of_le hl (by decide), ?_⟩
  have hz : ZNb G (fun x => x = dp) := fun x hx => by subst hx; exact ⟨_, hG, fun _ q => (by cases q), fun _ _ q => (by cases q)⟩
  have hc : Core (fun x => x = dp) H2 (upd H2 dp (.lst (vs ++ [v]))) := fun x o q hn => by rw [upd_ne hn]; exact q
  obtain ⟨G2, c1, s1, F3, tr⟩ := F2.region (hz.ok nb F2) hc
  have tr1 := tr _ hc (Same.refl _)
  exact h G2 v c1 ((r2.mono (lst_ts hd2)).mono tr1.tps) (tr1 dp _ upd_same (.inr (.inl rfl))) σ _ F3
end
end WB
namespace WB
open PySem PySem.Spec PyProof.Rows L2
/-! ### binding, plainly -/
structure Pg where
  x : List Int
  y : List Int
  o1 : Option Nat
  k : Nat
  t : Int
  o2 : Option Nat
def stepD (k : Nat) (t : Int) : D := .tup [.str "step", .int (k : Nat), .int t]
def pgD (g : Pg) : D := .tup [ti g.x, ti g.y, .tup (usedD g.o1 ++ [stepD g.k g.t] ++ usedD g.o2)]
def bndD (x y : List Int) (o : Option Nat) : D := .tup [ti x, ti y, optD o]
def pcs : List Nat → List Int → List Int → List (List Int × List Int)
  | [], _, _ => []
  | _ :: rs, x, y => if x.getLastD 0 = y.getLastD 0 then [(x.dropLast, y.dropLast)] else [(x.dropLast, Wy rs (min (x.getLastD 0) (stepT (x.getLastD 0) (y.getLastD 0))).toNat), (fwdW rs (x.getLastD 0) (y.getLastD 0), y)]
theorem pcs_still (m : Nat) (rs : List Nat) (u v : List Int) (p : Int) : pcs (m :: rs) (u ++ [p]) (v ++ [p]) = [(u, v)] := by
  show (if (u ++ [p]).getLastD 0 = (v ++ [p]).getLastD 0 then [((u ++ [p]).dropLast, (v ++ [p]).dropLast)] else _) = _
  rw [List.getLastD_concat, List.getLastD_concat, if_pos rfl, List.dropLast_concat, List.dropLast_concat]
theorem pcs_move (m : Nat) (rs : List Nat) (u v : List Int) {p q : Int} (h : p ≠ q) : pcs (m :: rs) (u ++ [p]) (v ++ [q]) = [(u, Wy rs (min p (stepT p q)).toNat), (fwdW rs p q, v ++ [q])] := by
  show (if (u ++ [p]).getLastD 0 = (v ++ [q]).getLastD 0 then _ else [((u ++ [p]).dropLast, Wy rs (min ((u ++ [p]).getLastD 0) (stepT ((u ++ [p]).getLastD 0) ((v ++ [q]).getLastD 0))).toNat), (fwdW rs ((u ++ [p]).getLastD 0) ((v ++ [q]).getLastD 0), v ++ [q])]) = _
  rw [List.getLastD_concat, List.getLastD_concat, if_neg h, List.dropLast_concat]
def pcD (c : List Int × List Int) : D := rowD c.1 c.2
def NumOk (R : List Nat) (n : Nat) (pg : List Pg) (x y : List Int) : Option Nat → Prop
  | none => x = y
  | some i => ∃ g c, pg[i]? = some g ∧ x = g.x ++ c ∧ y = g.y ++ c ∧ exV (low R g.x.length) g.x g.y = exV (low R n) x y
structure Pg1 (R : List Nat) (prev : List Pg) (g : Pg) : Prop where
  ex : ∃ (n m : Nat) (u v : List Int) (p q : Int), n < R.length ∧ low R (n + 1) = m :: low R n ∧ g.x = u ++ [p] ∧ g.y = v ++ [q] ∧ p ≠ q ∧ Nd (m :: low R n) g.x ∧ Ends2 (m :: low R n) g.y ∧ g.k = n ∧ g.t = stepT p q ∧ NumOk R n prev u (Wy (low R n) (min p (stepT p q)).toNat) g.o1 ∧ NumOk R (n + 1) prev (fwdW (low R n) p q) g.y g.o2
def PgOk (R : List Nat) (pg : List Pg) : Prop := ∀ i g, pg[i]? = some g → Pg1 R (pg.take i) g
structure BnOk (R : List Nat) (pg : List Pg) (bn : List (D × D)) : Prop where
  ko : KOk R bn
  at_ : ∀ n x y c, n ≤ R.length → Nd (low R n) x → Ends2 (low R n) y → dget bn (rowD x y) = some c → ∃ o, c = bndD x y o ∧ NumOk R n pg x y o ∧ ∀ z ∈ pcs (low R n) x y, (dget bn (pcD z)).isSome = true
  pgs : PgOk R pg
  len : pg.length ≤ bn.length
theorem NumOk.more {R : List Nat} {n : Nat} {pg more : List Pg} {x y : List Int} {o : Option Nat} (h : NumOk R n pg x y o) : NumOk R n (pg ++ more) x y o := by
  cases o with
  | none => exact h
  | some i =>
    obtain ⟨g, c, h1, h2⟩ := h
    exact ⟨g, c, by rw [List.getElem?_append_left (List.getElem?_eq_some_iff.mp h1).1]; exact h1, h2⟩
theorem PgOk.snoc {R : List Nat} {pg : List Pg} {g : Pg} (h : PgOk R pg) (hg : Pg1 R pg g) : PgOk R (pg ++ [g]) := fun i g' hi => by
  by_cases hlt : i < pg.length
  · rw [List.getElem?_append_left hlt] at hi
    rw [List.take_append_of_le_length (by omega)]
    exact h i g' hi
  · have hl := (List.getElem?_eq_some_iff.mp hi).1
    rw [List.length_append, List.length_singleton] at hl
    have e : i = pg.length := by omega
    subst e
    rw [List.getElem?_concat_length] at hi
    cases hi
    rw [List.take_left']
    · exact hg
    · rfl
/-- pieces are rows of the same kind -/
theorem pcs_ok {R : List Nat} (ok : Ok24 R) {n : Nat} {x y : List Int} (hn : n ≤ R.length) (hx : Nd (low R n) x) (hy : Ends2 (low R n) y) {z : List Int × List Int} (h : z ∈ pcs (low R n) x y) : ∃ n', n' ≤ n ∧ Nd (low R n') z.1 ∧ Ends2 (low R n') z.2 := by
  cases n with
  | zero => rw [low_zero] at h; cases h
  | succ n =>
    obtain ⟨m, hw, _⟩ := low_succ (R := R) (k := n) (by omega)
    have okm : Ok24 (m :: low R n) := hw ▸ ok.low (n + 1)
    rw [hw] at h hx hy
    obtain ⟨u, p, rfl, hu, p0, p1⟩ := hx
    obtain ⟨v, q, rfl, hv, q0, q1⟩ := hy.nd okm
    by_cases hpq : p = q
    · subst hpq
      rw [pcs_still] at h
      rw [List.mem_singleton.mp h]
      exact ⟨n, Nat.le_succ n, hu.nd okm.tl, hv⟩
    · rw [pcs_move _ _ _ _ hpq] at h
      rcases List.mem_cons.mp h with e | h
      · rw [e]
        exact ⟨n, Nat.le_succ n, hu.nd okm.tl, wy_ends _ _⟩
      · rw [List.mem_singleton.mp h]
        refine ⟨n + 1, Nat.le_refl _, ?_, by rw [hw]; exact hy⟩
        rw [hw]
        exact famW_nd (fwd_fam p0 p1 q0 q1 fun z => hpq z.symm)
/-- the row itself is bound: one piece -/
theorem num_still {R : List Nat} {n m : Nat} (hw : low R (n + 1) = m :: low R n) {pg : List Pg} {u v : List Int} {p : Int} {o : Option Nat} (h : NumOk R n pg u v o) : NumOk R (n + 1) pg (u ++ [p]) (v ++ [p]) o := by
  cases o with
  | none => show u ++ [p] = v ++ [p]; rw [show u = v from h]
  | some i =>
    obtain ⟨g, c, h1, h2, h3, h4⟩ := h
    refine ⟨g, c ++ [p], h1, by rw [h2, List.append_assoc], by rw [h3, List.append_assoc], ?_⟩
    rw [h4, hw, exV_still]
theorem SS.liftAll {R : List Nat} (ok : Ok24 R) {n : Nat} {kn fm kn1 fm1 : List (D × D)} (s1 : SS R (n + 1) kn1 fm1) (e : Ex (n + 1) kn fm kn1 fm1) : ∀ {N : Nat}, n + 1 ≤ N → SS R N kn fm → SS R N kn1 fm1
  | 0, h, _ => absurd h (Nat.not_succ_le_zero n)
  | N + 1, h, s => by
    by_cases hn : n + 1 = N + 1
    · rw [← hn]; exact s1
    · have ih := SS.liftAll ok s1 e (N := N) (by omega) (s.down (Nat.le_succ N))
      exact ⟨Good.lift ok s.good ih.good (e.up (by omega)), s1.ko, s1.fo⟩
/-! ### the binding's state -/
def Zb (dk df dp db : Addr) : Addr → Prop := fun x => Zs dk df x ∨ x = dp ∨ x = db
def bvF (a dp db : Addr) : List (Str × V) := [("solver", .ref a), ("pages", .ref dp), ("bound", .ref db)]
structure Bv (P : Program) (w : World) (K : PySem.W.Frag) (R : List Nat) (b a dk df dp db : Addr) (G : Hp) (kn fm : List (D × D)) (pg : List Pg) (bn : List (D × D)) : Prop where
  sv : Sv P w K R a dk df G kn fm
  ins : ∃ dx, G b = some (.ins (He.ga K "Binding") dx (bvF a dp db))
  pgs : ∃ vs, G dp = some (.lst vs) ∧ RpAll K G (pg.map pgD) vs
  bnd : Dic P w K G db bn
  nk : db ≠ dk
  nf : db ≠ df
  nc : NotDc G a db
section
variable {P : Program} {w : World} {K : PySem.W.Frag} {R : List Nat} {b a dk df dp db : Addr} {G G1 G2 H : Hp} {kn fm kn' fm' bn bn' : List (D × D)} {pg : List Pg} {Z : Addr → Prop}
theorem NotDc.same {dt : Addr} (h : NotDc G a dt) (S : Sv P w K R a dk df G kn fm) (s : Same G G1) : NotDc G1 a dt := h.core S (Core.of (Z := NoZ) s) fun z => z
theorem Bv.mono (B : Bv P w K R b a dk df dp db G kn fm pg bn) (s : Same G G1) : Bv P w K R b a dk df dp db G1 kn fm pg bn := by
  obtain ⟨dx, h1⟩ := B.ins
  obtain ⟨vs, h2, h3⟩ := B.pgs
  exact ⟨B.sv.mono s, ⟨dx, s _ _ h1⟩, ⟨vs, s _ _ h2, h3.mono (Same.tup s)⟩, B.bnd.mono s, B.nk, B.nf, B.nc.same B.sv s⟩
theorem Bv.tra (B : Bv P w K R b a dk df dp db G1 kn fm pg bn) (t : Tra Z H G1 G2) (hz : Z dp ∨ H dp = none) : Bv P w K R b a dk df dp db G2 kn fm pg bn := by
  obtain ⟨dx, h1⟩ := B.ins
  obtain ⟨vs, h2, h3⟩ := B.pgs
  have t3 : RpAll K G2 (pg.map pgD) vs := h3.mono t.tps
  refine ⟨B.sv.tra t, ⟨dx, t _ _ h1 (.inl fun _ q => by cases q)⟩, ⟨vs, t _ _ h2 (.inr hz), t3⟩, B.bnd.tra t, B.nk, B.nf, ?_⟩
  obtain ⟨dx', lv, dc, nv, cm, g1, _⟩ := B.sv.ex
  exact B.nc.keep g1 (t _ _ g1 (.inl fun _ q => by cases q))
theorem Bv.dpne (B : Bv P w K R b a dk df dp db G kn fm pg bn) : dp ≠ dk ∧ dp ≠ df ∧ dp ≠ db ∧ dp ≠ a ∧ dp ≠ b ∧ NotDc G a dp := by
  obtain ⟨vs, h2, _⟩ := B.pgs
  obtain ⟨dx, h1⟩ := B.ins
  obtain ⟨dx', lv, dc, nv, cm, g1, _, g3, _⟩ := B.sv.ex
  have ne : ∀ {x : Addr} {o : HO}, G x = some o → (∀ vs, o ≠ .lst vs) → dp ≠ x := fun e n z => by rw [z, e] at h2; exact n vs (Option.some.inj h2)
  obtain ⟨⟨φ1, q1⟩, _⟩ := B.sv.kn.ext
  obtain ⟨⟨φ2, q2⟩, _⟩ := B.sv.fm.ext
  obtain ⟨⟨φ3, q3⟩, _⟩ := B.bnd.ext
  obtain ⟨⟨φ4, q4⟩, _⟩ := Dic.ext g3
  refine ⟨ne q1 fun _ q => (by cases q), ne q2 fun _ q => (by cases q), ne q3 fun _ q => (by cases q), ne g1 fun _ q => (by cases q), ne h1 fun _ q => (by cases q), fun C dx2 fs e q => ?_⟩
  rw [g1] at e
  cases e
  have q' : some (V.ref dc) = some (.ref dp) := q
  have : dc = dp := by injection (Option.some.inj q')
  exact ne q4 (fun _ q => by cases q) this.symm
theorem Bv.znb (B : Bv P w K R b a dk df dp db G kn fm pg bn) : ZNb G (Zb dk df dp db) := fun x hx => by
  have ext : ∀ {d : Addr} {m : List (D × D)}, Dic P w K G d m → ∃ o, G d = some o ∧ (∀ xs, o ≠ .tup xs) ∧ ∀ ob u, o ≠ .frz ob u := fun h => by
    obtain ⟨⟨φ, q⟩, _⟩ := Dic.ext h
    exact ⟨_, q, fun _ q => (by cases q), fun _ _ q => (by cases q)⟩
  rcases hx with (rfl | rfl) | rfl | rfl
  · exact ext B.sv.kn
  · exact ext B.sv.fm
  · obtain ⟨vs, h2, _⟩ := B.pgs
    exact ⟨_, h2, fun _ q => (by cases q), fun _ _ q => (by cases q)⟩
  · exact ext B.bnd
/-- the solver's tables change -/
theorem Bv.solver (B : Bv P w K R b a dk df dp db G kn fm pg bn) (c : Core (Zs dk df) G G1) (S : Sv P w K R a dk df G1 kn' fm') : Bv P w K R b a dk df dp db G1 kn' fm' pg bn := by
  obtain ⟨dx, h1⟩ := B.ins
  obtain ⟨vs, h2, h3⟩ := B.pgs
  have hz : ∀ x, Zs dk df x → ∃ φ, G x = some (.ext φ) := fun x z => (B.sv.zext x z).1
  have nz : ∀ {x : Addr} {o : HO}, G x = some o → (∀ φ, o ≠ .ext φ) → ¬ Zs dk df x := fun e n z => by
    obtain ⟨φ, q⟩ := hz _ z
    rw [e] at q; exact n φ (Option.some.inj q)
  exact ⟨S, ⟨dx, c _ _ h1 (nz h1 fun _ q => by cases q)⟩, ⟨vs, c _ _ h2 (nz h2 fun _ q => by cases q), h3.mono (core_tps hz c)⟩, B.bnd.core hz c (fun z => z.elim B.nk B.nf), B.nk, B.nf, B.nc.core B.sv c B.sv.aNotZ⟩
end
end WB
namespace WB
open PySem PySem.Spec PyProof.Rows L2
theorem sh_str {x : Str} (h : PyData.strOk x = true) : Sh (.str x) := sh_of (by unfold D.sok; exact h) (Nat.zero_le _)
theorem sh_below : Sh (.str "below") := sh_str (by decide +kernel)
theorem sh_gap : Sh (.str "gap") := sh_str (by decide +kernel)
section
variable {X : Cx} {G : Hp} {Γ : List AV} {o : Expr} {pos : Pos} {R : List Nat} {b a dk df dp db : Addr} {kn fm bn : List (D × D)} {pg : List Pg}
theorem gv_solver (T : Tx X.K X.mg) (B : Bv X.prog X.w X.K R b a dk df dp db G kn fm pg bn) (ho : GV X G Γ o (.v (.ref b))) (hb : attributeBase o "solver" X.env (eval o X.env) = eval o X.env := by rfl) : GV X G Γ (.Attribute o "solver" pos) (.v (.ref a)) := by
  obtain ⟨dx, h1⟩ := B.ins
  exact gv_fld ho h1 T.cls_Binding T.n_Binding_solver rfl hb
theorem gv_pages (T : Tx X.K X.mg) (B : Bv X.prog X.w X.K R b a dk df dp db G kn fm pg bn) (ho : GV X G Γ o (.v (.ref b))) (hb : attributeBase o "pages" X.env (eval o X.env) = eval o X.env := by rfl) : GV X G Γ (.Attribute o "pages" pos) (.v (.ref dp)) := by
  obtain ⟨dx, h1⟩ := B.ins
  exact gv_fld ho h1 T.cls_Binding T.n_Binding_pages rfl hb
theorem gv_bound (T : Tx X.K X.mg) (B : Bv X.prog X.w X.K R b a dk df dp db G kn fm pg bn) (ho : GV X G Γ o (.v (.ref b))) (hb : attributeBase o "bound" X.env (eval o X.env) = eval o X.env := by rfl) : GV X G Γ (.Attribute o "bound" pos) (.v (.ref db)) := by
  obtain ⟨dx, h1⟩ := B.ins
  exact gv_fld ho h1 T.cls_Binding T.n_Binding_bound rfl hb
end
section
variable {P : Program} {w : World} {K : PySem.W.Frag} {mg : Str → Option Value} {base : Heap} {R : List Nat}
theorem core_free {a dk df l : Addr} {H G1 : Hp} {kn fm : List (D × D)} (S : Sv P w K R a dk df G1 kn fm) (c : Core (Zs dk df) H G1) (hl : G1 l = none) : H l = none := by
  cases hh : H l with
  | none => rfl
  | some o =>
    have nz : ¬ Zs dk df l := fun z => by
      obtain ⟨⟨φ, q⟩, _⟩ := S.zext l z
      rw [hl] at q; cases q
    have := c l o hh nz
    rw [hl] at this; cases this
def PostP (P : Program) (w : World) (K : PySem.W.Frag) (R : List Nat) (a dk df : Addr) (ds : List D) (H : Hp) (r : V) (G1 : Hp) : Prop := ∃ kn' fm' l vs, Sv P w K R a dk df G1 kn' fm' ∧ SS R (R.length + 1) kn' fm' ∧ r = .ref l ∧ H l = none ∧ G1 l = some (.lst vs) ∧ RpAll K G1 ds vs
def spPieces (P : Program) (w : World) (K : PySem.W.Frag) (R : List Nat) : Sp := fun vs H Q _ => ∃ (b a dk df dp db : Addr) (kn fm : List (D × D)) (pg : List Pg) (bn : List (D × D)) (n : Nat) (x y : List Int) (rowv : V), vs = [.ref b, rowv] ∧ Bv P w K R b a dk df dp db H kn fm pg bn ∧ SS R (R.length + 1) kn fm ∧ n ≤ R.length ∧ Rp K H (rowD x y) rowv ∧ Nd (low R n) x ∧ Ends2 (low R n) y ∧
  ∀ r G1 H', Core (Zs dk df) H G1 → Same G1 H' → PostP P w K R a dk df ((pcs (low R n) x y).map pcD) H r G1 → Q r H'
theorem sc_pieces : FnScope ["self", "row", "choice", "word", "gap", "way", "n"] ["self", "row"] (defScope s_Binding_pieces) := ⟨rfl, rfl, rfl, by decide +kernel, rfl, by decide +kernel, by decide +kernel⟩
theorem c_pieces (T : Tx K mg) (ok : Ok24 R) (hR : R.length ≤ 60) : Mtd P w K mg base (He.ga K "Binding") "pieces" ["self", "row"] 306 (spPieces P w K R) := by
  refine mtd_make (N := ["self", "row", "choice", "word", "gap", "way", "n"]) (k := 305) T.cls_Binding T.m_Binding_pieces T.f_Binding_pieces sc_pieces (fun _ _ _ _ _ _ us hl => match us, hl with | [_, _], _ => rfl) ?_ ?_
  · rintro vs H Q E ⟨b, a, dk, df, dp, db, kn, fm, pg, bn, n, x, y, rowv, rfl, _⟩; rfl
  · rintro cdv A outer s H vs Q E C ⟨b, a, dk, df, dp, db, kn, fm, pg, bn, n, x, y, rowv, rfl, B, ss, hn, hrow, hx, hy, hq⟩
    refine (?_ : GS _ H ([.v (.ref b), .d (rowD x y)] ++ [.no, .no, .no, .no, .no]) _ _) _ _ (fm_start (as := [.v (.ref b), .d (rowD x y)]) ⟨_, _, rfl, rfl, _, _, rfl, hrow, rfl⟩ (Nat.le_of_ble_eq_true rfl))
    have hxl := hx.len ok hn
    cases n with
    | zero =>
      refine gs_when (gt_of (gt_eqi C (ge_lenT (ds := x.map D.int) (ge_ixT (d := ti x) (ge_var (x := rowD x y) 1) ge_int) T.z_len) ge_int) ?_) ?_
      · rw [List.length_map, hxl]; rfl
      · refine gs_retY (gy_list (gl_lst (ds := []) ga_nil)) fun r G' H' ⟨l, vs, er, hl, s1, hl1, hr1⟩ s2 => ?_
        exact hq r G' H' (Core.of s1) s2 ⟨kn, fm, l, vs, B.sv.mono s1, ss, er, hl, hl1, by rw [low_zero]; exact hr1⟩
    | succ n =>
      obtain ⟨m, hw, _⟩ := low_succ (R := R) (k := n) (by omega)
      have okm : Ok24 (m :: low R n) := hw ▸ ok.low (n + 1)
      obtain ⟨u, p, ex, hu, p0, p1⟩ : Nd (m :: low R n) x := hw ▸ hx
      obtain ⟨v, q, ey, hv, q0, q1⟩ := (show Ends2 (m :: low R n) y from hw ▸ hy).nd okm
      subst ex; subst ey
      refine gs_unless (gt_of (gt_eqi C (ge_lenT (ds := (u ++ [p]).map D.int) (ge_ixT (d := ti (u ++ [p])) (ge_var (x := rowD (u ++ [p]) (v ++ [q])) 1) ge_int) T.z_len) ge_int) ?_) ?_
      · rw [List.length_map, hxl]; exact decide_eq_false (by omega)
      refine gs_setY C 2 (gy_row (c_choiceAll T ok hR hn) (C.hr.mono (by omega)) (gv_solver T B (gv_var 0 rfl (fun q => by cases q))) B.sv (ss.down (by omega)) (ge_var (x := rowD (u ++ [p]) (v ++ [q])) 1) hx hy hn trivial) fun r G1 ⟨c1, ⟨kn1, fm1, S1, s1, ex1, _⟩, r1⟩ => ⟨.d (toldD (m :: low R n) (u ++ [p]) (v ++ [q])), by rw [← hw]; exact r1, ?_⟩
      have ss1 := SS.liftAll ok s1 ex1 (N := R.length + 1) (by omega) ss
      have B1 := B.solver c1 S1
      rw [told_snoc]
      by_cases hpq : p = q
      · subst hpq
        rw [if_pos rfl]
        refine gs_when (gt_of (gt_eq' C (ge_ixT (ds := [.str "below"]) (d := .str "below") (ge_var (x := belowD) 2) ge_int) ge_str sh_below sh_below) (by decide)) ?_
        refine gs_retY (gy_list (gl_lst (ds := [rowD u v]) (gac1 (ge_call (c_below T) (C.hr.mono (by decide)) (gac1 (ge_var (x := rowD (u ++ [p]) (v ++ [p])) 1)) ⟨[(u, p), (v, p)], rfl, Nat.le_of_ble_eq_true rfl, rfl⟩)))) fun r G' H' ⟨l, vs, er, hl, s1, hl1, hr1⟩ s2 => ?_
        exact hq r G' H' (c1.then s1) s2 ⟨kn1, fm1, l, vs, S1.mono s1, ss1, er, core_free S1 c1 hl, hl1, by rw [hw, pcs_still]; exact hr1⟩
      · rw [if_neg hpq]
        refine gs_unless (gt_of (gt_eq' C (ge_ixT (d := .str "gap") (ge_var (x := gapT (low R n) p (stepT p q)) 2) ge_int) ge_str sh_gap sh_below) (by decide)) ?_
        generalize ht : stepT p q = t
        generalize hw' : Wy (low R n) (min p t).toNat = w'
        have eg : gapT (low R n) p t = .tup [.str "gap", gapD p t w', ti w', .int 1] := by unfold gapT; rw [hw']
        rw [eg]
        refine gs_unp (d := .tup [.str "gap", gapD p t w', ti w', .int 1]) C (ge_var 2) (tg_tup C (tgs_cons (tg_name C 3) (tgs_cons (tg_name C 4) (tgs_cons (tg_name C 5) (tgs_cons (tg_name C 6) tgs_nil))))) ?_
        have hwl : w'.length ≤ 100 := by
          have h2 : Ends2 (low R n) w' := hw' ▸ wy_ends _ _
          rw [h2.len ok (by omega)]; omega
        refine gs_retY (gy_list (gl_lst (ds := [rowD u w', rowD (w' ++ [t]) (v ++ [q])]) (gac (ge_cat' (xs := [ti u]) (ys := [ti w']) (ge_call (c_below T) (C.hr.mono (by decide)) (gac1 (ge_slT (ds := [ti (u ++ [p]), ti (v ++ [q])]) (l := none) (u := some 1) (ge_var (x := rowD (u ++ [p]) (v ++ [q])) 1) gp_none (gp_some (ge_var 6)))) ⟨[(u, p)], rfl, Nat.le_of_ble_eq_true rfl, rfl⟩) (ge_tup (ds := [ti w']) (gac1 (ge_var 5))) (Nat.le_of_ble_eq_true rfl)) (gac1 (ge_cat' (xs := [ti (w' ++ [t])]) (ys := [ti (v ++ [q])]) (ge_tup (ds := [ti (w' ++ [t])]) (gac1 (ge_of (ge_cat' (xs := w'.map D.int) (ys := [.int t]) (ge_var (x := ti w') 5) (ge_tup (ds := [.int t]) (gac1 (ge_ixT (d := .int t) (ge_var (x := gapD p t w') 4) ge_int))) ?_) (ti_snoc _ _).symm))) (ge_slT (ds := [ti (u ++ [p]), ti (v ++ [q])]) (l := some 1) (u := none) (ge_var (x := rowD (u ++ [p]) (v ++ [q])) 1) (gp_some (ge_var 6)) gp_none) (Nat.le_of_ble_eq_true rfl)))))) fun r G' H' ⟨l, vs, er, hl, s1, hl1, hr1⟩ s2 => ?_
        · rw [List.length_map]; simp; omega
        · refine hq r G' H' (c1.then s1) s2 ⟨kn1, fm1, l, vs, S1.mono s1, ss1, er, core_free S1 c1 hl, hl1, ?_⟩
          rw [hw, pcs_move _ _ _ _ hpq]
          unfold fwdW
          rw [ht, hw']; exact hr1
end
end WB
namespace WB
open PySem PySem.Spec PyProof.Rows L2
/-! ### comprehensions over a list that a state-changing call gave -/
section
variable {X : Cx} {H0 : Hp} {Γ : List AV} {c e elt tg iter : Expr} {pos p1 spos : Pos} {els : List D} {n : Str} {k : Nat} {sts : List Stmt} {E : Ends} {Ψ : V → Hp → Prop}
/-- y = [f for .. in e ], e changing things -/
theorem gs_setLcY0 (C : Cok X k) {scope : Scope} (i : Nat) (own : List (Str × Nat)) {js : List Nat} (u : D → List AV → List AV) (f : D → D) (hi : GY X H0 Γ iter Ψ)
    (h : ∀ v G', Ψ v G' → ∃ (l : Addr) (vs : List V) (els : List D), v = .ref l ∧ G' l = some (.lst vs) ∧ RpAll X.K G' els vs ∧ els.length < 100000 ∧ (∀ d ∈ els, InBlk X scope fun Y => TgOk Y tg js d (u d)) ∧
      (∀ Hb, Same G' Hb → ∀ d ∈ els, InBlk X scope fun Y => GE Y Hb (u d (wipeA Γ (own.map (·.2)))) elt (f d)) ∧
      GS X G' (Γ.set i (.own (els.map f))) sts E)
    (hy : X.N[i]? = some n := by rfl) (hyl : X.env.scope.names.lookup n = some .local := by rfl)
    (hsw : swapsWith (.ListComp elt [⟨tg, iter, [], 0⟩] scope pos) (some (.Name n p1)) spos.line X.env = pure true := by exact sw_true rfl rfl rfl (by decide +kernel))
    (hjs : ∀ j ∈ js, j ∈ own.map (·.2) := by decide) (ok : BlkOk X.N X.env.scope scope own := by exact blkOk_by rfl) (hs : ∀ x, foldedSetIterable iter X.env x = pure x := by intro _; rfl) :
    GS X H0 Γ (.Assign [.Name n p1] (.ListComp elt [⟨tg, iter, [], 0⟩] scope pos) spos :: sts) E := fun σ H F => by
  refine sr_cons (s1_of (ps_setLc (g := tgB X scope tg) (tt := tYes) (te := teB X scope elt) C.hc C.nd hy hyl hsw (pi_list pe_self) ok (fun s H C cl fp => pg_blk s H C cl fp) (fun _ _ _ _ _ => pts_nil) (fun s H C cl fp => pe_blk s H C cl fp) hs) ?_)
  refine hi σ H _ F fun v H1 G' q F' => ?_
  obtain ⟨l, vs, els, ev, hl, hr, hlen, ht, he, hgs⟩ := h v G' q
  refine ⟨l, ev, ⟨vs, SqL.of (F'.ex _ _ hl)⟩, ?_⟩
  show tLc (fun _ H R => R (Itl X.K l) H) (tgB X scope tg) tYes (teB X scope elt) (own.map (·.2)) σ H1 (fun x H1 => gName i x σ H1 fun σ' H' => SR X sts E σ' H')
  refine lc_body (p := fun _ => true) (u := u) (js := js) (l0 := l) hjs hlen ht (fun Hb _ d _ σ H Q _ h => h H (Same.refl H)) (fun Hb s0 d hd _ => he Hb s0 d hd) F' (fun Hb s0 sb hall => ?_) ?_
  rotate_left
  · rw [List.filter_eq_self.mpr (fun _ _ => rfl)]
    exact fun l2 ws H' hn e' h1 r1 => hgs _ _ (F'.set_own hn e' h1 r1)
  have sbl : Hb l = some (.lst vs) := s0 _ _ hl
  have rb := hr.mono (Same.tup s0)
  have hln := hr.length
  refine ⟨fun i H' hi e' => ⟨vs, vs[i]'(by omega), SqL.of (e' _ _ sbl), List.getElem?_eq_getElem (by omega)⟩, fun H' e' => ⟨vs, SqL.of (e' _ _ sbl), by omega⟩, fun i x H' H'' hi e' hy => ?_⟩
  obtain ⟨e3, hy⟩ := hy
  subst e3
  obtain ⟨d, hd, hrd⟩ := rb.get' (hy vs (SqL.of (e' _ _ sbl)))
  exact ⟨Same.refl _, d, hd, hrd.mono (Same.tup e')⟩
/-- a, b = e, e changing things -/
theorem gs_unpY (C : Cok X k) {tg : Expr} {js : List Nat} {u : List AV → List AV} (he : GY X H0 Γ e Ψ) (h : ∀ v G', Ψ v G' → ∃ d, Rp X.K G' d v ∧ TgOk X tg js d u ∧ GS X G' (u Γ) sts E)
    (hs : swapsWithSole [tg] e pos.line X.env = pure false := by rfl) (hw : swappedStores [tg] e X.env = pure none := by rfl) (h1 : (assignEach [tg] X.env).map (·.2) = [assign tg X.env] := by rfl) : GS X H0 Γ (.Assign [tg] e pos :: sts) E := fun σ H F => by
  refine sr_cons (s1_of (ps_asg pe_self pg_self hs hw h1) ?_)
  refine he σ H _ F fun v H1 G' q F' => ?_
  obtain ⟨d, r, ht, hg⟩ := h v G' q
  exact ht G' Γ σ H1 v _ F' (r.mono (Same.tup F'.ex)) fun σ' _ _ F2 => hg σ' H1 F2
theorem gb_fld {o : Expr} {l : Addr} {vs : List V} {xs : List D} (ho : GV X H0 Γ o (.v (.ref l))) (hG : H0 l = some (.lst vs)) (hr : RpAll X.K H0 xs vs) : GV X H0 Γ o (.bw xs) := fun σ H Q F kq => ho σ H Q F fun v H1 e1 r1 => kq v H1 e1 ⟨l, vs, r1, SqL.of (e1 _ _ (F.ex _ _ hG)), hr.mono (Same.tup (F.ex.trans e1))⟩
end
section
variable {X : Cx} {G : Hp} {Γ : List AV} {e o : Expr} {pos apos : Pos} {k : Nat} {R : List Nat} {b a dk df dp db : Addr} {kn fm bn : List (D × D)} {pg : List Pg} {n : Nat} {x y : List Int}
theorem Bv.ins0 {P : Program} {w : World} {K : PySem.W.Frag} (B : Bv P w K R b a dk df dp db G kn fm pg bn) {m : Str} (hm : ∀ a dp db, (bvF a dp db).lookup m = none) : ∃ dx fs, G b = some (.ins (He.ga K "Binding") dx fs) ∧ fs.lookup m = none := by
  obtain ⟨dx, h1⟩ := B.ins
  exact ⟨dx, _, h1, hm _ _ _⟩
theorem gy_pieces (M : Mtd X.prog X.w X.K X.mg X.base (He.ga X.K "Binding") "pieces" ["self", "row"] k (spPieces X.prog X.w X.K R)) (hr : Room k X.A) (ho : GV X G Γ o (.v (.ref b))) (B : Bv X.prog X.w X.K R b a dk df dp db G kn fm pg bn) (ss : SS R (R.length + 1) kn fm) (he : GE X G Γ e (rowD x y)) (hn : n ≤ R.length) (hx : Nd (low R n) x) (hy : Ends2 (low R n) y)
    (hst1 : starEach [e] X.env = (false, eval e X.env) :: starEach [] X.env := by rfl) (hpl : (backTo pos (starEach [] X.env)).any (·.1) = false := by rfl)
    {pl : Sem Bool} (ht : eval (.Call (.Attribute o "pieces" apos) [e] [] pos) X.env = (do let ov ← eval o X.env; standAt apos.atName; let (f, first) ← holding [ov] (getMethod ov "pieces" pl); callWith pos f first (backTo pos (starEach [e] X.env)) (backToKw pos (keywordEach [] X.env))) := by rfl) :
    GY X G Γ (.Call (.Attribute o "pieces" apos) [e] [] pos) (fun r G' => Core (Zs dk df) G G' ∧ ∃ kn' fm' l vs, Bv X.prog X.w X.K R b a dk df dp db G' kn' fm' pg bn ∧ SS R (R.length + 1) kn' fm' ∧ r = .ref l ∧ G l = none ∧ G' l = some (.lst vs) ∧ RpAll X.K G' ((pcs (low R n) x y).map pcD) vs) := by
  obtain ⟨dx, fs, hG, hl⟩ := B.ins0 (m := "pieces") (fun _ _ _ => rfl)
  refine GY.imp (gy_methH (Z := Zs dk df) (as := [.d (rowD x y)]) (post := fun r H G' => PostP X.prog X.w X.K R a dk df ((pcs (low R n) x y).map pcD) H r G') M hr ho hG hl (gac1 he hst1) (zok_ext B.sv.zext) (fun vs H Q s r hq => ?_) (fun v H G1 G2 t q => ?_) hst1 hpl ht) fun r G' ⟨c1, H, s, q⟩ => ?_
  · obtain ⟨rowv, r', ev, rr, er⟩ := r
    subst ev; cases er
    exact ⟨b, a, dk, df, dp, db, kn, fm, pg, bn, n, x, y, rowv, rfl, B.mono s, ss, hn, rr, hx, hy, hq⟩
  · obtain ⟨kn', fm', l, vs, h1, h2, h3, h4, h5, h6⟩ := q
    exact ⟨kn', fm', l, vs, h1.tra t, h2, h3, h4, t _ _ h5 (.inr (.inr h4)), by
      have : ∀ {ds : List D} {vs : List V}, RpAll X.K G1 ds vs → RpAll X.K G2 ds vs := fun h => h.mono t.tps
      exact this h6⟩
  · obtain ⟨kn', fm', l, vs, h1, h2, h3, h4, h5, h6⟩ := q
    exact ⟨c1, kn', fm', l, vs, B.solver c1 h1, h2, h3, s.free h4, h5, h6⟩
end
end WB
namespace WB
open PySem PySem.Spec PyProof.Rows L2
section
variable {P : Program} {w : World} {K : PySem.W.Frag} {R : List Nat} {b a dk df dp db : Addr} {G G1 G2 H : Hp} {kn fm kn' fm' bn bn' : List (D × D)} {pg : List Pg} {Z : Addr → Prop}
theorem Bv.setB (B : Bv P w K R b a dk df dp db G kn fm pg bn) (c : Core (fun x => x = db) G G1) (hd : Dic P w K G1 db bn') : Bv P w K R b a dk df dp db G1 kn fm pg bn' := by
  obtain ⟨dx, h1⟩ := B.ins
  obtain ⟨vs, h2, h3⟩ := B.pgs
  obtain ⟨⟨φ, q⟩, _⟩ := B.bnd.ext
  obtain ⟨dx', lv, dc, nv, cm, g1, _⟩ := B.sv.ex
  have tp : Tps K G G1 := tps_d (fun ys e => by rw [q] at e; cases e) (fun ob ys e => by rw [q] at e; cases e) c
  have nb : b ≠ db := fun z => by rw [z, q] at h1; cases h1
  have na : a ≠ db := fun z => by rw [z, q] at g1; cases g1
  exact ⟨B.sv.coreD na (fun z => B.nk z.symm) (fun z => B.nf z.symm) B.nc c tp, ⟨dx, c _ _ h1 nb⟩, ⟨vs, c _ _ h2 B.dpne.2.2.1, h3.mono tp⟩, hd, B.nk, B.nf, B.nc.core B.sv c na⟩
theorem Bv.setP (B : Bv P w K R b a dk df dp db G kn fm pg bn) {vs : List V} {v : V} {g : Pg} (h0 : G dp = some (.lst vs)) (hr : RpAll K G (pg.map pgD) vs) (c : Core (fun x => x = dp) G G1) (h1 : G1 dp = some (.lst (vs ++ [v]))) (hv : Rp K G1 (pgD g) v) : Bv P w K R b a dk df dp db G1 kn fm (pg ++ [g]) bn := by
  obtain ⟨dx, h2⟩ := B.ins
  obtain ⟨n1, n2, n3, n4, n5, n6⟩ := B.dpne
  have tp : Tps K G G1 := tps_d (fun ys e => by rw [h0] at e; cases e) (fun ob ys e => by rw [h0] at e; cases e) c
  have r1 : RpAll K G1 (pg.map pgD) vs := hr.mono tp
  refine ⟨B.sv.coreD (fun z => n4 z.symm) (fun z => n1 z.symm) (fun z => n2 z.symm) n6 c tp, ⟨dx, c _ _ h2 fun z => n5 z.symm⟩, ⟨vs ++ [v], h1, ?_⟩, B.bnd.coreD (fun z => n3 z.symm) c tp, B.nk, B.nf, B.nc.core B.sv c fun z => n4 z.symm⟩
  rw [List.map_append]
  exact r1.snoc hv
end
/-! ### bind, plainly -/
theorem BnOk.put {R : List Nat} (ok : Ok24 R) {pg more : List Pg} {bn : List (D × D)} (Bk : BnOk R pg bn) {n : Nat} {x y : List Int} {o : Option Nat} (hn : n ≤ R.length) (hx : Nd (low R n) x) (hy : Ends2 (low R n) y) (h0 : dget bn (rowD x y) = none) (ho : NumOk R n (pg ++ more) x y o) (hp : ∀ z ∈ pcs (low R n) x y, (dget bn (pcD z)).isSome = true) (hm : more.length ≤ 1) (hpg : PgOk R (pg ++ more)) : BnOk R (pg ++ more) (dset bn (rowD x y) (bndD x y o)) := by
  have up : ∀ d : D, (dget bn d).isSome = true → (dget (dset bn (rowD x y) (bndD x y o)) d).isSome = true := fun d h => by
    rw [dget_dset]
    split
    · rfl
    · exact h
  refine ⟨Bk.ko.set hn hx hy, fun n1 x1 y1 c h1 hx1 hy1 hg => ?_, hpg, ?_⟩
  · rw [dget_dset] at hg
    by_cases hk : (rowD x y).key = (rowD x1 y1).key
    · rw [if_pos hk] at hg
      obtain ⟨e1, e2⟩ := row_key.mp hk
      subst e1; subst e2
      have en : n = n1 := (hx.len ok hn).symm.trans (hx1.len ok h1)
      subst en
      exact ⟨o, (Option.some.inj hg).symm, ho, fun z hz => up _ (hp z hz)⟩
    · rw [if_neg hk] at hg
      obtain ⟨o1, e1, e2, e3⟩ := Bk.at_ n1 x1 y1 c h1 hx1 hy1 hg
      exact ⟨o1, e1, e2.more, fun z hz => up _ (e3 z hz)⟩
  · have hkeys := dset_keys bn (rowD x y) (bndD x y o)
    rw [h0, if_neg (by simp)] at hkeys
    have := congrArg List.length hkeys
    rw [List.length_map, List.length_append, List.length_map, List.length_singleton] at this
    rw [List.length_append]
    have := Bk.len
    omega
theorem BnOk.small {R : List Nat} (ok : Ok24 R) (hR : R.length ≤ 60) {pg : List Pg} {bn : List (D × D)} (Bk : BnOk R pg bn) : bn.length ≤ 976 ∧ pg.length ≤ 976 := by
  have h1 := Bk.ko.len ok
  have h2 := Bk.len
  omega
end WB
namespace WB
open PySem PySem.Spec PyProof.Rows L2
section
variable {P : Program} {w : World} {K : PySem.W.Frag} {mg : Str → Option Value} {base : Heap} {R : List Nat}
def PostB (P : Program) (w : World) (K : PySem.W.Frag) (R : List Nat) (b a dk df dp db : Addr) (pg : List Pg) (bn : List (D × D)) (n : Nat) (x y : List Int) (G1 : Hp) : Prop := ∃ kn' fm' pg' bn', Bv P w K R b a dk df dp db G1 kn' fm' pg' bn' ∧ SS R (R.length + 1) kn' fm' ∧ BnOk R pg' bn' ∧ (∃ o, dget bn' (rowD x y) = some (bndD x y o) ∧ (x.getLastD 0 ≠ y.getLastD 0 → ∃ g, pg' = pg ++ [g] ∧ g.x = x ∧ g.y = y ∧ o = some pg.length)) ∧ ∀ d : D, d.key ≠ (rowD x y).key → dget bn' d = dget bn d
def spBind (P : Program) (w : World) (K : PySem.W.Frag) (R : List Nat) : Sp := fun vs H Q _ => ∃ (b a dk df dp db : Addr) (kn fm : List (D × D)) (pg : List Pg) (bn : List (D × D)) (n : Nat) (x y : List Int) (rowv : V), vs = [.ref b, rowv] ∧ Bv P w K R b a dk df dp db H kn fm pg bn ∧ SS R (R.length + 1) kn fm ∧ BnOk R pg bn ∧ n ≤ R.length ∧ Rp K H (rowD x y) rowv ∧ Nd (low R n) x ∧ Ends2 (low R n) y ∧ dget bn (rowD x y) = none ∧ (∀ z ∈ pcs (low R n) x y, (dget bn (pcD z)).isSome = true) ∧
  ∀ r G1 H', Core (Zb dk df dp db) H G1 → Same G1 H' → PostB P w K R b a dk df dp db pg bn n x y G1 → Q r H'
theorem core_b {dk df dp db : Addr} {G G1 : Hp} (c : Core (fun x => x = db) G G1) : Core (Zb dk df dp db) G G1 := fun x o e n => c x o e fun z => n (.inr (.inr z))
theorem core_p {dk df dp db : Addr} {G G1 : Hp} (c : Core (fun x => x = dp) G G1) : Core (Zb dk df dp db) G G1 := fun x o e n => c x o e fun z => n (.inr (.inl z))
theorem core_s {dk df dp db : Addr} {G G1 : Hp} (c : Core (Zs dk df) G G1) : Core (Zb dk df dp db) G G1 := fun x o e n => c x o e fun z => n (.inl z)
theorem sc_bind : FnScope ["self", "row", "some", "begin", "end", "number", "place", "word", "gap", "way", "n", "entries", "piece"] ["self", "row"] (defScope s_Binding_bind) := ⟨rfl, rfl, rfl, by decide +kernel, rfl, by decide +kernel, by decide +kernel⟩
theorem c_bind (T : Tx K mg) (ok : Ok24 R) (hR : R.length ≤ 60) : Mtd P w K mg base (He.ga K "Binding") "bind" ["self", "row"] 307 (spBind P w K R) := by
  refine mtd_make (N := ["self", "row", "some", "begin", "end", "number", "place", "word", "gap", "way", "n", "entries", "piece"]) (k := 306) T.cls_Binding T.m_Binding_bind T.f_Binding_bind sc_bind (fun _ _ _ _ _ _ us hl => match us, hl with | [_, _], _ => rfl) ?_ ?_
  · rintro vs H Q E ⟨b, a, dk, df, dp, db, kn, fm, pg, bn, n, x, y, rowv, rfl, _⟩; rfl
  · rintro cdv A outer s H vs Q E C ⟨b, a, dk, df, dp, db, kn, fm, pg, bn, n, x, y, rowv, rfl, B, ss, Bk, hn, hrow, hx, hy, h0, hps, hq⟩
    refine (?_ : GS _ H ([.v (.ref b), .d (rowD x y)] ++ [.no, .no, .no, .no, .no, .no, .no, .no, .no, .no, .no]) _ _) _ _ (fm_start (as := [.v (.ref b), .d (rowD x y)]) ⟨_, _, rfl, rfl, _, _, rfl, hrow, rfl⟩ (Nat.le_of_ble_eq_true rfl))
    have hxl := hx.len ok hn
    have hsm := Bk.small ok hR
    have oth : ∀ c : D, ∀ d : D, d.key ≠ (rowD x y).key → dget (dset bn (rowD x y) c) d = dget bn d := fun c d hd => by rw [dget_dset, if_neg fun z => hd z.symm]
    have at_ : ∀ c : D, dget (dset bn (rowD x y) c) (rowD x y) = some c := fun c => by rw [dget_dset, if_pos rfl]
    cases n with
    | zero =>
      have ex : x = [] := by rw [low_zero] at hx; exact hx
      have ey : y = [] := by rw [low_zero] at hy; rcases hy with h | h <;> exact h
      subst ex; subst ey
      refine gs_when (gt_of (gt_eqi C (ge_lenT (ds := []) (ge_ixT (d := ti []) (ge_var (x := rowD [] []) 1) ge_int) T.z_len) ge_int) rfl) ?_
      refine gs_dset C (gy_of (ge_tup (ds := [ti [], ti [], .non]) (gac (ge_tup (ds := []) ga_nil) (gac (ge_tup (ds := []) ga_nil) (gac1 ge_non))))) fun vv G1 ⟨s1, r1⟩ => ⟨db, bn, [ti [], ti []], bndD [] [] none, (B.mono s1).bnd, r1, gv_bound T (B.mono s1) (gv_var 0 rfl (fun q => by cases q)), ge_var (x := rowD [] []) 1, by omega, row_dep _ _, fun G2 c2 hd2 => ?_⟩
      refine gs_retN fun H' s => ?_
      have bk := BnOk.put (more := []) (o := none) ok Bk hn hx hy h0 rfl hps (Nat.zero_le _) (by rw [List.append_nil]; exact Bk.pgs)
      rw [List.append_nil] at bk
      exact hq .non G2 H' ((Core.of s1).trans (core_b c2)) s ⟨kn, fm, pg, _, (B.mono s1).setB c2 hd2, ss, bk, ⟨none, at_ _, fun z => absurd rfl z⟩, oth _⟩
    | succ n =>
      obtain ⟨m, hw, _⟩ := low_succ (R := R) (k := n) (by omega)
      have okm : Ok24 (m :: low R n) := hw ▸ ok.low (n + 1)
      obtain ⟨u, p, ex, hu, p0, p1⟩ : Nd (m :: low R n) x := hw ▸ hx
      obtain ⟨v, q, ey, hv, q0, q1⟩ := (show Ends2 (m :: low R n) y from hw ▸ hy).nd okm
      subst ex; subst ey
      refine gs_unless (gt_of (gt_eqi C (ge_lenT (ds := (u ++ [p]).map D.int) (ge_ixT (d := ti (u ++ [p])) (ge_var (x := rowD (u ++ [p]) (v ++ [q])) 1) ge_int) T.z_len) ge_int) ?_) ?_
      · rw [List.length_map, hxl]; exact decide_eq_false (by omega)
      refine gs_setLcY0 C 2 [("piece", 12)] (js := [12]) (fun d Γ => Γ.set 12 (.d d)) (fun d => (dget bn d).getD .non) (gy_pieces (c_pieces T ok hR) C.hr (gv_var 0 rfl (fun q => by cases q)) B ss (ge_var (x := rowD (u ++ [p]) (v ++ [q])) 1) hn hx hy) fun r G1 ⟨c1, kn1, fm1, l, vs, B1, ss1, er, hl0, hl1, hr1⟩ => ⟨l, vs, _, er, hl1, hr1, ?_, ?_, ?_, ?_⟩
      · rw [List.length_map, hw]
        by_cases hpq : p = q
        · subst hpq; rw [pcs_still]; exact Nat.le_of_ble_eq_true rfl
        · rw [pcs_move _ _ _ _ hpq]; exact Nat.le_of_ble_eq_true rfl
      · intro d hd s H C' cl fp
        exact tg_name C.blk 12
      · intro Hb s0 d hd s H C' cl fp
        obtain ⟨z, hz, rfl⟩ := List.mem_map.mp hd
        obtain ⟨c, hc⟩ := Option.isSome_iff_exists.mp (hps z hz)
        rw [hc]
        exact ge_dget C.blk (gv_bound T (B1.mono s0) (gv_var (p := .v (.ref b)) 0 rfl (fun q => by cases q))) (ge_var (x := pcD z) 12) (B1.mono s0).bnd hc (row_dep _ _)
      have hul : u.length ≤ 100 := by rw [hu.len ok (by omega)]; omega
      have hvl : v.length ≤ 100 := by rw [hv.len ok (by omega)]; omega
      have nw := hps
      rw [hw] at nw ⊢
      by_cases hpq : p = q
      · subst hpq
        rw [pcs_still] at nw ⊢
        obtain ⟨c, hc⟩ := Option.isSome_iff_exists.mp (nw (u, v) List.mem_cons_self)
        obtain ⟨o, rfl, ho, _⟩ := Bk.at_ n u v c (by omega) (hu.nd okm.tl) hv hc
        have ef : ([(u, v)].map pcD).map (fun d => (dget bn d).getD .non) = [bndD u v o] := by
          show [(dget bn (pcD (u, v))).getD .non] = _
          rw [hc]; rfl
        rw [ef]
        refine gs_unp (d := bndD u v o) C (ge_ixL (go_var 2) ge_int) (tg_tup C (tgs_cons (tg_name C 3) (tgs_cons (tg_name C 4) (tgs_cons (tg_name C 5) tgs_nil)))) ?_
        refine gs_when (gt_of (gt_eqi C (ge_lenL (ds := [bndD u v o]) (go_var 2) T.z_len) ge_int) rfl) ?_
        refine gs_set C 6 (ge_call (c_first_last T) (C.hr.mono (by decide)) (gac1 (ge_var (x := rowD (u ++ [p]) (v ++ [p])) 1)) ⟨u, v, p, p, rfl, rfl⟩) ?_
        have cat : ∀ (z : List Int), z.length ≤ 100 → (z.map D.int).length + ([D.int p] : List D).length ≤ 100000 := fun z h => by rw [List.length_map]; simp; omega
        refine gs_dset C (gy_of (ge_tup (ds := [ti (u ++ [p]), ti (v ++ [p]), optD o]) (gac (ge_of (ge_cat' (xs := u.map D.int) (ys := [.int p]) (ge_var (x := ti u) 3) (ge_tup (ds := [.int p]) (gac1 (ge_var 6))) (cat u hul)) (ti_snoc _ _).symm) (gac (ge_of (ge_cat' (xs := v.map D.int) (ys := [.int p]) (ge_var (x := ti v) 4) (ge_tup (ds := [.int p]) (gac1 (ge_var 6))) (cat v hvl)) (ti_snoc _ _).symm) (gac1 (ge_var (x := optD o) 5)))))) fun vv G2 ⟨s2, r2⟩ => ⟨db, bn, [ti (u ++ [p]), ti (v ++ [p])], bndD (u ++ [p]) (v ++ [p]) o, (B1.mono s2).bnd, r2, gv_bound T (B1.mono s2) (gv_var 0 rfl (fun q => by cases q)), ge_var (x := rowD (u ++ [p]) (v ++ [p])) 1, by omega, row_dep _ _, fun G3 c3 hd3 => ?_⟩
        · refine gs_retN fun H' s => ?_
          have bk := BnOk.put (more := []) (o := o) ok Bk hn hx hy h0 (by rw [List.append_nil]; exact num_still hw ho) hps (Nat.zero_le _) (by rw [List.append_nil]; exact Bk.pgs)
          rw [List.append_nil] at bk
          exact hq .non G3 H' ((core_s c1).trans ((Core.of s2).trans (core_b c3))) s ⟨kn1, fm1, pg, _, (B1.mono s2).setB c3 hd3, ss1, bk, ⟨o, at_ _, fun z => absurd (by rw [List.getLastD_concat, List.getLastD_concat]) z⟩, oth _⟩
      · rw [pcs_move _ _ _ _ hpq] at nw ⊢
        have hfw : Nd (low R (n + 1)) (fwdW (low R n) p q) := by rw [hw]; exact famW_nd (fwd_fam p0 p1 q0 q1 fun z => hpq z.symm)
        obtain ⟨ca, hca⟩ := Option.isSome_iff_exists.mp (nw _ List.mem_cons_self)
        obtain ⟨cb, hcb⟩ := Option.isSome_iff_exists.mp (nw _ (List.mem_cons_of_mem _ List.mem_cons_self))
        obtain ⟨o1, rfl, ho1, _⟩ := Bk.at_ n u _ ca (by omega) (hu.nd okm.tl) (wy_ends _ _) hca
        obtain ⟨o2, rfl, ho2, _⟩ := Bk.at_ (n + 1) _ (v ++ [q]) cb hn hfw hy hcb
        generalize ht : stepT p q = t at hca ho1
        generalize hw' : Wy (low R n) (min p t).toNat = w' at hca ho1
        have hwl : w'.length = n := by
          have h2 : Ends2 (low R n) w' := hw' ▸ wy_ends _ _
          exact h2.len ok (by omega)
        have ef : ([(u, w'), (fwdW (low R n) p q, v ++ [q])].map pcD).map (fun d => (dget bn d).getD .non) = [bndD u w' o1, bndD (fwdW (low R n) p q) (v ++ [q]) o2] := by
          show [(dget bn (pcD (u, w'))).getD .non, (dget bn (pcD (fwdW (low R n) p q, v ++ [q]))).getD .non] = _
          rw [hca, hcb]; rfl
        rw [ef]
        refine gs_unp (d := bndD u w' o1) C (ge_ixL (go_var 2) ge_int) (tg_tup C (tgs_cons (tg_name C 3) (tgs_cons (tg_name C 4) (tgs_cons (tg_name C 5) tgs_nil)))) ?_
        refine gs_unless (gt_of (gt_eqi C (ge_lenL (ds := [bndD u w' o1, bndD (fwdW (low R n) p q) (v ++ [q]) o2]) (go_var 2) T.z_len) ge_int) rfl) ?_
        refine gs_unpY C (gy_row (c_choiceAll T ok hR hn) (C.hr.mono (by omega)) (gv_solver T B1 (gv_var 0 rfl (fun q => by cases q))) B1.sv (ss1.down (by omega)) (ge_var (x := rowD (u ++ [p]) (v ++ [q])) 1) hx hy hn trivial) fun r2 G2 ⟨c2, ⟨kn2, fm2, S2, s2, ex2, _⟩, r2'⟩ => ⟨.tup [.str "gap", gapD p t w', ti w', .int 1], ?_, tg_tup C (tgs_cons (tg_name C 7) (tgs_cons (tg_name C 8) (tgs_cons (tg_name C 9) (tgs_cons (tg_name C 10) tgs_nil)))), ?_⟩
        · rw [hw, told_snoc, if_neg hpq, ht] at r2'
          unfold gapT at r2'
          rw [hw'] at r2'
          exact r2'
        have ss2 := SS.liftAll ok s2 ex2 (N := R.length + 1) (by omega) ss1
        have B2 := B1.solver c2 S2
        refine gs_set C 3 (d := ti (u ++ [p])) (ge_of (ge_cat' (xs := u.map D.int) (ys := [.int p]) (ge_var (x := ti u) 3) (ge_tup (ds := [.int p]) (gac1 (ge_ixT (d := .int p) (ge_var (x := gapD p t w') 8) ge_int))) (by rw [List.length_map]; simp; omega)) (ti_snoc _ _).symm) ?_
        obtain ⟨pvs, hp0, hpr⟩ := B2.pgs
        have hpl := hpr.length
        rw [List.length_map] at hpl
        have eD : D.tup [ti (u ++ [p]), ti (v ++ [q]), .tup (usedD o1 ++ [stepD n t] ++ usedD o2)] = pgD ⟨u ++ [p], v ++ [q], o1, n, t, o2⟩ := rfl
        have ul : ∀ o, (usedD o).length ≤ 1 := fun o => by cases o <;> exact Nat.le_of_ble_eq_true rfl
        have ul1 := ul o1
        have ul2 := ul o2
        refine gs_set C 11 (d := .tup (usedD o1 ++ [stepD n t] ++ usedD o2)) (ge_cat' (xs := usedD o1 ++ [stepD n t]) (ys := usedD o2) (ge_cat' (xs := usedD o1) (ys := [stepD n t]) (ge_call (c_used T) (C.hr.mono (by decide)) (gac1 (ge_var (x := optD o1) 5)) ⟨o1, rfl, rfl⟩) (ge_tup (ds := [stepD n t]) (gac1 (ge_of (ge_tup (ds := [.str "step", .int ((w'.map D.int).length : Nat), .int t]) (gac ge_str (gac (ge_lenT (ds := w'.map D.int) (ge_var (x := ti w') 9) T.z_len) (gac1 (ge_ixT (d := .int t) (ge_var (x := gapD p t w') 8) ge_int))))) (by rw [List.length_map, hwl])))) (by simp; omega)) (ge_call (c_used T) (C.hr.mono (by decide)) (gac1 (ge_ixT (ds := [ti (fwdW (low R n) p q), ti (v ++ [q]), optD o2]) (d := optD o2) (ge_ixL (ds := [bndD u w' o1, bndD (fwdW (low R n) p q) (v ++ [q]) o2]) (d := bndD (fwdW (low R n) p q) (v ++ [q]) o2) (go_var 2) ge_int) ge_int)) ⟨o2, rfl, rfl⟩) (by simp; omega)) ?_
        have g1 : Pg1 R pg ⟨u ++ [p], v ++ [q], o1, n, t, o2⟩ := ⟨n, m, u, v, p, q, by omega, hw, rfl, rfl, hpq, hw ▸ hx, hw ▸ hy, rfl, ht.symm, by rw [ht, hw']; exact ho1, ho2⟩
        refine gs_appendF (gv_pages T B2 (gv_var 0 rfl (fun q => by cases q))) hp0 (ge_of (ge_tup (ds := [ti (u ++ [p]), ti (v ++ [q]), .tup (usedD o1 ++ [stepD n t] ++ usedD o2)]) (gac (ge_var 3) (gac (ge_ixT (ds := [ti (fwdW (low R n) p q), ti (v ++ [q]), optD o2]) (d := ti (v ++ [q])) (ge_ixL (ds := [bndD u w' o1, bndD (fwdW (low R n) p q) (v ++ [q]) o2]) (d := bndD (fwdW (low R n) p q) (v ++ [q]) o2) (go_var 2) ge_int) ge_int) (gac1 (ge_var 11))))) eD) (by omega) rfl fun G3 pv c3 hpv hp3 => ?_
        have B3 := B2.setP hp0 hpr c3 hp3 hpv
        obtain ⟨qvs, hq0, hqr⟩ := B3.pgs
        refine gs_dset C (gy_of (ge_tup (ds := [ti (u ++ [p]), ti (v ++ [q]), .int (((pg ++ [(⟨u ++ [p], v ++ [q], o1, n, t, o2⟩ : Pg)]).map pgD).length - 1)]) (gac (ge_var 3) (gac (ge_ixT (ds := [ti (fwdW (low R n) p q), ti (v ++ [q]), optD o2]) (d := ti (v ++ [q])) (ge_ixL (ds := [bndD u w' o1, bndD (fwdW (low R n) p q) (v ++ [q]) o2]) (d := bndD (fwdW (low R n) p q) (v ++ [q]) o2) (go_var 2) ge_int) ge_int) (gac1 (ge_sub (ge_lenL (gb_fld (gv_pages T B3 (gv_var 0 rfl (fun q => by cases q))) hq0 hqr) T.z_len) ge_int)))))) fun vv G4 ⟨s4, r4⟩ => ⟨db, bn, [ti (u ++ [p]), ti (v ++ [q])], bndD (u ++ [p]) (v ++ [q]) (some pg.length), (B3.mono s4).bnd, ?_, gv_bound T (B3.mono s4) (gv_var 0 rfl (fun q => by cases q)), ge_var (x := rowD (u ++ [p]) (v ++ [q])) 1, by omega, row_dep _ _, fun G5 c5 hd5 => ?_⟩
        · have e : (((pg ++ [(⟨u ++ [p], v ++ [q], o1, n, t, o2⟩ : Pg)]).map pgD).length : Int) - 1 = ((pg.length : Nat) : Int) := by rw [List.length_map, List.length_append, List.length_singleton]; omega
          rw [e] at r4
          exact r4
        · refine gs_nil fun σ H2 F => ?_
          have gat : (pg ++ [(⟨u ++ [p], v ++ [q], o1, n, t, o2⟩ : Pg)])[pg.length]? = some ⟨u ++ [p], v ++ [q], o1, n, t, o2⟩ := List.getElem?_concat_length ..
          have bk := BnOk.put (more := [⟨u ++ [p], v ++ [q], o1, n, t, o2⟩]) (o := some pg.length) ok Bk hn hx hy h0 ⟨_, [], gat, (List.append_nil _).symm, (List.append_nil _).symm, by show exV (low R (u ++ [p]).length) _ _ = _; rw [hxl]⟩ hps (Nat.le_refl 1) (Bk.pgs.snoc g1)
          exact hq .non G5 H2 ((core_s c1).trans ((core_s c2).trans ((core_p c3).trans ((Core.of s4).trans (core_b c5))))) F.ex ⟨kn2, fm2, _, _, (B3.mono s4).setB c5 hd5, ss2, bk, ⟨some pg.length, at_ _, fun _ => ⟨_, rfl, rfl, rfl, rfl⟩⟩, oth _⟩
end
end WB
namespace WB
open PySem PySem.Spec PyProof.Rows L2
section
variable {P : Program} {w : World} {K : PySem.W.Frag} {mg : Str → Option Value} {base : Heap} {R : List Nat}
def FreshB (H : Hp) (dk df dp db : Addr) : Prop := H dk = none ∧ H df = none ∧ H dp = none ∧ H db = none
def spBInit (P : Program) (w : World) (K : PySem.W.Frag) (R : List Nat) : Sp := fun vs H Q _ => ∃ (b dx : Addr) (lv : V), vs = [.ref b, lv] ∧ H b = some (.ins (He.ga K "Binding") dx []) ∧ Rp K H (.tup (lockD R)) lv ∧
  ∀ G1 H', Core (fun y => y = b) H G1 → Same G1 H' → (∃ a dk df dp db, Bv P w K R b a dk df dp db G1 [] [] [] [] ∧ FreshB H dk df dp db) → Q .non H'
theorem sc_binit : FnScope ["self", "lock"] ["self", "lock"] (defScope s_Binding_init) := ⟨rfl, rfl, rfl, by decide +kernel, rfl, by decide +kernel, by decide +kernel⟩
theorem c_binit (T : Tx K mg) (ok : Ok24 R) (hR : R.length ≤ 60) : ∃ fd, FnOk P w K mg base CX0 4 (He.ma K (He.ga K "Binding") "__init__") fd ["self", "lock"] (spBInit P w K R) ∧ Binds K fd ["self", "lock"] [] := by
  obtain ⟨fd, F⟩ := T.f_Binding_init
  refine ⟨fd, fnx (N := ["self", "lock"]) (k := 3) F sc_binit (fun vs H Q E ⟨b, dx, lv, h1, _⟩ => by rw [h1]; rfl) (fun cdv A outer s H vs Q E C ⟨b, dx, lv, h1, hB, hlv, hq⟩ => ?_), F.bindsN fun _ _ _ _ _ _ us hl => match us, hl with | [_, _], _ => rfl⟩
  subst h1
  refine (?_ : GS _ H ([.v (.ref b), .d (.tup (lockD R))] ++ []) _ _) _ _ (fm_start (as := [.v (.ref b), .d (.tup (lockD R))]) ⟨_, _, rfl, rfl, _, _, rfl, hlv, rfl⟩ (Nat.le_of_ble_eq_true rfl))
  have tpb : ∀ {G G1 : Hp} {fs : List (Str × V)}, G b = some (.ins (He.ga K "Binding") dx fs) → Core (fun y => y = b) G G1 → Tps K G G1 := fun {G G1 fs} e c => tps_d (fun ys e' => by rw [e] at e'; cases e') (fun ob ys e' => by rw [e] at e'; cases e') c
  -- solver
  refine gs_fldY C (gy_solver T ok hR C.hr (ge_var (x := .tup (lockD R)) 1)) fun sv G1 ⟨a, ev, ha, s1, dk, df, S, nk, nf⟩ => ⟨b, _, dx, [], gv_var 0 rfl (fun q => by cases q), s1 _ _ hB, T.cls_Binding, T.n_Binding_solver, by decide, rfl, fun G2 c2 e2 => ?_⟩
  subst ev
  have b1 := s1 _ _ hB
  have hab : a ≠ b := fun z => by rw [z, hB] at ha; cases ha
  have hkb : dk ≠ b := fun z => by rw [z, hB] at nk; cases nk
  have hfb : df ≠ b := fun z => by rw [z, hB] at nf; cases nf
  have nb : ∀ {G : Hp} {fs : List (Str × V)} {kn fm : List (D × D)}, Sv P w K R a dk df G kn fm → G b = some (.ins (He.ga K "Binding") dx fs) → NotDc G a b := fun {G fs kn fm} S e C dx2 fs2 e1 q => by
    obtain ⟨dx', lv', dc, nv, cm, h1, _, h3, _⟩ := S.ex
    rw [h1] at e1
    cases e1
    have q' : some (V.ref dc) = some (.ref b) := q
    have ed : dc = b := by injection (Option.some.inj q')
    obtain ⟨⟨φ, q2⟩, _⟩ := Dic.ext h3
    rw [ed, e] at q2; cases q2
  have S2 := S.coreD hab hkb hfb (nb S b1) c2 (tpb b1 c2)
  have c02 : Core (fun y => y = b) H G2 := (Core.of s1).trans c2
  -- pages
  refine gs_fldY C (gy_list (gl_lst (ds := []) ga_nil)) fun pv G3 ⟨dp, pvs, ev, hdp, s3, hp3, hpr⟩ => ⟨b, _, dx, _, gv_var 0 rfl (fun q => by cases q), s3 _ _ e2, T.cls_Binding, T.n_Binding_pages, by show 1 < 1000; decide, rfl, fun G4 c4 e4 => ?_⟩
  subst ev
  have hpe : pvs = [] := hpr
  subst hpe
  have e3 := s3 _ _ e2
  have hpb : dp ≠ b := fun z => by rw [z, e2] at hdp; cases hdp
  have S4 := (S2.mono s3).coreD hab hkb hfb (nb (S2.mono s3) e3) c4 (tpb e3 c4)
  have hp4 := c4 _ _ hp3 hpb
  have c04 : Core (fun y => y = b) H G4 := (c02.then s3).trans c4
  have hHp : H dp = none := by
    cases hh : H dp with
    | none => rfl
    | some o => have := c02 dp o hh hpb; rw [hdp] at this; cases this
  -- bound
  refine gs_fldY C gy_new fun bv G5 ⟨db, ev, hdb, s5, hd5⟩ => ⟨b, _, dx, _, gv_var 0 rfl (fun q => by cases q), s5 _ _ e4, T.cls_Binding, T.n_Binding_bound, by show 2 < 1000; decide, rfl, fun G6 c6 e6 => ?_⟩
  subst ev
  have e5 := s5 _ _ e4
  have hdbb : db ≠ b := fun z => by rw [z, e4] at hdb; cases hdb
  obtain ⟨n1, n2, n3⟩ := S4.nd hdb
  have S5 := S4.mono s5
  have nc5 : NotDc G5 a db := (S4.notDc hdb).core S4 (Core.of (Z := NoZ) s5) fun z => z
  have tp6 := tpb e5 c6
  have hHb : H db = none := by
    cases hh : H db with
    | none => rfl
    | some o => have := c04 db o hh hdbb; rw [hdb] at this; cases this
  refine gs_nil fun σ H2 F2 => hq G6 H2 ((c04.then s5).trans c6) F2.ex ⟨a, dk, df, dp, db, ⟨S5.coreD hab hkb hfb (nb S5 e5) c6 tp6, ⟨dx, e6⟩, ⟨[], c6 _ _ (s5 _ _ hp4) hpb, rfl⟩, hd5.coreD hdbb c6 tp6, fun z => n2 z.symm, fun z => n3 z.symm, nc5.core S5 c6 hab⟩, nk, nf, hHp, hHb⟩
end
end WB
namespace WB
open PySem PySem.Spec PyProof.Rows L2
section
variable {X : Cx} {G H0 : Hp} {Γ : List AV} {a b c e o : Expr} {es : List Expr} {pos np : Pos} {d : D} {n n0 : Str} {ps : List Str} {k : Nat} {sp : Sp} {as : List AV} {R : List Nat}
/-- C(e, ..), told with the heap before it -/
theorem gy_makeH {C f : Addr} {fd : FuncData} {dvs : List V} {ds : List Value} {post : Hp → Addr → Hp → Prop} (M : Mk X.K C f) (Fn : FnOk X.prog X.w X.K X.mg X.base CX0 k f fd ps sp) (hr : Room (k + 1) X.A) (hm : X.mg n = some (.ref C)) (hb : Binds X.K fd ps ds) (hdv : Vals dvs ds) (ha : GA X G Γ (e :: es) as)
    (hsp : ∀ (vs : List V) (H : Hp) (Q : VK) (x dx : Addr), Same G H → ArgsOk X.K H as vs → H x = none → H dx = none → dx ≠ x → (∀ G1 H', Core (fun y => y = x) (upd (upd H dx (.own x)) x (.ins C dx [])) G1 → Same G1 H' → post H x G1 → Q .non H') → sp (.ref x :: (vs ++ dvs)) (upd (upd H dx (.own x)) x (.ins C dx [])) Q L2.E0)
    (hst : ∀ x H G1 G2, Tra NoZ H G1 G2 → post H x G1 → post H x G2) (hms : ∀ x H G1 H', Same G1 H' → post H x G1 → post H x H')
    (hg : Gl X n := by rfl) (hdb : (n == ("__debug__" : Str)) = false := by decide) (he : starEach (e :: es) X.env = (false, eval e X.env) :: starEach es X.env := by rfl) (hpl : (backTo pos (starEach es X.env)).any (·.1) = false := by rfl) :
    GY X G Γ (.Call (.Name n np) (e :: es) [] pos) (fun v G' => ∃ x H, v = .ref x ∧ G x = none ∧ Same G G' ∧ Same G H ∧ post H x G') := fun σ H Q F kq => by
  refine er_of (pe_make M Fn hr hg hm hb hdv pass0 pa_self hdb he hpl) ?_
  refine ha σ H _ F fun vs H1 s1 r1 x dx hx hdx hne => ?_
  have F1 := F.same s1
  refine hsp vs H1 _ x dx F1.ex r1 hx hdx hne fun G1 H' c1 s2 hp => ⟨rfl, ?_⟩
  have sm : Same H1 H' := fun y o q => by
    have n1 : y ≠ x := ne_of_none q hx
    have n2 : y ≠ dx := ne_of_none q hdx
    exact s2 _ _ (c1 y o (by rw [upd_ne n1, upd_ne n2]; exact q) n1)
  obtain ⟨G', t0, t1, F', hall, _⟩ := (F1.same sm).full
  have tr : Tra NoZ H1 H' G' := fun y o e q => hall y o e fun ⟨i, xs, h1, h2⟩ => by
    obtain ⟨l, vs, e1, _, e3, _⟩ := F1.own h1
    rw [h2] at e1
    have el : y = l := by injection (Option.some.inj (Option.some.inj e1))
    subst el
    rcases q with q | q | q
    · have := sm _ _ e3
      rw [e] at this
      exact q vs (Option.some.inj this)
    · exact q
    · rw [e3] at q; cases q
  exact kq _ H' G' ⟨x, H1, rfl, F1.ex.free hx, t0, F1.ex, hst x H1 H' G' tr (hms x H1 G1 H' s2 hp)⟩ F'
/-- Binding(lock) -/
theorem gy_binding (T : Tx X.K X.mg) (ok : Ok24 R) (hR : R.length ≤ 60) (hr : Room 5 X.A) (he : GE X G Γ e (.tup (lockD R))) (hg : Gl X "Binding" := by rfl) (he1 : starEach [e] X.env = (false, eval e X.env) :: starEach [] X.env := by rfl) (hpl : (backTo pos (starEach [] X.env)).any (·.1) = false := by rfl) :
    GY X G Γ (.Call (.Name "Binding" np) [e] [] pos) (fun v G' => ∃ x, v = .ref x ∧ G x = none ∧ Same G G' ∧ ∃ a dk df dp db, Bv X.prog X.w X.K R x a dk df dp db G' [] [] [] [] ∧ FreshB G dk df dp db) := by
  obtain ⟨fd, Fn, hb⟩ := c_binit (P := X.prog) (w := X.w) (base := X.base) T ok hR
  refine GY.imp (gy_makeH (as := [.d (.tup (lockD R))]) (post := fun H x G1 => ∃ a dk df dp db, Bv X.prog X.w X.K R x a dk df dp db G1 [] [] [] [] ∧ FreshB H dk df dp db) T.mkr_Binding Fn hr T.g_Binding hb .nil (gac1 he he1) (fun vs H Q x dx s r hx hdx hne hq => ?_) (fun x H G1 G2 t ⟨a, dk, df, dp, db, B, n⟩ => ⟨a, dk, df, dp, db, B.tra t (.inr n.2.2.1), n⟩) (fun x H G1 H' s ⟨a, dk, df, dp, db, B, n⟩ => ⟨a, dk, df, dp, db, B.mono s, n⟩) hg (by decide) he1 hpl) fun v G' ⟨x, H, ev, hx, s1, s2, a, dk, df, dp, db, B, n1, n2, n3, n4⟩ => ⟨x, ev, hx, s1, a, dk, df, dp, db, B, s2.free n1, s2.free n2, s2.free n3, s2.free n4⟩
  obtain ⟨lv, r', ev, rl, er⟩ := r
  subst ev; cases er
  have sm : Same H (upd (upd H dx (.own x)) x (.ins (He.ga X.K "Binding") dx [])) := fun y o q => by
    rw [upd_ne (ne_of_none q hx), upd_ne (ne_of_none q hdx)]; exact q
  exact ⟨x, dx, lv, rfl, upd_same, Rp.mono (Same.tup sm) rl, fun G1 H' c1 s1 ⟨a, dk, df, dp, db, B, n1, n2, n3, n4⟩ => hq G1 H' c1 s1 ⟨a, dk, df, dp, db, B, sm.free n1, sm.free n2, sm.free n3, sm.free n4⟩⟩
end
end WB
namespace WB
open PySem PySem.Spec PyProof.Rows L2
/-! ### the stack of rows that wait, the top first -/
abbrev RC := List Int × List Int
def RowOk (R : List Nat) (c : RC) : Prop := c.1.length ≤ R.length ∧ Nd (low R c.1.length) c.1 ∧ Ends2 (low R c.1.length) c.2
def pcsOf (R : List Nat) (c : RC) : List RC := pcs (low R c.1.length) c.1 c.2
def rank (c : RC) : Nat := 4 * c.1.length + (c.1.getLastD 0 - c.2.getLastD 0).natAbs
def bnd (bn : List (D × D)) (z : RC) : Prop := (dget bn (pcD z)).isSome = true
def StOk (R : List Nat) (N : Nat) (bn : List (D × D)) : List RC → List (RC × Bool) → Prop
  | _, [] => True
  | ab, (c, f) :: ks => RowOk R c ∧ (f = true → ∀ z ∈ pcsOf R c, bnd bn z ∨ z ∈ ab) ∧ rank c ≤ N ∧ ks.length ≤ 2 * (N - rank c) ∧ StOk R N bn (c :: ab) ks
def wtE : RC × Bool → Nat
  | (_, true) => 1
  | (c, false) => 4 ^ (rank c + 1)
def wtS : List (RC × Bool) → Nat
  | [] => 0
  | e :: ks => wtE e + wtS ks
theorem StOk.mono {R : List Nat} {N : Nat} {bn bn' : List (D × D)} (hb : ∀ z, bnd bn z → bnd bn' z) : ∀ {ks : List (RC × Bool)} {ab ab' : List RC}, (∀ z ∈ ab, bnd bn' z ∨ z ∈ ab') → StOk R N bn ab ks → StOk R N bn' ab' ks
  | [], _, _, _, _ => trivial
  | (c, f) :: ks, ab, ab', h, ⟨h1, h2, h3, h4, h5⟩ => ⟨h1, fun e z hz => (h2 e z hz).elim (fun q => .inl (hb z q)) (h z), h3, h4, StOk.mono hb (fun z hz => by
      rcases List.mem_cons.mp hz with e | hz
      · exact .inr (e ▸ List.mem_cons_self)
      · exact (h z hz).imp_right (List.mem_cons_of_mem _)) h5⟩
theorem RowOk.last {R : List Nat} (ok : Ok24 R) {c : RC} (h : RowOk R c) : (c.1.getLastD 0 - c.2.getLastD 0).natAbs ≤ 3 := by
  obtain ⟨x, y⟩ := c
  obtain ⟨g1, g2, g3⟩ := h
  show (x.getLastD 0 - y.getLastD 0).natAbs ≤ 3
  have h1 : x.length ≤ R.length := g1
  have h2 : Nd (low R x.length) x := g2
  have h3 : Ends2 (low R x.length) y := g3
  clear g1 g2 g3
  generalize x.length = n at h1 h2 h3
  cases n with
  | zero =>
    rw [low_zero] at h2 h3
    have e1 : x = [] := h2
    have e2 : y = [] := by rcases h3 with h | h <;> exact h
    rw [e1, e2]; decide
  | succ n =>
    obtain ⟨m, hw, _⟩ := low_succ (R := R) (k := n) (by omega)
    have okm : Ok24 (m :: low R n) := hw ▸ ok.low (n + 1)
    have hm := okm.hd
    rw [hw] at h2 h3
    obtain ⟨u, p, rfl, hu, p0, p1⟩ := h2
    obtain ⟨v, q, rfl, hv, q0, q1⟩ := h3.nd okm
    rw [List.getLastD_concat, List.getLastD_concat]
    omega
theorem pcsOf_ok {R : List Nat} (ok : Ok24 R) {c z : RC} (h : RowOk R c) (hz : z ∈ pcsOf R c) : RowOk R z ∧ rank z < rank c := by
  obtain ⟨x, y⟩ := c
  obtain ⟨g1, g2, g3⟩ := h
  have h1 : x.length ≤ R.length := g1
  have h2 : Nd (low R x.length) x := g2
  have h3 : Ends2 (low R x.length) y := g3
  replace hz : z ∈ pcs (low R x.length) x y := hz
  have mk : ∀ {n : Nat} {z : RC}, n ≤ R.length → Nd (low R n) z.1 → Ends2 (low R n) z.2 → RowOk R z ∧ z.1.length = n := fun {n z} a b c => by
    have e : z.1.length = n := b.len ok a
    exact ⟨⟨by rw [e]; exact a, by rw [e]; exact b, by rw [e]; exact c⟩, e⟩
  show RowOk R z ∧ rank z < 4 * x.length + (x.getLastD 0 - y.getLastD 0).natAbs
  clear g1 g2 g3
  generalize hnx : x.length = n at h1 h2 h3 hz
  cases n with
  | zero => rw [low_zero] at hz; cases hz
  | succ n =>
    obtain ⟨m, hw, _⟩ := low_succ (R := R) (k := n) (by omega)
    have okm : Ok24 (m :: low R n) := hw ▸ ok.low (n + 1)
    rw [hw] at h2 h3 hz
    obtain ⟨u, p, rfl, hu, p0, p1⟩ := h2
    obtain ⟨v, q, rfl, hv, q0, q1⟩ := h3.nd okm
    rw [List.getLastD_concat, List.getLastD_concat]
    by_cases hpq : p = q
    · subst hpq
      rw [pcs_still] at hz
      have ez := List.mem_singleton.mp hz
      subst ez
      obtain ⟨r1, r2⟩ := mk (z := (u, v)) (by omega) (hu.nd okm.tl) hv
      have := r1.last ok
      refine ⟨r1, ?_⟩
      unfold rank
      rw [r2]; omega
    · rw [pcs_move _ _ _ _ hpq] at hz
      rcases List.mem_cons.mp hz with ez | hz
      · subst ez
        obtain ⟨r1, r2⟩ := mk (z := (u, Wy (low R n) (min p (stepT p q)).toNat)) (by omega) (hu.nd okm.tl) (wy_ends _ _)
        have := r1.last ok
        refine ⟨r1, ?_⟩
        unfold rank
        rw [r2]; omega
      · have ez := List.mem_singleton.mp hz
        subst ez
        have hnd : Nd (low R (n + 1)) (fwdW (low R n) p q) := by rw [hw]; exact famW_nd (fwd_fam p0 p1 q0 q1 fun z => hpq z.symm)
        obtain ⟨r1, r2⟩ := mk (n := n + 1) (z := (fwdW (low R n) p q, v ++ [q])) (by omega) hnd (by rw [hw]; exact h3)
        refine ⟨r1, ?_⟩
        unfold rank
        rw [r2]
        show 4 * (n + 1) + ((fwdW (low R n) p q).getLastD 0 - (v ++ [q]).getLastD 0).natAbs < _
        rw [show (fwdW (low R n) p q).getLastD 0 = stepT p q from List.getLastD_concat .., List.getLastD_concat]
        unfold stepT
        split <;> omega
theorem pcsOf_len (R : List Nat) (c : RC) : (pcsOf R c).length ≤ 2 := by
  unfold pcsOf
  cases low R c.1.length with
  | nil => exact Nat.zero_le _
  | cons m rs =>
    unfold pcs
    dsimp only
    split <;> simp
end WB
namespace WB
open PySem PySem.Spec PyProof.Rows L2
/-! ### the stack, plainly -/
theorem StOk.pushZ {R : List Nat} {N : Nat} {bn : List (D × D)} {c : RC} {ks : List (RC × Bool)} (h1 : RowOk R c) (h2 : rank c ≤ N) (h3 : ks.length ≤ 2 * (N - rank c)) (h4 : StOk R N bn [c] ks) : ∀ (Z ab : List RC), (∀ z ∈ Z, RowOk R z ∧ rank z < rank c) → Z.length ≤ 2 → (∀ z ∈ pcsOf R c, bnd bn z ∨ z ∈ Z ∨ z ∈ ab) → StOk R N bn ab (Z.map (fun z => (z, false)) ++ (c, true) :: ks)
  | [], ab, _, _, hp => ⟨h1, fun _ z hz => by
      rcases hp z hz with h | h | h
      · exact .inl h
      · cases h
      · exact .inr h, h2, h3, StOk.mono (fun _ q => q) (fun z hz => .inr (by rw [List.mem_singleton.mp hz]; exact List.mem_cons_self)) h4⟩
  | z :: Z, ab, hz, hl, hp => by
    obtain ⟨r1, r2⟩ := hz z List.mem_cons_self
    rw [List.length_cons] at hl
    refine ⟨r1, fun q => (by cases q), by omega, ?_, StOk.pushZ h1 h2 h3 h4 Z (z :: ab) (fun y hy => hz y (List.mem_cons_of_mem _ hy)) (by omega) fun y hy => ?_⟩
    · show (Z.map (fun z => (z, false)) ++ (c, true) :: ks).length ≤ _
      rw [List.length_append, List.length_map, List.length_cons]
      omega
    · rcases hp y hy with h | h | h
      · exact .inl h
      · rcases List.mem_cons.mp h with e | h
        · exact .inr (.inr (by rw [e]; exact List.mem_cons_self))
        · exact .inr (.inl h)
      · exact .inr (.inr (List.mem_cons_of_mem _ h))
theorem wtS_app : ∀ (a b : List (RC × Bool)), wtS (a ++ b) = wtS a + wtS b
  | [], b => by show wtS b = 0 + wtS b; omega
  | e :: a, b => by
    show wtE e + wtS (a ++ b) = wtE e + wtS a + wtS b
    rw [wtS_app a b]; omega
theorem wtZ {k : Nat} : ∀ (Z : List RC), (∀ z ∈ Z, rank z < k) → wtS (Z.map fun z => (z, false)) ≤ Z.length * 4 ^ k
  | [], _ => Nat.zero_le _
  | z :: Z, h => by
    show 4 ^ (rank z + 1) + wtS (Z.map fun z => (z, false)) ≤ _
    have h1 := wtZ Z fun y hy => h y (List.mem_cons_of_mem _ hy)
    have h2 : 4 ^ (rank z + 1) ≤ 4 ^ k := Nat.pow_le_pow_right (by decide) (h z List.mem_cons_self)
    rw [List.length_cons, Nat.succ_mul]
    omega
theorem wt_push {c : RC} {ks : List (RC × Bool)} {Z : List RC} (hz : ∀ z ∈ Z, rank z < rank c) (hl : Z.length ≤ 2) : wtS (Z.map (fun z => (z, false)) ++ (c, true) :: ks) < wtS ((c, false) :: ks) := by
  rw [wtS_app]
  show _ + (1 + wtS ks) < 4 ^ (rank c + 1) + wtS ks
  have h1 := wtZ Z hz
  have h2 : Z.length * 4 ^ rank c ≤ 2 * 4 ^ rank c := Nat.mul_le_mul_right _ hl
  have h3 : 1 ≤ 4 ^ rank c := Nat.one_le_pow _ _ (by decide)
  rw [Nat.pow_succ]
  omega
theorem wt_pos (e : RC × Bool) (ks : List (RC × Bool)) : wtS ks < wtS (e :: ks) := by
  show wtS ks < wtE e + wtS ks
  have : 1 ≤ wtE e := by
    obtain ⟨c, f⟩ := e
    cases f with
    | true => exact Nat.le_refl 1
    | false => exact Nat.one_le_pow _ _ (by decide)
  omega
theorem StOk.len {R : List Nat} {N : Nat} {bn : List (D × D)} {ab : List RC} : ∀ {ks : List (RC × Bool)}, StOk R N bn ab ks → ks.length ≤ 2 * N + 1
  | [], _ => Nat.zero_le _
  | (c, f) :: ks, ⟨_, _, _, h, _⟩ => by rw [List.length_cons]; omega
theorem rank_le {R : List Nat} (ok : Ok24 R) (hR : R.length ≤ 60) {c : RC} (h : RowOk R c) : rank c ≤ 243 := by
  have h1 := h.1
  have h2 := h.last ok
  unfold rank
  omega
def stk (ks : List (RC × Bool)) : List D := (ks.map fun e => pcD e.1).reverse
theorem stk_cons (c : RC) (f : Bool) (ks : List (RC × Bool)) : stk ((c, f) :: ks) = stk ks ++ [pcD c] := by unfold stk; rw [List.map_cons, List.reverse_cons]
theorem stk_push (Z : List RC) (c : RC) (f : Bool) (ks : List (RC × Bool)) : stk ((Z.reverse.map fun z => (z, false)) ++ (c, true) :: ks) = stk ((c, f) :: ks) ++ Z.map pcD := by
  rw [stk_cons]
  unfold stk
  rw [List.map_append, List.reverse_append, List.map_cons, List.reverse_cons, List.map_map, List.map_reverse, List.reverse_reverse]
  rfl
theorem stk_len (ks : List (RC × Bool)) : (stk ks).length = ks.length := by unfold stk; rw [List.length_reverse, List.length_map]
theorem soks_pcs : ∀ l : List RC, D.soks (l.map pcD) = true
  | [] => rfl
  | z :: l => by
    rw [List.map_cons, D.soks, soks_pcs l]
    show (D.soks [ti z.1, ti z.2] && true) = true
    rw [D.soks, D.soks, ti_sok, ti_sok]; rfl
theorem deps_pcs : ∀ l : List RC, D.deps (l.map pcD) ≤ 2
  | [] => Nat.zero_le _
  | z :: l => by
    rw [List.map_cons, D.deps]
    have h := deps_pcs l
    have : (pcD z).dep = 2 := by
      show D.deps [ti z.1, ti z.2] + 1 = 2
      rw [D.deps, D.deps, ti_dep, ti_dep]; rfl
    omega
theorem sh_pcs (l : List RC) : Sh (.tup (l.map pcD)) := sh_of (by unfold D.sok; exact soks_pcs l) (by unfold D.dep; have := deps_pcs l; omega)
theorem sh_stk (ks : List (RC × Bool)) : Sh (.tup (stk ks)) := by
  have : stk ks = ((ks.map (·.1)).reverse).map pcD := by unfold stk; rw [List.map_reverse, List.map_map]; rfl
  rw [this]; exact sh_pcs _
theorem eqv_nil : ∀ ds : List D, D.eqv (.tup ds) (.tup []) = ds.isEmpty
  | [] => D.eqv_self _
  | d :: ds => by
    rw [D.eqv_iff]
    refine decide_eq_false fun q => ?_
    rw [D.key, D.key] at q
    injection q with q
    rw [D.keys, D.keys] at q
    cases q
section
variable {X : Cx} {G : Hp} {Γ : List AV} {a b c e o : Expr} {pos apos : Pos} {k : Nat} {xs : List D}
/-- xs != [], xs == [] of lists -/
theorem gt_neNil (C : Cok X k) {p2 : Pos} (ha : GV X G Γ a (.bw xs)) (hs : Sh (.tup xs)) (hm : behindInMarks .NotEq (.List [] p2) = false := by first | exact nomark _ | rfl) : GT X G Γ (.Compare a [.NotEq] [.List [] p2] pos) (!xs.isEmpty) := by
  rw [← eqv_nil]
  exact gt_cmp (op_neD C.h64) (d_neL (xs := xs) (ys := []) hs (ti_sh [])) ha (GL.rd (gl_lst (ds := []) ga_nil)) hm
theorem gt_eqNil (C : Cok X k) {p2 : Pos} (ha : GV X G Γ a (.bw xs)) (hs : Sh (.tup xs)) (hm : behindInMarks .Eq (.List [] p2) = false := by first | exact nomark _ | rfl) : GT X G Γ (.Compare a [.Eq] [.List [] p2] pos) xs.isEmpty := by
  rw [← eqv_nil]
  exact gt_cmp (op_eqD C.h64) (d_eqL (xs := xs) (ys := []) hs (ti_sh [])) ha (GL.rd (gl_lst (ds := []) ga_nil)) hm
end
section
variable {X : Cx} {G : Hp} {Γ : List AV} {e o : Expr} {pos apos : Pos} {k : Nat} {R : List Nat} {b a dk df dp db : Addr} {kn fm bn : List (D × D)} {pg : List Pg} {n : Nat} {x y : List Int}
theorem PostB.tra {P : Program} {w : World} {K : PySem.W.Frag} {H G1 G2 : Hp} (h : PostB P w K R b a dk df dp db pg bn n x y G1) (t : Tra (Zb dk df dp db) H G1 G2) : PostB P w K R b a dk df dp db pg bn n x y G2 := by
  obtain ⟨kn', fm', pg', bn', B, r⟩ := h
  exact ⟨kn', fm', pg', bn', B.tra t (.inl (.inr (.inl rfl))), r⟩
theorem gy_bind (M : Mtd X.prog X.w X.K X.mg X.base (He.ga X.K "Binding") "bind" ["self", "row"] k (spBind X.prog X.w X.K R)) (hr : Room k X.A) (ho : GV X G Γ o (.v (.ref b))) (B : Bv X.prog X.w X.K R b a dk df dp db G kn fm pg bn) (ss : SS R (R.length + 1) kn fm) (Bk : BnOk R pg bn) (he : GE X G Γ e (rowD x y)) (hn : n ≤ R.length) (hx : Nd (low R n) x) (hy : Ends2 (low R n) y) (h0 : dget bn (rowD x y) = none) (hps : ∀ z ∈ pcs (low R n) x y, (dget bn (pcD z)).isSome = true) (nb : noBw Γ = true)
    (hst1 : starEach [e] X.env = (false, eval e X.env) :: starEach [] X.env := by rfl) (hpl : (backTo pos (starEach [] X.env)).any (·.1) = false := by rfl)
    {pl : Sem Bool} (ht : eval (.Call (.Attribute o "bind" apos) [e] [] pos) X.env = (do let ov ← eval o X.env; standAt apos.atName; let (f, first) ← holding [ov] (getMethod ov "bind" pl); callWith pos f first (backTo pos (starEach [e] X.env)) (backToKw pos (keywordEach [] X.env))) := by rfl) :
    GY X G Γ (.Call (.Attribute o "bind" apos) [e] [] pos) (fun _ G' => Core (Zb dk df dp db) G G' ∧ PostB X.prog X.w X.K R b a dk df dp db pg bn n x y G') := by
  obtain ⟨dx, fs, hG, hl⟩ := B.ins0 (m := "bind") (fun _ _ _ => rfl)
  refine GY.imp (gy_methH (Z := Zb dk df dp db) (as := [.d (rowD x y)]) (post := fun r H G' => PostB X.prog X.w X.K R b a dk df dp db pg bn n x y G') M hr ho hG hl (gac1 he hst1) (zok_nb B.znb nb) (fun vs H Q s r hq => ?_) (fun v H G1 G2 t q => q.tra t) hst1 hpl ht) fun r G' ⟨c1, H, s, q⟩ => ⟨c1, q⟩
  obtain ⟨rowv, r', ev, rr, er⟩ := r
  subst ev; cases er
  exact ⟨b, a, dk, df, dp, db, kn, fm, pg, bn, n, x, y, rowv, rfl, B.mono s, ss, Bk, hn, rr, hx, hy, h0, hps, hq⟩
end
end WB
namespace WB
open PySem PySem.Spec PyProof.Rows L2
/-! ### the book of a row -/
def wholeX (pg : List Pg) (x : List Int) : Option Nat → Bool
  | none => true
  | some i => decide ((i : Int) + 1 < (pg.length : Nat)) || (match pg[i]? with
    | some g => decide (((g.x.length : Nat) : Int) < (x.length : Nat))
    | none => false)
def lastD (x y : List Int) (o : Option Nat) : D := .tup [ti x, ti y, .tup (usedD o)]
def wholeD (pg : List Pg) (x y : List Int) (o : Option Nat) : List D := pg.map pgD ++ (if wholeX pg x o = true then [lastD x y o] else [])
section
variable {P : Program} {w : World} {K : PySem.W.Frag} {mg : Str → Option Value} {base : Heap} {R : List Nat}
def PostW (K : PySem.W.Frag) (R : List Nat) (x y : List Int) (r : V) (G1 : Hp) : Prop := ∃ (pg : List Pg) (o : Option Nat), PgOk R pg ∧ pg.length ≤ 976 ∧ NumOk R R.length pg x y o ∧ Rp K G1 (.tup (wholeD pg x y o)) r
def spWhole (P : Program) (w : World) (K : PySem.W.Frag) (R : List Nat) : Sp := fun vs H Q _ => ∃ (b a dk df dp db : Addr) (kn fm : List (D × D)) (pg : List Pg) (bn : List (D × D)) (x y : List Int) (rowv : V), vs = [.ref b, rowv] ∧ Bv P w K R b a dk df dp db H kn fm pg bn ∧ SS R (R.length + 1) kn fm ∧ BnOk R pg bn ∧ Rp K H (rowD x y) rowv ∧ Nd (low R R.length) x ∧ Ends2 (low R R.length) y ∧
  ∀ r G1 H', Core (Zb dk df dp db) H G1 → Same G1 H' → PostW K R x y r G1 → Q r H'
theorem sc_whole : FnScope ["self", "row", "waiting", "wanted", "here", "begin", "end", "number", "piece"] ["self", "row"] (defScope s_Binding_whole) := ⟨rfl, rfl, rfl, by decide +kernel, rfl, by decide +kernel, by decide +kernel⟩
theorem c_whole (T : Tx K mg) (ok : Ok24 R) (hR : R.length ≤ 60) : Mtd P w K mg base (He.ga K "Binding") "whole" ["self", "row"] 308 (spWhole P w K R) := by
  refine mtd_make (N := ["self", "row", "waiting", "wanted", "here", "begin", "end", "number", "piece"]) (k := 307) T.cls_Binding T.m_Binding_whole T.f_Binding_whole sc_whole (fun _ _ _ _ _ _ us hl => match us, hl with | [_, _], _ => rfl) ?_ ?_
  · rintro vs H Q E ⟨b, a, dk, df, dp, db, kn, fm, pg, bn, x, y, rowv, rfl, _⟩; rfl
  · rintro cdv A outer s H vs Q E C ⟨b, a, dk, df, dp, db, kn, fm, pg, bn, x, y, rowv, rfl, B, ss, Bk, hrow, hx, hy, hq⟩
    refine (?_ : GS _ H ([.v (.ref b), .d (rowD x y)] ++ [.no, .no, .no, .no, .no, .no, .no]) _ _) _ _ (fm_start (as := [.v (.ref b), .d (rowD x y)]) ⟨_, _, rfl, rfl, _, _, rfl, hrow, rfl⟩ (Nat.le_of_ble_eq_true rfl))
    have hxl := hx.len ok (Nat.le_refl _)
    have r0 : RowOk R (x, y) := ⟨Nat.le_of_eq hxl, by rw [hxl]; exact hx, by rw [hxl]; exact hy⟩
    have hN := rank_le ok hR r0
    refine gs_setL C 2 (gl_lst (ds := [rowD x y]) (gac1 (ge_var (x := rowD x y) 1))) ?_
    refine gs_whileX C (fun M G Γ' => ∃ kn fm pg bn ks, M = wtS ks ∧ Bv P w K R b a dk df dp db G kn fm pg bn ∧ SS R (R.length + 1) kn fm ∧ BnOk R pg bn ∧ StOk R (rank (x, y)) bn [] ks ∧ (bnd bn (x, y) ∨ (x, y) ∈ ks.map (·.1)) ∧ Core (Zb dk df dp db) H G ∧ Γ' = [.v (.ref b), .d (rowD x y), .own (stk ks), .no, .no, .no, .no, .no, .no]) _ ⟨kn, fm, pg, bn, [((x, y), false)], rfl, B, ss, Bk, ⟨r0, fun q => (by cases q), Nat.le_refl _, Nat.zero_le _, trivial⟩, .inr List.mem_cons_self, Core.refl, rfl⟩ ?_
    rintro M G Γ' ⟨kn1, fm1, pg1, bn1, ks, rfl, B1, ss1, Bk1, st, ht, cg, eΓ⟩
    subst eΓ
    refine ⟨!(stk ks).isEmpty, gt_neNil C (go_var 2) (sh_stk ks), fun eb => ?_, fun eb => ?_⟩
    · cases ks with
      | nil => cases eb
      | cons e ks =>
        clear eb
        obtain ⟨c, f⟩ := e
        obtain ⟨rc, hf, hrk, hln, st'⟩ := st
        have hlk := st'.len
        rw [stk_cons]
        refine gs_setLcY C 3 [("piece", 8)] (js := [8]) (fun d Γ => Γ.set 8 (.d d)) (fun d => d) (fun d => !(dget bn1 d).isSome) (gy_pieces (c_pieces T ok hR) (C.hr.mono (by decide)) (gv_var 0 rfl (fun q => by cases q)) B1 ss1 (ge_ixL (d := pcD c) (go_var 2) (ge_neg ge_int) (atI_last _ _)) rc.1 rc.2.1 rc.2.2) fun r G1 ⟨c1, kn2, fm2, l, vs, B2, ss2, er, hl0, hl1, hr1⟩ => ⟨l, vs, _, er, hl1, hr1, ?_, ?_, ?_, ?_, ?_⟩
        · rw [List.length_map]
          have := pcsOf_len R c
          unfold pcsOf at this
          omega
        · intro d hd s H C' cl fp
          exact tg_name C.blk 8
        · intro Hb s0 d hd s H C' cl fp
          obtain ⟨z, hz, rfl⟩ := List.mem_map.mp hd
          exact gt_dnin C.blk (ge_var (x := pcD z) 8) (gv_bound T (B2.mono s0) (gv_var (p := .v (.ref b)) 0 rfl (fun q => by cases q))) (B2.mono s0).bnd (row_dep _ _)
        · intro Hb s0 d hd _ s H C' cl fp
          exact ge_var 8
        have eW : (((pcs (low R c.1.length) c.1 c.2).map pcD).filter fun d => !(dget bn1 d).isSome).map (fun d => d) = ((pcsOf R c).filter fun z => !(dget bn1 (pcD z)).isSome).map pcD := by
          rw [List.map_id', List.filter_map]; rfl
        rw [eW]
        have hWp : ∀ z ∈ (pcsOf R c).filter (fun z => !(dget bn1 (pcD z)).isSome), RowOk R z ∧ rank z < rank c := fun z hz => pcsOf_ok ok rc (List.mem_filter.mp hz).1
        have hWl : ((pcsOf R c).filter fun z => !(dget bn1 (pcD z)).isSome).length ≤ 2 := Nat.le_trans (List.length_filter_le _ _) (pcsOf_len R c)
        have hWb : ∀ z ∈ pcsOf R c, bnd bn1 z ∨ z ∈ (pcsOf R c).filter fun z => !(dget bn1 (pcD z)).isSome := fun z hz => by
          cases h : (dget bn1 (pcD z)).isSome with
          | true => exact .inl h
          | false => exact .inr (List.mem_filter.mpr ⟨hz, by rw [h]; rfl⟩)
        have hWn : ∀ z ∈ (pcsOf R c).filter (fun z => !(dget bn1 (pcD z)).isSome), z ∈ pcsOf R c ∧ ¬ bnd bn1 z := fun z hz => by
          obtain ⟨h1, h2⟩ := List.mem_filter.mp hz
          refine ⟨h1, fun h => ?_⟩
          rw [show (dget bn1 (pcD z)).isSome = true from h] at h2
          cases h2
        clear hr1
        generalize (pcsOf R c).filter (fun z => !(dget bn1 (pcD z)).isSome) = W at hWp hWl hWb hWn
        have cg1 : Core (Zb dk df dp db) H G1 := cg.trans (core_s c1)
        by_cases hW0 : W = []
        · subst hW0
          have hps : ∀ z ∈ pcsOf R c, (dget bn1 (pcD z)).isSome = true := fun z hz => (hWb z hz).elim (fun h => h) fun h => by cases h
          refine gs_when (gt_of (gt_eqNil C (go_var 3) (sh_pcs [])) rfl) ?_
          refine gs_setPop C 4 2 (xs := stk ks) (d := pcD c) ?_
          have ebz : stk ks ++ List.map pcD [] = stk ks := List.append_nil _
          have hsl : (stk ks).length + (List.map pcD []).length ≤ 100000 := by rw [stk_len, List.map_nil, List.length_nil]; omega
          cases hcb : dget bn1 (pcD c) with
          | some cell =>
            have hb1 : bnd bn1 c := by unfold bnd; rw [hcb]; rfl
            refine gs_unless (gt_of (gt_dnin C (ge_var (x := pcD c) 4) (gv_bound T B2 (gv_var 0 rfl (fun q => by cases q))) B2.bnd (row_dep _ _)) (by rw [show D.tup [ti c.1, ti c.2] = pcD c from rfl, hcb]; rfl)) ?_
            refine gs_end (gs_extend 2 3 ?_ rfl rfl hsl)
            rw [ebz]
            refine gs_nil fun σ H2 F => ⟨wtS ks, G1, _, wt_pos _ _, ⟨kn2, fm2, pg1, bn1, ks, rfl, B2, ss2, Bk1, StOk.mono (fun _ q => q) (fun z hz => .inl (by rw [List.mem_singleton.mp hz]; exact hb1)) st', ?_, cg1, rfl⟩, F.weak ⟨.inr rfl, .inr rfl, .inr rfl, .inl rfl, .inl rfl, .inr rfl, .inr rfl, .inr rfl, .inr rfl, trivial⟩⟩
            rcases ht with h | h
            · exact .inl h
            · rcases List.mem_cons.mp h with e | h
              · exact .inl (e ▸ hb1)
              · exact .inr h
          | none =>
            refine gs_when (gt_of (gt_dnin C (ge_var (x := pcD c) 4) (gv_bound T B2 (gv_var 0 rfl (fun q => by cases q))) B2.bnd (row_dep _ _)) (by rw [show D.tup [ti c.1, ti c.2] = pcD c from rfl, hcb]; rfl)) ?_
            refine gs_exprY (gy_bind (c_bind T ok hR) C.hr (gv_var 0 rfl (fun q => by cases q)) B2 ss2 Bk1 (ge_var (x := pcD c) 4) rc.1 rc.2.1 rc.2.2 hcb hps rfl) fun _ G2 ⟨c2, kn3, fm3, pg3, bn3, B3, ss3, Bk3, ⟨o, ho, _⟩, hoth⟩ => ?_
            have hb3 : bnd bn3 c := by
              unfold bnd
              rw [show pcD c = rowD c.1 c.2 from rfl, ho]; rfl
            have up : ∀ z, bnd bn1 z → bnd bn3 z := fun z hz => by
              by_cases hk : (pcD z).key = (rowD c.1 c.2).key
              · obtain ⟨e1, e2⟩ := row_key.mp hk
                have : z = c := Prod.ext e1 e2
                rw [this]; exact hb3
              · unfold bnd
                rw [hoth _ hk]; exact hz
            refine gs_end (gs_end (gs_extend 2 3 ?_ rfl rfl hsl))
            rw [ebz]
            refine gs_nil fun σ H2 F => ⟨wtS ks, G2, _, wt_pos _ _, ⟨kn3, fm3, pg3, bn3, ks, rfl, B3, ss3, Bk3, StOk.mono up (fun z hz => .inl (by rw [List.mem_singleton.mp hz]; exact hb3)) st', ?_, cg1.trans c2, rfl⟩, F.weak ⟨.inr rfl, .inr rfl, .inr rfl, .inl rfl, .inl rfl, .inr rfl, .inr rfl, .inr rfl, .inr rfl, trivial⟩⟩
            rcases ht with h | h
            · exact .inl (up _ h)
            · rcases List.mem_cons.mp h with e | h
              · exact .inl (e ▸ hb3)
              · exact .inr h
        · have ef : f = false := by
            cases f with
            | false => rfl
            | true =>
              exfalso
              obtain ⟨z, hz⟩ := List.exists_mem_of_ne_nil W hW0
              obtain ⟨h1, h2⟩ := hWn z hz
              exact (hf rfl z h1).elim h2 fun h => by cases h
          subst ef
          have hie : (W.map pcD).isEmpty = false := by
            cases W with
            | nil => exact absurd rfl hW0
            | cons z W => rfl
          refine gs_unless (gt_of (gt_eqNil C (go_var 3) (sh_pcs W)) hie) ?_
          refine gs_extend 2 3 ?_ rfl rfl (by rw [List.length_append, stk_len, List.length_singleton, List.length_map]; omega)
          rw [← stk_cons c false ks, ← stk_push W c false ks]
          refine gs_nil fun σ H2 F => ⟨_, G1, _, wt_push (Z := W.reverse) (ks := ks) (c := c) (fun z hz => (hWp z (List.mem_reverse.mp hz)).2) (by rw [List.length_reverse]; exact hWl), ⟨kn2, fm2, pg1, bn1, _, rfl, B2, ss2, Bk1, StOk.pushZ rc hrk hln st' W.reverse [] (fun z hz => hWp z (List.mem_reverse.mp hz)) (by rw [List.length_reverse]; exact hWl) (fun z hz => (hWb z hz).imp_right fun h => .inl (List.mem_reverse.mpr h)), ?_, cg1, rfl⟩, F.weak ⟨.inr rfl, .inr rfl, .inr rfl, .inl rfl, .inr rfl, .inr rfl, .inr rfl, .inr rfl, .inr rfl, trivial⟩⟩
          refine ht.imp_right fun h => ?_
          rw [List.map_append]
          exact List.mem_append_right _ h
    · have hks : ks = [] := by
        cases ks with
        | nil => rfl
        | cons e ks =>
          obtain ⟨c, f⟩ := e
          rw [stk_cons] at eb
          cases h : stk ks <;> rw [h] at eb <;> cases eb
      subst hks
      have hbx : bnd bn1 (x, y) := ht.elim (fun h => h) fun h => by cases h
      obtain ⟨cell, hcell⟩ := Option.isSome_iff_exists.mp hbx
      obtain ⟨o, rfl, ho, _⟩ := Bk1.at_ R.length x y cell (Nat.le_refl _) hx hy hcell
      have hsm := Bk1.small ok hR
      refine gs_unp (d := bndD x y o) C (ge_dget C (gv_bound T B1 (gv_var 0 rfl (fun q => by cases q))) (ge_var (x := rowD x y) 1) B1.bnd hcell (row_dep _ _)) (tg_tup C (tgs_cons (tg_name C 5) (tgs_cons (tg_name C 6) (tgs_cons (tg_name C 7) tgs_nil)))) ?_
      obtain ⟨pvs, hp0, hpr⟩ := B1.pgs
      have hpl := hpr.length
      rw [List.length_map] at hpl
      obtain ⟨dx, hins⟩ := B1.ins
      have hbp : b ≠ dp := fun z => B1.dpne.2.2.2.2.1 z.symm
      have tpp : ∀ {G2 : Hp}, Core (fun x => x = dp) G G2 → Tps K G G2 := fun {G2} c => tps_d (fun ys e => by rw [hp0] at e; cases e) (fun ob ys e => by rw [hp0] at e; cases e) c
      refine gs_if (k0 := wholeX pg1 x o) ?_ (fun hX => ?_) (fun hX => ?_)
      · cases o with
        | none => exact GW.t (gw_or (k1 := true) (k2 := false) (gt_of (gt_isN (ge_var (x := optD none) 7)) rfl) fun q => by cases q)
        | some i =>
          obtain ⟨g, cc, hg, _⟩ := ho
          have hgi := (List.getElem?_eq_some_iff.mp hg).1
          refine gt_of (GW.t (gw_or (k1 := false) (gt_of (gt_isN (ge_var (x := optD (some i)) 7)) rfl) fun _ => gw_or (gt_lt' (ge_add (ge_var (x := .int (i : Nat)) 7) ge_int) (ge_lenL (gb_fld (gv_pages T B1 (gv_var 0 rfl (fun q => by cases q))) hp0 hpr) T.z_len)) fun _ => gw_or1 (gt_lt' (ge_lenT (ds := g.x.map D.int) (ge_ixT (ds := [ti g.x, ti g.y, .tup (usedD g.o1 ++ [stepD g.k g.t] ++ usedD g.o2)]) (d := ti g.x) (ge_ixL (d := pgD g) (gb_fld (gv_pages T B1 (gv_var 0 rfl (fun q => by cases q))) hp0 hpr) (ge_var (x := .int (i : Nat)) 7) (atI_nat (by rw [List.getElem?_map, hg]; rfl))) ge_int) T.z_len) (ge_lenT (ds := x.map D.int) (ge_var (x := ti x) 5) T.z_len)))) ?_
          have ew : wholeX pg1 x (some i) = (decide ((i : Int) + 1 < (pg1.length : Nat)) || decide (((g.x.length : Nat) : Int) < (x.length : Nat))) := by
            show (decide ((i : Int) + 1 < (pg1.length : Nat)) || (match pg1[i]? with
              | some g => decide (((g.x.length : Nat) : Int) < (x.length : Nat))
              | none => false)) = _
            rw [hg]
          rw [ew, List.length_map, List.length_map, List.length_map]
          rfl
      · -- one page more
        refine gs_appendF (gv_pages T B1 (gv_var 0 rfl (fun q => by cases q))) hp0 (ge_tup (ds := [ti x, ti y, .tup (usedD o)]) (gac (ge_var (x := ti x) 5) (gac (ge_var (x := ti y) 6) (gac1 (ge_call (c_used T) (C.hr.mono (by decide)) (gac1 (ge_var (x := optD o) 7)) ⟨o, rfl, rfl⟩))))) (by omega) rfl fun G2 v c2 hv hp2 => ?_
        refine gs_end ?_
        refine gs_retY (gy_of (ge_tuple (ds := pg1.map pgD ++ [lastD x y o]) (gb_fld (gv_fld (gv_var 0 rfl (fun q => by cases q)) (c2 _ _ hins hbp) T.cls_Binding T.n_Binding_pages rfl) hp2 ((hpr.mono (tpp c2)).snoc hv)) T.z_tuple)) fun r G3 H3 ⟨s3, r3⟩ s4 => ?_
        refine hq r G3 H3 (cg.trans ((core_p c2).then s3)) s4 ⟨pg1, o, Bk1.pgs, hsm.2, ho, ?_⟩
        unfold wholeD
        rw [if_pos hX]
        exact r3
      · refine gs_end ?_
        refine gs_retY (gy_of (ge_tuple (ds := pg1.map pgD) (gb_fld (gv_pages T B1 (gv_var 0 rfl (fun q => by cases q))) hp0 hpr) T.z_tuple)) fun r G3 H3 ⟨s3, r3⟩ s4 => ?_
        refine hq r G3 H3 (cg.then s3) s4 ⟨pg1, o, Bk1.pgs, hsm.2, ho, ?_⟩
        unfold wholeD
        rw [hX, if_neg (by decide), List.append_nil]
        exact r3
end
end WB
namespace WB
open PySem PySem.Spec PyProof.Rows L2
/-! ### tests that change things -/
def GTY (X : Cx) (G : Hp) (Γ : List AV) (e : Expr) (Φ : Bool → Hp → Prop) : Prop := ∀ (σ : L2.St) (H : Hp) (Q : Bool → Hp → Prop), Fm X.K G σ Γ H → (∀ b H' G', Φ b G' → Fm X.K G' σ Γ H' → Q b H') → TR X e σ H Q
section
variable {X : Cx} {G : Hp} {Γ : List AV} {a b c e o : Expr} {pos apos : Pos} {k : Nat} {Ψ : V → Hp → Prop} {Φ : Bool → Hp → Prop} {sts sa sb : List Stmt} {E : Ends}
theorem gty_of {k0 : Bool} (h : GT X G Γ e k0) : GTY X G Γ e (fun b G' => b = k0 ∧ Same G G') := fun σ H Q F k => h σ H Q F fun H1 e1 => k k0 H1 G ⟨rfl, Same.refl G⟩ (F.same e1)
theorem gty_isN {n : Nat} {p2 : Pos} (he : GY X G Γ a Ψ) (h : ∀ v G', Ψ v G' → ∃ d, Rp X.K G' d v ∧ Φ (D.eqv d .non) G') (hm : behindInMarks .Is (.Constant .none n p2) = false := by first | exact nomark _ | rfl) : GTY X G Γ (.Compare a [.Is] [.Constant .none n p2] pos) Φ := fun σ H Q F k => by
  refine tr_of (pt_cmpR op_isN pe_self pe_self hm) ?_
  refine he σ H _ F fun v H1 G' q F' => ?_
  obtain ⟨d, r, hΦ⟩ := h v G' q
  refine ge_non σ H1 _ F' fun u H2 e2 r2 => ?_
  exact d_isN H2 v u (fun x H' => ∃ k, x = V.bl k ∧ Q k H') ((r.mono (Same.tup F'.ex)).mono (Same.tup e2)) r2 fun w H3 e3 r3 => ⟨_, r3, k _ H3 G' hΦ (F'.same (e2.trans e3))⟩
theorem gy_if (h : GTY X G Γ c Φ) (hk : ∀ k0 G', Φ k0 G' → (k0 = true → GY X G' Γ a Ψ) ∧ (k0 = false → GY X G' Γ b Ψ)) : GY X G Γ (.IfExp c a b pos) Ψ := fun σ H Q F k => by
  refine er_of (pe_ifExp pt_self pe_self pe_self) ?_
  refine h σ H _ F fun k0 H1 G' q F' => ?_
  obtain ⟨h1, h2⟩ := hk k0 G' q
  cases k0 with
  | true => exact h1 rfl σ H1 _ F' fun v H2 G2 q2 F2 => k v H2 G2 q2 F2
  | false => exact h2 rfl σ H1 _ F' fun v H2 G2 q2 F2 => k v H2 G2 q2 F2
theorem gs_ifY (h : GTY X G Γ c Φ) (hk : ∀ k0 G', Φ k0 G' → (k0 = true → GS X G' Γ sa (thenE X sts E)) ∧ (k0 = false → GS X G' Γ sb (thenE X sts E))) : GS X G Γ (.If c sa sb pos :: sts) E := fun σ H F => by
  refine sr_cons (s1_of (ps_if pt_self pss_self pss_self) ?_)
  refine h σ H _ F fun k0 H1 G' q F' => ?_
  obtain ⟨h1, h2⟩ := hk k0 G' q
  cases k0 with
  | true => exact h1 rfl σ H1 F'
  | false => exact h2 rfl σ H1 F'
end
section
variable {X : Cx} {G : Hp} {Γ : List AV} {e o : Expr} {pos apos : Pos} {k : Nat} {R : List Nat} {b a dk df dp db : Addr} {kn fm bn : List (D × D)} {pg : List Pg} {n : Nat} {x y : List Int}
theorem gy_whole (M : Mtd X.prog X.w X.K X.mg X.base (He.ga X.K "Binding") "whole" ["self", "row"] k (spWhole X.prog X.w X.K R)) (hr : Room k X.A) (ho : GV X G Γ o (.v (.ref b))) (B : Bv X.prog X.w X.K R b a dk df dp db G kn fm pg bn) (ss : SS R (R.length + 1) kn fm) (Bk : BnOk R pg bn) (he : GE X G Γ e (rowD x y)) (hx : Nd (low R R.length) x) (hy : Ends2 (low R R.length) y) (nb : noBw Γ = true)
    (hst1 : starEach [e] X.env = (false, eval e X.env) :: starEach [] X.env := by rfl) (hpl : (backTo pos (starEach [] X.env)).any (·.1) = false := by rfl)
    {pl : Sem Bool} (ht : eval (.Call (.Attribute o "whole" apos) [e] [] pos) X.env = (do let ov ← eval o X.env; standAt apos.atName; let (f, first) ← holding [ov] (getMethod ov "whole" pl); callWith pos f first (backTo pos (starEach [e] X.env)) (backToKw pos (keywordEach [] X.env))) := by rfl) :
    GY X G Γ (.Call (.Attribute o "whole" apos) [e] [] pos) (fun r G' => Core (Zb dk df dp db) G G' ∧ PostW X.K R x y r G') := by
  obtain ⟨dx, fs, hG, hl⟩ := B.ins0 (m := "whole") (fun _ _ _ => rfl)
  refine GY.imp (gy_methH (Z := Zb dk df dp db) (as := [.d (rowD x y)]) (post := fun r H G' => PostW X.K R x y r G') M hr ho hG hl (gac1 he hst1) (zok_nb B.znb nb) (fun vs H Q s r hq => ?_) (fun v H G1 G2 t ⟨pg, o, h1, h2, h3, h4⟩ => ⟨pg, o, h1, h2, h3, h4.mono t.tps⟩) hst1 hpl ht) fun r G' ⟨c1, H, s, q⟩ => ⟨c1, q⟩
  obtain ⟨rowv, r', ev, rr, er⟩ := r
  subst ev; cases er
  exact ⟨b, a, dk, df, dp, db, kn, fm, pg, bn, x, y, rowv, rfl, B.mono s, ss, Bk, rr, hx, hy, hq⟩
end
theorem bn_empty {R : List Nat} : BnOk R [] [] := ⟨⟨List.Pairwise.nil, fun _ h => (by cases h)⟩, fun _ _ _ _ _ _ _ q => (by cases q), fun i g h => (by simp at h), Nat.le_refl _⟩
section
variable {P : Program} {w : World} {K : PySem.W.Frag} {mg : Str → Option Value} {base : Heap}
theorem core_fresh {H G : Hp} {dk df dp db : Addr} (c : Core (Zb dk df dp db) H G) (n : FreshB H dk df dp db) : Same H G := fun x o e => c x o e fun z => by
  obtain ⟨n1, n2, n3, n4⟩ := n
  rcases z with (rfl | rfl) | rfl | rfl
  · rw [n1] at e; cases e
  · rw [n2] at e; cases e
  · rw [n3] at e; cases e
  · rw [n4] at e; cases e
def spTold (K : PySem.W.Frag) : Sp := fun vs H Q _ => ∃ (R : List Nat) (x y : List Int), ArgsOk K H [.d (.tup (lockD R)), .d (rowD x y)] vs ∧ 1 ≤ R.length ∧ R.length ≤ 60 ∧ Ok24 R ∧ Nd R x ∧ Ends2 R y ∧ ∀ r H', Same H H' → PostW K R x y r H' → Q r H'
theorem sc_told : FnScope ["lock", "row", "binding"] ["lock", "row"] (defScope s_told_way) := ⟨rfl, rfl, rfl, by decide +kernel, rfl, by decide +kernel, by decide +kernel⟩
theorem c_told (T : Tx K mg) : Cal P w K mg base "told_way" ["lock", "row"] 310 (spTold K) := by
  refine cal_make (N := ["lock", "row", "binding"]) (st := s_told_way) (k := 309) T.g_told_way T.f_told_way sc_told (fun _ _ _ _ _ _ us hl => match us, hl with | [_, _], _ => rfl) ?_ ?_
  · rintro vs H Q E ⟨R, x, y, h, _⟩; exact h.length
  · rintro cdv A outer s H vs Q E C ⟨R, x, y, ha, h1, h2, ok, hx, hy, hq⟩
    refine (?_ : GS _ H ([.d (.tup (lockD R)), .d (rowD x y)] ++ [.no]) _ _) _ _ (fm_start ha (Nat.le_of_ble_eq_true rfl))
    refine gs_expr (ge_call (c_must_be_lock T) (C.hr.mono (by decide)) (gac1 (ge_var 0)) ⟨R, rfl, h1, h2, ok, rfl⟩) ?_
    refine gs_expr (ge_callD (c_must_wish_all T) (ds := [.d (.int 2), .d (.int 4)]) (fun H => ⟨_, _, rfl, rfl, _, _, rfl, rfl, rfl⟩) (C.hr.mono (by decide)) (gac (ge_var 0) (gac1 (ge_var (x := rowD x y) 1))) ⟨R, x, y, rfl, h2, hx.wd ok, hy.wd ok, rfl⟩) ?_
    have hx' : Nd (low R R.length) x := by rw [low_all]; exact hx
    have hy' : Ends2 (low R R.length) y := by rw [low_all]; exact hy
    refine gs_setY C 2 (gy_binding T ok h2 (C.hr.mono (by decide)) (ge_var (x := .tup (lockD R)) 0)) fun v G1 ⟨b, ev, hb, s1, a, dk, df, dp, db, B, fr⟩ => ⟨.v (.ref b), ev, ?_⟩
    refine gs_retY (gy_if (Φ := fun k0 G' => k0 = false ∧ Core (Zb dk df dp db) G1 G' ∧ ∃ kn fm, Bv P w K R b a dk df dp db G' kn fm [] [] ∧ SS R (R.length + 1) kn fm) (Ψ := fun r G' => Core (Zb dk df dp db) G1 G' ∧ PostW K R x y r G') (gty_isN (gy_row (c_bestAll T ok h2 (Nat.le_refl _)) (C.hr.mono (by omega)) (gv_solver T B (gv_var 2 rfl (fun q => by cases q))) B.sv ss_empty (ge_var (x := rowD x y) 1) hx' hy' (Nat.le_refl _) trivial) fun v G2 ⟨c2, ⟨kn2, fm2, S2, s2, _⟩, r2⟩ => ⟨_, r2, rfl, core_s c2, kn2, fm2, B.solver c2 S2, s2⟩) fun k0 G2 ⟨ek, c2, kn2, fm2, B2, s2⟩ => ⟨fun q => (by rw [ek] at q; cases q), fun _ => GY.imp (gy_whole (c_whole T ok h2) (C.hr.mono (by decide)) (gv_var 2 rfl (fun q => by cases q)) B2 s2 bn_empty (ge_var (x := rowD x y) 1) hx' hy' rfl) fun r G3 ⟨c3, q3⟩ => ⟨c2.trans c3, q3⟩⟩) fun r G3 H3 ⟨c3, q3⟩ s3 => ?_
    refine hq r H3 ?_ ?_
    · exact (core_fresh ((Core.of s1).trans c3) fr).trans s3
    · obtain ⟨pg, o, q1, q2, q3, q4⟩ := q3
      exact ⟨pg, o, q1, q2, q3, q4.mono (Same.tup s3)⟩
end
end WB
namespace WB
open PySem PySem.Spec PyProof.Rows L2
section
variable {X : Cx} {G : Hp} {Γ : List AV} {a b c e o : Expr} {pos apos : Pos} {k : Nat} {xs : List D}
theorem ge_eqNil (C : Cok X k) {p2 : Pos} (ha : GV X G Γ a (.bw xs)) (hs : Sh (.tup xs)) (hm : behindInMarks .Eq (.List [] p2) = false := by first | exact nomark _ | rfl) : GE X G Γ (.Compare a [.Eq] [.List [] p2] pos) (.bl xs.isEmpty) := by
  rw [← eqv_nil]
  exact ge_cmp (op_eqD C.h64) (d_eqL (xs := xs) (ys := []) hs (ti_sh [])) ha (GL.rd (gl_lst (ds := []) ga_nil)) hm
end
theorem filt_no : ∀ l : List D, (l.filter fun _ => false) = []
  | [] => rfl
  | _ :: l => filt_no l
theorem low_low {R : List Nat} {k n : Nat} (h1 : k ≤ n) (h2 : n ≤ R.length) : low (low R n) k = low R k := by
  unfold low
  rw [List.drop_drop, List.length_drop]
  congr 1
  omega
theorem word_at {R : List Nat} {n k : Nat} {v : List Int} (hn : n ≤ R.length) (hk : k < n) (hv : Wd (low R n) v) : ∃ (m : Nat) (p : Int), (lockD R)[k]? = some (boltD m (low R k)) ∧ low R (k + 1) = m :: low R k ∧ v[k]? = some p ∧ 0 ≤ p ∧ p ≤ (m : Int) - 1 := by
  obtain ⟨m, e1, e2, e3⟩ := low_succ (R := R) (k := k) (by omega)
  have hl : (low R n).length = n := low_len hn
  obtain ⟨m', e1', e2', e3'⟩ := low_succ (R := low R n) (k := k) (by omega)
  rw [low_low (by omega) hn] at e1' e2'
  rw [low_low (by omega) hn, e1] at e1'
  injection e1' with e1'
  subst e1'
  rw [e2'] at hv
  obtain ⟨u, p, t, ev, hu, h0, h1⟩ := wd_part hv
  have hul : u.length = k := by rw [hu.len, e3]
  refine ⟨m, p, ?_, e1, ?_, h0, h1⟩
  · have := lock_get (R.take (R.length - 1 - k)) (low R k) m
    rwa [← e2, e3] at this
  · rw [ev, List.getElem?_append_right (by omega), hul, Nat.sub_self]; rfl
section
variable {P : Program} {w : World} {K : PySem.W.Frag} {mg : Str → Option Value} {base : Heap}
theorem sc_law_is_from : FnScope ["_law_thing", "_law_low", "_law_high"] ["_law_thing", "_law_low", "_law_high"] (defScope s_law_is_from) := ⟨rfl, rfl, rfl, by decide +kernel, rfl, by decide +kernel, by decide +kernel⟩
theorem c_law_is_from (T : Tx K mg) : Cal P w K mg base "_law_is_from" ["_law_thing", "_law_low", "_law_high"] 1 (spP K dFrom) := by
  refine cal_pure (N := ["_law_thing", "_law_low", "_law_high"]) (st := s_law_is_from) (k := 0) T.g_law_is_from T.f_law_is_from sc_law_is_from (fun _ _ _ _ _ _ us hl => match us, hl with | [_, _, _], _ => rfl) ?_ ?_
  · rintro as r ⟨a, lo, hi, rfl, _⟩; rfl
  · rintro cdv A outer s H E C as r Q ⟨a, lo, hi, rfl, ha, rfl⟩ hq
    have e1 : ([a, .d (.int lo), .d (.int hi)] : List AV).map entryA = [a, .d (.int lo), .d (.int hi)] := by rw [List.map_cons, entry_tb ha]; rfl
    rw [e1]
    by_cases hw : wholeB a = true
    · obtain ⟨i, rfl⟩ : ∃ i, a = .d (.int i) := by
        cases a with
        | d x => cases x with
          | int i => exact ⟨i, rfl⟩
          | _ => exact absurd hw Bool.false_ne_true
        | _ => exact absurd hw Bool.false_ne_true
      exact gs_ret (d := .bl (fromB (.d (.int i)) lo hi)) (ge_and (k1 := true) (ge_isInt T (gv_var 0 rfl (entry_nn ha)) ha) fun q => ge_and (k1 := true) (ge_not (ge_isBool T (gv_var 0 rfl (entry_nn ha)) ha)) fun q => ge_one (ge_chain op_le op_le (d_int0 (z := .bl (decide (lo ≤ i))) fun _ => rfl) (d_int0 (z := .bl (decide (i ≤ hi))) fun _ => rfl) (ge_var 1) (ge_var 0) (ge_var 2))) hq
    · have hf : fromB a lo hi = false := by
        cases a with
        | d x => cases x with
          | int i => exact absurd rfl hw
          | _ => rfl
        | _ => rfl
      rw [hf] at hq
      cases hi1 : isIntA a with
      | false => exact gs_ret (d := .bl (false && false)) (ge_and (k1 := false) (ge_of (ge_isInt T (gv_var 0 rfl (entry_nn ha)) ha) (by rw [hi1])) fun q => by cases q) hq
      | true =>
        have hb1 : isBoolA a = true := by
          unfold wholeB at hw
          rw [hi1] at hw
          cases hb : isBoolA a with
          | true => rfl
          | false => rw [hb] at hw; exact absurd rfl hw
        exact gs_ret (d := .bl (true && (false && false))) (ge_and (k1 := true) (ge_of (ge_isInt T (gv_var 0 rfl (entry_nn ha)) ha) (by rw [hi1])) fun q => ge_and (k1 := false) (ge_of (ge_not (ge_isBool T (gv_var 0 rfl (entry_nn ha)) ha)) (by rw [hb1]; rfl)) fun q => by cases q) hq
def dLWord (as : List AV) (r : AV) : Prop := ∃ (R : List Nat) (n : Nat) (v : List Int), as = [.d (.tup (lockD R)), .d (ti v), .d (.int (n : Nat))] ∧ n ≤ R.length ∧ R.length ≤ 60 ∧ Wd (low R n) v ∧ r = .d (.bl true)
theorem sc_law_is_word : FnScope ["_law_lock", "_law_thing", "_law_many", "_law_k"] ["_law_lock", "_law_thing", "_law_many"] (defScope s_law_is_word) := ⟨rfl, rfl, rfl, by decide +kernel, rfl, by decide +kernel, by decide +kernel⟩
theorem c_law_is_word (T : Tx K mg) : Cal P w K mg base "_law_is_word" ["_law_lock", "_law_thing", "_law_many"] 2 (spP K dLWord) := by
  refine cal_pure (N := ["_law_lock", "_law_thing", "_law_many", "_law_k"]) (st := s_law_is_word) (k := 1) T.g_law_is_word T.f_law_is_word sc_law_is_word (fun _ _ _ _ _ _ us hl => match us, hl with | [_, _, _], _ => rfl) ?_ ?_
  · rintro as r ⟨R, n, v, rfl, _⟩; rfl
  · rintro cdv A outer s H E C as r Q ⟨R, n, v, rfl, hn, hR, hw, rfl⟩ hq
    have hlen : v.length = n := by rw [hw.len, low_len hn]
    refine gs_unless (GW.t (k0 := !true || false) (gw_or (gt_not (gt_of (k := true) (gt_val (ge_isTup (p := .d (ti v)) T (gd_var 1) tb_d)) rfl)) fun _ => gw_or1 (gt_of (gt_nei C (ge_lenT (ge_var (x := ti v) 1) T.z_len) (ge_var (x := .int (n : Nat)) 2)) ?_))) ?_
    · rw [List.length_map, hlen, decide_eq_true rfl]; rfl
    refine gs_ret (d := .bl true) (ge_of (ge_eqNil (xs := ((rng 0 n).filter fun _ => false).map fun d => d) C (GL.rd (gl_lc1 C [("_law_k", 3)] (js := [3]) (fun d Γ => Γ.set 3 (.d d)) (fun d => d) (fun _ => false) (gi_range1 (ge_var (x := .int (n : Nat)) 2) T.z_range (by omega) (by omega)) ?_ ?_ ?_ ?_)) ?_) ?_) hq
    · intro d hd s H C' cl fp
      exact tg_name C.blk 3
    · intro Hb s0 d hd s H C' cl fp
      obtain ⟨k, hk, rfl⟩ := rng_mem hd
      rw [Int.zero_add]
      obtain ⟨m, p, h1, _, h2, h3, h4⟩ := word_at hn hk hw
      refine gt_of (b := !true) (gt_not (gt_of (k := true) (gt_val (ge_call (c_law_is_from T) (C.hr.mono (by decide)) (gac (ge_ixT (ds := v.map D.int) (d := .int p) (ge_var (x := ti v) 1) (ge_var (x := .int (k : Nat)) 3) (atI_nat (by rw [List.getElem?_map, h2]; rfl))) (gac ge_int (gac1 (ge_sub (ge_ixT (ds := [.int m, .tup (gapsD (low R k) m)]) (d := .int m) (ge_ixT (d := boltD m (low R k)) (ge_var 0) (ge_var (x := .int (k : Nat)) 3) (atI_nat h1)) ge_int) ge_int)))) ⟨_, _, _, rfl, tb_d, rfl⟩)) ?_)) rfl
      exact fromB_in h3 h4
    · intro Hb s0 d hd q
      cases q
    · rw [rng_len]; omega
    · rw [filt_no]; exact ti_sh []
    · rw [filt_no]; rfl
def dMoved (as : List AV) (r : AV) : Prop := ∃ (v : List Int) (k : Nat) (t : Int), as = [.d (ti v), .d (.int (k : Nat)), .d (.int t)] ∧ v.length ≤ 100 ∧ r = .d (ti (mvW v (k, t)))
theorem sc_law_moved : FnScope ["_law_at", "_law_k", "_law_there"] ["_law_at", "_law_k", "_law_there"] (defScope s_law_moved) := ⟨rfl, rfl, rfl, by decide +kernel, rfl, by decide +kernel, by decide +kernel⟩
theorem c_law_moved (T : Tx K mg) : Cal P w K mg base "_law_moved" ["_law_at", "_law_k", "_law_there"] 1 (spP K dMoved) := by
  refine cal_pure (N := ["_law_at", "_law_k", "_law_there"]) (st := s_law_moved) (k := 0) T.g_law_moved T.f_law_moved sc_law_moved (fun _ _ _ _ _ _ us hl => match us, hl with | [_, _, _], _ => rfl) ?_ ?_
  · rintro as r ⟨v, k, t, rfl, _⟩; rfl
  · rintro cdv A outer s H E C as r Q ⟨v, k, t, rfl, hl, rfl⟩ hq
    have e1 : D.tup (cutD (v.map D.int) none (some (k : Nat)) ++ [D.int t] ++ cutD (v.map D.int) (some (((k : Nat) : Int) + 1)) none) = ti (mvW v (k, t)) := by
      rw [cut_take, show (((k : Nat) : Int) + 1) = ((k + 1 : Nat) : Int) from rfl, cut_drop, ← List.map_take, ← List.map_drop]
      unfold ti mvW
      rw [List.map_append, List.map_append, List.append_assoc]; rfl
    have hlt : (cutD (v.map D.int) none (some (k : Nat))).length ≤ 100 := by rw [cut_take, List.length_take, List.length_map]; omega
    have hld : (cutD (v.map D.int) (some (((k : Nat) : Int) + 1)) none).length ≤ 100 := by rw [show (((k : Nat) : Int) + 1) = ((k + 1 : Nat) : Int) from rfl, cut_drop, List.length_drop, List.length_map]; omega
    refine gs_ret (ge_of (ge_cat' (ge_cat' (xs := cutD (v.map D.int) none (some (k : Nat))) (ys := [.int t]) (ge_slT (ge_var (x := ti v) 0) gp_none (gp_some (ge_var (x := .int (k : Nat)) 1))) (ge_tup (ds := [.int t]) (gac1 (ge_var 2))) (by rw [List.length_singleton]; omega)) (ge_slT (ge_var (x := ti v) 0) (gp_some (ge_add (ge_var (x := .int (k : Nat)) 1) ge_int)) gp_none) (by rw [List.length_append, List.length_singleton]; omega)) e1) hq
theorem sc_law_steps : FnScope ["_law_lock", "_law_at", "_law_found", "_law_k", "_law_gap"] ["_law_lock", "_law_at"] (defScope s_law_steps) := ⟨rfl, rfl, rfl, by decide +kernel, rfl, by decide +kernel, by decide +kernel⟩
theorem c_law_steps (T : Tx K mg) : Cal P w K mg base "_law_steps" ["_law_lock", "_law_at"] 1 (spP K dSteps) := by
  refine cal_pure (N := ["_law_lock", "_law_at", "_law_found", "_law_k", "_law_gap"]) (st := s_law_steps) (k := 0) T.g_law_steps T.f_law_steps sc_law_steps (fun _ _ _ _ _ _ us hl => match us, hl with | [_, _], _ => rfl) ?_ ?_
  · rintro as r ⟨R, v, rfl, _⟩; rfl
  · rintro cdv A outer s H E C as r Q ⟨R, v, rfl, hl, ok, hw, rfl⟩ hq
    have ln : (lockD R).length = R.length := lockD_len R
    refine gs_setL C 2 (gl_lst (ds := []) ga_nil) ?_
    refine gs_for (els := rng 0 (((lockD R).length : Nat) : Int).toNat) C (js := [3]) (fun d Γ => Γ.set 3 (.d d)) (fun k => [.d (.tup (lockD R)), .d (ti v), .own (stepsD (low R k) (v.take k)), .no, .no]) (gi_range1 (ge_lenT (ge_var (x := .tup (lockD R)) 0) T.z_len) T.z_range (by omega) (by omega)) ?_ (by rw [low_zero]; rfl) ?_ ?_
    · intro i d hd
      exact tg_name C 3
    · intro Hb s0 k d hd
      have hi : k < R.length := by
        have := (List.getElem?_eq_some_iff.mp hd).1
        rw [rng_len, Int.toNat_natCast] at this
        omega
      rw [rng_get (by rw [Int.toNat_natCast]; omega), Int.zero_add] at hd
      cases hd
      obtain ⟨m, u, p, t, e1, e3, ev, hul, hu, okm, eb, et, ep, es⟩ := steps_turn hw ok hi
      have hm := okm.hd
      have hsl := stepsD_len (low R k) (v.take k) okm.tl
      rw [e3] at hsl
      refine gs_for (els := gapsD (low R k) m) C (js := [4]) (fun d Γ => Γ.set 4 (.d d)) (fun i => [.d (.tup (lockD R)), .d (ti v), .own (stepsD (low R k) (v.take k) ++ ((gapsD (low R k) m).take i).flatMap (fSt k u p)), .d (.int (k : Nat)), .no]) (gi_tup (ge_ixT (ds := [.int m, .tup (gapsD (low R k) m)]) (d := .tup (gapsD (low R k) m)) (ge_ixT (d := boltD m (low R k)) (ge_var (x := .tup (lockD R)) 0) (ge_var (x := .int (k : Nat)) 3) (atI_nat eb)) ge_int)) ?_ (by rw [List.take_zero, List.flatMap_nil, List.append_nil]; rfl) ?_ ?_
      · intro i d hd
        exact tg_name C 4
      · intro Hb' s1 i d hd
        obtain ⟨h', t', v', rfl, _⟩ := gapsD_mem okm (List.mem_of_getElem? hd)
        have etk : ((gapsD (low R k) m).take (i + 1)).flatMap (fSt k u p) = ((gapsD (low R k) m).take i).flatMap (fSt k u p) ++ fSt k u p (gapD h' t' v') := by
          rw [List.take_add_one, hd, List.flatMap_append]
          simp
        have hfl := flat_le (fSt_len k u p) ((gapsD (low R k) m).take i)
        have hgl := gapsD_len (low R k) m
        have htl : ((gapsD (low R k) m).take i).length ≤ 6 := by rw [List.length_take]; omega
        refine gs_if (k0 := decide (h' = p) && ([ti v'] : List D).any fun z => D.eqv z (ti u)) (GW.t (gw_and (gt_eqi C (ge_ixT (ds := [.int h', .int t', .int 1, .tup [ti v']]) (d := .int h') (ge_var (x := gapD h' t' v') 4) ge_int) (ge_ixT (d := .int p) (ge_var (x := ti v) 1) (ge_var (x := .int (k : Nat)) 3) (atI_nat (by rw [List.getElem?_map, ep]; rfl)))) fun _ => gw_and1 (gt_cmp (op_inT C.hu) (d_inT (x := ti u) (ys := [ti v']) (ti_sh u) (sh_of ?_ ?_)) (ge_of (ge_slT (ge_var (x := ti v) 1) gp_none (gp_some (ge_var (x := .int (k : Nat)) 3))) ?_) (ge_ixT (ds := [.int h', .int t', .int 1, .tup [ti v']]) (d := .tup [ti v']) (ge_var (x := gapD h' t' v') 4) ge_int)))) (fun hk => ?_) (fun hk => ?_)
        · show (D.soks [ti v']) = true
          rw [D.soks, ti_sok]; rfl
        · show D.deps [ti v'] + 1 ≤ 60
          rw [D.deps, ti_dep]; decide
        · rw [cut_take, ← List.map_take, et]; rfl
        · refine gs_append 2 (xs := stepsD (low R k) (v.take k) ++ ((gapsD (low R k) m).take i).flatMap (fSt k u p)) (d := .tup [.int (k : Nat), .int t', .int 1]) (ge_tup (ds := [.int (k : Nat), .int t', .int 1]) (gac (ge_var 3) (gac (ge_ixT (ds := [.int h', .int t', .int 1, .tup [ti v']]) (ge_var (x := gapD h' t' v') 4) ge_int) (gac1 (ge_ixT (ds := [.int h', .int t', .int 1, .tup [ti v']]) (ge_var (x := gapD h' t' v') 4) ge_int))))) ?_ (by rw [List.length_append]; omega)
          refine gs_end (gs_nil fun σ H F => ?_)
          have e4 : fSt k u p (gapD h' t' v') = [.tup [.int (k : Nat), .int t', .int 1]] := by
            show (if (decide (h' = p) && ([ti v'] : List D).any fun z => D.eqv z (ti u)) = true then _ else _) = _
            rw [if_pos hk]
          show Fm _ Hb' σ [.d (.tup (lockD R)), .d (ti v), .own (stepsD (low R k) (v.take k) ++ ((gapsD (low R k) m).take (i + 1)).flatMap (fSt k u p)), .d (.int (k : Nat)), .no] H
          rw [etk, e4, ← List.append_assoc]
          exact F.weak ⟨.inr rfl, .inr rfl, .inr rfl, .inr rfl, .inl rfl, trivial⟩
        · refine gs_end (gs_nil fun σ H F => ?_)
          have e4 : fSt k u p (gapD h' t' v') = [] := by
            show (if (decide (h' = p) && ([ti v'] : List D).any fun z => D.eqv z (ti u)) = true then _ else _) = _
            rw [if_neg (by rw [hk]; decide)]
          show Fm _ Hb' σ [.d (.tup (lockD R)), .d (ti v), .own (stepsD (low R k) (v.take k) ++ ((gapsD (low R k) m).take (i + 1)).flatMap (fSt k u p)), .d (.int (k : Nat)), .no] H
          rw [etk, e4, List.append_nil]
          exact F.weak ⟨.inr rfl, .inr rfl, .inr rfl, .inr rfl, .inl rfl, trivial⟩
      · intro Hb' s1
        refine gs_nil fun σ H F => ?_
        rw [List.take_length, ← es] at F
        exact (F.down s1 rfl).weak ⟨.inr rfl, .inr rfl, .inr rfl, .inl rfl, .inr rfl, trivial⟩
    · intro Hb s0
      have e : stepsD (low R (rng 0 (((lockD R).length : Nat) : Int).toNat).length) (v.take (rng 0 (((lockD R).length : Nat) : Int).toNat).length) = stepsD R v := by
        rw [rng_len, Int.toNat_natCast, ln, low_all, List.take_of_length_le (by rw [hw.len]; exact Nat.le_refl _)]
      rw [e]
      exact gs_retO 2 rfl (hq.up s0)
/-! ### how many stands -/
def NnK (R : List Nat) (k : Nat) : Int := Nn (low R k)
def dAll (as : List AV) (r : AV) : Prop := ∃ R : List Nat, as = [.d (.tup (lockD R))] ∧ Ok24 R ∧ r = .d (.int (Nn R))
theorem sc_law_all : FnScope ["_law_lock", "_law_found", "_law_bolt"] ["_law_lock"] (defScope s_law_all) := ⟨rfl, rfl, rfl, by decide +kernel, rfl, by decide +kernel, by decide +kernel⟩
theorem lock_at {R : List Nat} {k : Nat} (hk : k < R.length) : ∃ m, (lockD R)[k]? = some (boltD m (low R k)) ∧ low R (k + 1) = m :: low R k := by
  obtain ⟨m, e1, e2, e3⟩ := low_succ hk
  refine ⟨m, ?_, e1⟩
  have := lock_get (R.take (R.length - 1 - k)) (low R k) m
  rwa [← e2, e3] at this
theorem c_law_all (T : Tx K mg) : Cal P w K mg base "_law_all" ["_law_lock"] 1 (spP K dAll) := by
  refine cal_pure (N := ["_law_lock", "_law_found", "_law_bolt"]) (st := s_law_all) (k := 0) T.g_law_all T.f_law_all sc_law_all (fun _ _ _ _ _ _ us hl => match us, hl with | [_], _ => rfl) ?_ ?_
  · rintro as r ⟨R, rfl, _⟩; rfl
  · rintro cdv A outer s H E C as r Q ⟨R, rfl, ok, rfl⟩ hq
    have ln : (lockD R).length = R.length := lockD_len R
    refine gs_set C 1 ge_int ?_
    refine gs_for (els := lockD R) C (js := [2]) (fun d Γ => Γ.set 2 (.d d)) (fun k => [.d (.tup (lockD R)), .d (.int (Nn (low R k))), .no]) (gi_tup (ge_var (x := .tup (lockD R)) 0)) ?_ (by rw [low_zero]; rfl) ?_ ?_
    · intro i d hd
      exact tg_name C 2
    · intro Hb s0 k d hd
      have hi : k < R.length := by rw [← ln]; exact (List.getElem?_eq_some_iff.mp hd).1
      obtain ⟨m, e1, e2⟩ := lock_at hi
      rw [e1] at hd
      cases hd
      have hm : 2 ≤ m ∧ m ≤ 4 := (e2 ▸ ok.low (k + 1) : Ok24 (m :: low R k)).hd
      refine gs_set C 1 (ge_op op_mul (d_int (z := .int (Nn (low R k) * m)) (.inr ⟨by omega, by omega⟩) fun _ => rfl) (ge_var (x := .int (Nn (low R k))) 1) (ge_ixT (ds := [.int m, .tup (gapsD (low R k) m)]) (d := .int m) (ge_var (x := boltD m (low R k)) 2) ge_int)) ?_
      refine gs_nil fun σ H F => ?_
      show Fm _ Hb σ [.d (.tup (lockD R)), .d (.int (Nn (low R (k + 1)))), .no] H
      rw [e2, show Nn (m :: low R k) = (m : Int) * Nn (low R k) from rfl, Int.mul_comm]
      exact F.weak ⟨.inr rfl, .inr rfl, .inl rfl, trivial⟩
    · intro Hb s0
      rw [ln, low_all]
      exact gs_ret (ge_var (x := .int (Nn R)) 1) (hq.up s0)
end
end WB
namespace WB
open PySem PySem.Spec PyProof.Rows L2
/-! ### reading a book -/
abbrev Tr := List Int × List Int × Int
def tD (t : Tr) : D := .tup [ti t.1, ti t.2.1, .int t.2.2, .int t.2.2]
def partD (i : Nat) : D := .tup [.str "part", .int (i : Nat)]
def EntOk (R : List Nat) (ts : List Tr) (here : List Int) (e : D) (here' : List Int) (v : Int) : Prop :=
  (∃ (i : Nat) (t : Tr) (c : List Int), ts[i]? = some t ∧ e = partD i ∧ here = t.1 ++ c ∧ here' = t.2.1 ++ c ∧ v = t.2.2) ∨
  (∃ (n m : Nat) (p t : Int) (u : List Int), e = stepD n t ∧ n < R.length ∧ low R (n + 1) = m :: low R n ∧ here = u ++ [p] ∧ u.length = n ∧ u = Wy (low R n) (min p t).toNat ∧ (t = p + 1 ∨ t = p - 1) ∧ 0 ≤ p ∧ p ≤ (m : Int) - 1 ∧ 0 ≤ t ∧ t ≤ (m : Int) - 1 ∧ here' = u ++ [t] ∧ v = 1)
theorem sok_str {x : Str} (h : PyData.strOk x = true) : (D.str x).sok = true := by unfold D.sok; exact h
theorem so_part : PyData.strOk "part" = true := by decide +kernel
theorem so_step : PyData.strOk "step" = true := by decide +kernel
theorem sh_part (i : Nat) : Sh (partD i) := sh_of (by
  show D.soks [.str "part", .int (i : Nat)] = true
  rw [D.soks, sok_str so_part]; rfl) (by
  show D.deps [.str "part", .int (i : Nat)] + 1 ≤ 60
  exact Nat.le_of_ble_eq_true rfl)
theorem sh_stepD (n : Nat) (t : Int) : Sh (stepD n t) := sh_of (by
  show D.soks [.str "step", .int (n : Nat), .int t] = true
  rw [D.soks, sok_str so_step]; rfl) (by
  show D.deps [.str "step", .int (n : Nat), .int t] + 1 ≤ 60
  exact Nat.le_of_ble_eq_true rfl)
theorem ti_inj {a b : List Int} (h : ti a = ti b) : a = b := by
  have e : (ti a).key = (ti b).key := by rw [h]
  rw [ti_key, ti_key] at e
  injection e with e
  exact map_num_inj e
section
variable {P : Program} {w : World} {K : PySem.W.Frag} {mg : Str → Option Value} {base : Heap}
def dEntryQ (as : List AV) (q : AV) : Prop := ∃ (R : List Nat) (ts : List Tr) (here : List Int) (e : D) (here' : List Int) (v : Int), as = [.d (.tup (lockD R)), .bw (ts.map tD), .d (ti here), .d e] ∧ Ok24 R ∧ here.length ≤ 100 ∧ here'.length ≤ 100 ∧ EntOk R ts here e here' v ∧ q = .d (.tup [ti here', .int v, .int v])
theorem sc_law_entry : FnScope ["_law_lock", "_law_told", "_law_here", "_law_entry_here", "_law_k", "_law_gap", "_law_begin", "_law_end", "_law_price", "_law_many"] ["_law_lock", "_law_told", "_law_here", "_law_entry_here"] (defScope s_law_entry) := ⟨rfl, rfl, rfl, by decide +kernel, rfl, by decide +kernel, by decide +kernel⟩
theorem c_law_entry (T : Tx K mg) : Cal P w K mg base "_law_entry" ["_law_lock", "_law_told", "_law_here", "_law_entry_here"] 2 (spP K dEntryQ) := by
  refine cal_pure (N := ["_law_lock", "_law_told", "_law_here", "_law_entry_here", "_law_k", "_law_gap", "_law_begin", "_law_end", "_law_price", "_law_many"]) (st := s_law_entry) (k := 1) T.g_law_entry T.f_law_entry sc_law_entry (fun _ _ _ _ _ _ us hl => match us, hl with | [_, _, _, _], _ => rfl) ?_ ?_
  · rintro as r ⟨R, ts, here, e, here', v, rfl, _⟩; rfl
  · rintro cdv A outer s H E C as r Q ⟨R, ts, here, e, here', v, rfl, ok, hl, hl', he, rfl⟩ hq
    rcases he with ⟨i, t, c, hi, rfl, e1, e2, e3⟩ | ⟨n, m, p, t, u, rfl, hn, hlow, e1, hul, hu, ht, p0, p1, t0, t1, e2, e3⟩
    · -- a part
      have hit := (List.getElem?_eq_some_iff.mp hi).1
      subst e1; subst e2; subst e3
      rw [List.length_append] at hl hl'
      refine gs_unless (GW.t (k0 := !true || false) (gw_or (gt_not (gt_of (k := true) (gt_val (ge_isTup (p := .d (partD i)) T (gd_var 3) tb_d)) rfl)) fun _ => gw_or1 (gt_of (gt_eq' C (ge_var (x := partD i) 3) (ge_tup (ds := []) ga_nil) (sh_part i) (ti_sh [])) (eqv_nil _)))) ?_
      refine gs_unless (GW.t (k0 := false && false) (gw_and (gt_of (gt_eq' C (ge_ixT (ds := [.str "part", .int (i : Nat)]) (d := .str "part") (ge_var (x := partD i) 3) ge_int) ge_str (sh_str so_part) (sh_str so_step)) (by rw [str_eqv]; exact decide_eq_false (by decide))) fun q => by cases q)) ?_
      refine gs_when (GW.t (k0 := true && (true && true)) (gw_and (gt_of (gt_eq' C (ge_ixT (ds := [.str "part", .int (i : Nat)]) (d := .str "part") (ge_var (x := partD i) 3) ge_int) ge_str (sh_str so_part) (sh_str so_part)) (D.eqv_self _)) fun _ => gw_and (gt_of (gt_eqi C (ge_lenT (ds := [.str "part", .int (i : Nat)]) (ge_var (x := partD i) 3) T.z_len) ge_int) rfl) fun _ => gw_and1 (gt_of (k := true) (gt_val (ge_call (c_law_is_from T) (C.hr.mono (by decide)) (gac (ge_ixT (ds := [.str "part", .int (i : Nat)]) (d := .int (i : Nat)) (ge_var (x := partD i) 3) ge_int) (gac ge_int (gac1 (ge_sub (ge_lenL (gb_var 1) T.z_len) ge_int)))) ⟨_, _, _, rfl, tb_d, rfl⟩)) ?_))) ?_
      · rw [List.length_map]
        exact fromB_in (by omega) (by omega)
      refine gs_unp (d := tD t) C (ge_ixL (d := tD t) (gb_var 1) (ge_ixT (ds := [.str "part", .int (i : Nat)]) (d := .int (i : Nat)) (ge_var (x := partD i) 3) ge_int) (atI_nat (by rw [List.getElem?_map, hi]; rfl))) (tg_tup C (tgs_cons (tg_name C 6) (tgs_cons (tg_name C 7) (tgs_cons (tg_name C 8) (tgs_cons (tg_name C 9) tgs_nil))))) ?_
      refine gs_when (gt_of (gt_eq' (x := ti t.1) (y := ti t.1) C (ge_of (ge_slT (ds := (t.1 ++ c).map D.int) (ge_var (x := ti (t.1 ++ c)) 2) gp_none (gp_some (ge_lenT (ds := t.1.map D.int) (ge_var (x := ti t.1) 6) T.z_len))) ?_) (ge_var (x := ti t.1) 6) (ti_sh _) (ti_sh _)) (D.eqv_self _)) ?_
      · rw [cut_take, ← List.map_take, List.length_map, List.take_left]; rfl
      refine gs_ret (ge_tup (ds := [ti (t.2.1 ++ c), .int t.2.2, .int t.2.2]) (gac (ge_of (ge_cat' (xs := t.2.1.map D.int) (ys := c.map D.int) (ge_var (x := ti t.2.1) 7) (ge_of (ge_slT (ds := (t.1 ++ c).map D.int) (ge_var (x := ti (t.1 ++ c)) 2) (gp_some (ge_lenT (ds := t.1.map D.int) (ge_var (x := ti t.1) 6) T.z_len)) gp_none) ?_) ?_) ?_) (gac (ge_var 8) (gac1 (ge_var 9))))) hq
      · rw [cut_drop, ← List.map_drop, List.length_map, List.drop_left]
      · rw [List.length_map, List.length_map]; omega
      · unfold ti; rw [List.map_append]
    · -- a step
      subst e1; subst e2; subst e3
      have hn100 : n ≤ 100 := by rw [List.length_append, List.length_singleton] at hl; omega
      obtain ⟨m', hb, hlow'⟩ := lock_at hn
      have em : m' = m := by
        rw [hlow] at hlow'
        injection hlow' with h1 _
        exact h1.symm
      subst em
      have okm : Ok24 (m' :: low R n) := hlow ▸ ok.low (n + 1)
      have hm := okm.hd
      refine gs_unless (GW.t (k0 := !true || false) (gw_or (gt_not (gt_of (k := true) (gt_val (ge_isTup (p := .d (stepD n t)) T (gd_var 3) tb_d)) rfl)) fun _ => gw_or1 (gt_of (gt_eq' C (ge_var (x := stepD n t) 3) (ge_tup (ds := []) ga_nil) (sh_stepD n t) (ti_sh [])) (eqv_nil _)))) ?_
      refine gs_when (GW.t (k0 := true && (true && true)) (gw_and (gt_of (gt_eq' C (ge_ixT (ds := [.str "step", .int (n : Nat), .int t]) (d := .str "step") (ge_var (x := stepD n t) 3) ge_int) ge_str (sh_str so_step) (sh_str so_step)) (D.eqv_self _)) fun _ => gw_and (gt_of (gt_eqi C (ge_lenT (ds := [.str "step", .int (n : Nat), .int t]) (ge_var (x := stepD n t) 3) T.z_len) ge_int) rfl) fun _ => gw_and1 (gt_of (k := true) (gt_val (ge_call (c_law_is_from T) (C.hr.mono (by decide)) (gac (ge_ixT (ds := [.str "step", .int (n : Nat), .int t]) (d := .int (n : Nat)) (ge_var (x := stepD n t) 3) ge_int) (gac ge_int (gac1 (ge_sub (ge_lenT (ds := (u ++ [p]).map D.int) (ge_var (x := ti (u ++ [p])) 2) T.z_len) ge_int)))) ⟨_, _, _, rfl, tb_d, rfl⟩)) ?_))) ?_
      · rw [List.length_map, List.length_append, List.length_singleton, hul]
        exact fromB_in (by omega) (by omega)
      refine gs_set C 4 (ge_ixT (ds := [.str "step", .int (n : Nat), .int t]) (d := .int (n : Nat)) (ge_var (x := stepD n t) 3) ge_int) ?_
      have hex : gapD p t u ∈ gapsD (low R n) m' := by
        rw [hu]
        rcases ht with rfl | rfl
        · refine gapsD_iff.mpr ⟨p.toNat, by omega, .inl ?_⟩
          rw [show (min p (p + 1)).toNat = p.toNat by omega, show ((p.toNat : Nat) : Int) = p by omega]
        · refine gapsD_iff.mpr ⟨(p - 1).toNat, by omega, .inr ?_⟩
          rw [show (min p (p - 1)).toNat = (p - 1).toNat by omega, show (((p - 1).toNat : Nat) : Int) = p - 1 by omega, show p - 1 + 1 = p by omega]
      refine gs_forX (els := gapsD (low R n) m') C (js := [5]) (fun d Γ => Γ.set 5 (.d d)) NoZ (fun _ i _ Γ' => (∀ d ∈ (gapsD (low R n) m').take i, d ≠ gapD p t u) ∧ Γ' = [.d (.tup (lockD R)), .bw (ts.map tD), .d (ti (u ++ [p])), .d (stepD n t), .d (.int (n : Nat)), .no, .no, .no, .no, .no]) (gi_tup (ge_ixT (ds := [.int m', .tup (gapsD (low R n) m')]) (d := .tup (gapsD (low R n) m')) (ge_ixT (d := boltD m' (low R n)) (ge_var (x := .tup (lockD R)) 0) (ge_var (x := .int (n : Nat)) 4) (atI_nat hb)) ge_int)) ?_ zok_no ?_ ?_ ?_
      · intro i d hd
        exact tg_name C 5
      · intro Hc G _ _ _ _
        exact ⟨fun d hd => (by rw [List.take_zero] at hd; cases hd), rfl⟩
      · intro Hc core _ i d hd G Γ' cg ⟨hno, eΓ⟩
        subst eΓ
        obtain ⟨h', t', v', rfl, _⟩ := gapsD_mem okm (List.mem_of_getElem? hd)
        have hcut : D.tup (cutD [.int h', .int t', .int 1, .tup [ti v']] none (some 2)) = ti [h', t'] := rfl
        refine gs_if (k0 := true && (decide ([h', t'] = [p, t]) && ([ti v'] : List D).any fun z => D.eqv z (ti u))) (GW.t (gw_and (gt_of (k := true) (gt_val (ge_call (c_law_is_from T) (C.hr.mono (by decide)) (gac (ge_ixT (ds := [.str "step", .int (n : Nat), .int t]) (d := .int t) (ge_var (x := stepD n t) 3) ge_int) (gac ge_int (gac1 ge_int))) ⟨_, _, _, rfl, tb_d, rfl⟩)) (fromB_in t0 (by omega))) fun _ => gw_and (gt_of (gt_eq' (x := ti [h', t']) (y := ti [p, t]) C (ge_of (ge_slT (ds := [.int h', .int t', .int 1, .tup [ti v']]) (ge_var (x := gapD h' t' v') 5) gp_none (gp_some ge_int)) hcut) (ge_tup (ds := [.int p, .int t]) (gac (ge_ixT (ds := (u ++ [p]).map D.int) (d := .int p) (ge_var (x := ti (u ++ [p])) 2) (ge_var (x := .int (n : Nat)) 4) (atI_nat ?_)) (gac1 (ge_ixT (ds := [.str "step", .int (n : Nat), .int t]) (d := .int t) (ge_var (x := stepD n t) 3) ge_int)))) (ti_sh _) (ti_sh _)) (ti_eqv _ _)) fun _ => gw_and1 (gt_cmp (op_inT C.hu) (d_inT (x := ti u) (ys := [ti v']) (ti_sh u) (sh_of ?_ ?_)) (ge_of (ge_slT (ds := (u ++ [p]).map D.int) (ge_var (x := ti (u ++ [p])) 2) gp_none (gp_some (ge_var (x := .int (n : Nat)) 4))) ?_) (ge_ixT (ds := [.int h', .int t', .int 1, .tup [ti v']]) (d := .tup [ti v']) (ge_var (x := gapD h' t' v') 5) ge_int)))) (fun hk => ?_) (fun hk => ?_)
        · rw [List.getElem?_map, List.getElem?_append_right (by omega), hul, Nat.sub_self]; rfl
        · show (D.soks [ti v']) = true
          rw [D.soks, ti_sok]; rfl
        · show D.deps [ti v'] + 1 ≤ 60
          rw [D.deps, ti_dep]; decide
        · rw [cut_take, ← List.map_take, ← hul, List.take_left]; rfl
        · refine gs_ret (ge_tup (ds := [ti (u ++ [t]), .int 1, .int 1]) (gac (ge_of (ge_cat' (xs := u.map D.int ++ [.int t]) (ys := []) (ge_cat' (xs := u.map D.int) (ys := [.int t]) (ge_of (ge_slT (ds := (u ++ [p]).map D.int) (ge_var (x := ti (u ++ [p])) 2) gp_none (gp_some (ge_var (x := .int (n : Nat)) 4))) ?_) (ge_tup (ds := [.int t]) (gac1 (ge_ixT (ds := [.str "step", .int (n : Nat), .int t]) (d := .int t) (ge_var (x := stepD n t) 3) ge_int))) ?_) (ge_of (ge_slT (ds := (u ++ [p]).map D.int) (ge_var (x := ti (u ++ [p])) 2) (gp_some (ge_add (ge_var (x := .int (n : Nat)) 4) ge_int)) gp_none) ?_) ?_) ?_) (gac (ge_ixT (ds := [.int h', .int t', .int 1, .tup [ti v']]) (d := .int 1) (ge_var (x := gapD h' t' v') 5) ge_int) (gac1 ge_int)))) (hq.up (core.same.trans cg))
          · rw [cut_take, ← List.map_take, ← hul, List.take_left]
          · rw [List.length_map, hul]; simp; omega
          · rw [show ((n : Nat) : Int) + 1 = ((n + 1 : Nat) : Int) from rfl, cut_drop, List.drop_of_length_le (by rw [List.length_map, List.length_append, hul, List.length_singleton]; exact Nat.le_refl _)]
          · rw [List.length_append, List.length_map, hul]; simp; omega
          · rw [List.append_nil]; exact (ti_snoc _ _).symm
        · refine gs_end (gs_nil fun σ H F => ⟨G, _, cg, ⟨fun d hd' => ?_, rfl⟩, F.weak ⟨.inr rfl, .inr rfl, .inr rfl, .inr rfl, .inr rfl, .inl rfl, .inr rfl, .inr rfl, .inr rfl, .inr rfl, trivial⟩⟩)
          rw [List.take_add_one, hd] at hd'
          rcases List.mem_append.mp hd' with h | h
          · exact hno d h
          · have ed : d = gapD h' t' v' := by simpa using h
            rw [ed]
            intro eg
            unfold gapD at eg
            injection eg with eg
            injection eg with g1 eg
            injection eg with g2 eg
            injection eg with g3 eg
            injection eg with g4 eg
            injection g1 with g1
            injection g2 with g2
            injection g4 with g4
            injection g4 with g4 _
            have g5 := ti_inj g4
            rw [g1, g2, g5] at hk
            have hk2 : (([ti u] : List D).any fun z => D.eqv z (ti u)) = true := by
              rw [List.any_cons, D.eqv_self]; rfl
            rw [decide_eq_true rfl, hk2] at hk
            cases hk
      · intro Hc core _ G Γ' cg ⟨hno, eΓ⟩
        rw [List.take_length] at hno
        exact absurd rfl (hno _ hex)
end
end WB
namespace WB
open PySem PySem.Spec PyProof.Rows L2
/-- ** of any int, the power not too great -/
theorem op_powX {X : Cx} : OpR X (binaryOp .Pow) (rI (fun i j => 0 ≤ j ∧ (Builtin.Int.intBits i : Int) * j ≤ 2 ^ 27) fun i j => .int (i ^ j.toNat)) := opI fun _ _ _ _ _ _ _ hc q => pow_int hc.1 hc.2 q
def p60 : Int := (10 : Int) ^ (60 : Int).toNat
def p300 : Int := p60 ^ (5 : Int).toNat
theorem p300_ge : (4 : Int) ^ 60 ≤ p300 := by decide +kernel
theorem p60_bits : (0 : Int) ≤ 5 ∧ (Builtin.Int.intBits p60 : Int) * 5 ≤ 2 ^ 27 := by decide +kernel
theorem p10_bits : (0 : Int) ≤ 60 ∧ (Builtin.Int.intBits 10 : Int) * 60 ≤ 2 ^ 27 := by decide +kernel
theorem Nn_le : ∀ {R : List Nat}, Ok24 R → Nn R ≤ (4 : Int) ^ R.length
  | [], _ => Int.le_refl 1
  | m :: rs, ok => by
    have h1 := Nn_le ok.tl
    have h2 := ok.hd
    have h3 := Nn_pos ok.tl
    show (m : Int) * Nn rs ≤ (4 : Int) ^ (rs.length + 1)
    rw [Int.pow_succ, Int.mul_comm]
    exact Int.mul_le_mul h1 (by omega) (by omega) (by omega)
theorem pow4_mono {a b : Nat} (h : a ≤ b) : (4 : Int) ^ a ≤ (4 : Int) ^ b := by
  have := Nat.pow_le_pow_right (show 1 ≤ 4 by decide) h
  exact_mod_cast this
theorem exV_bd {R : List Nat} (ok : Ok24 R) {x y : List Int} (hx : Wd R x) (hy : Wd R y) : 0 ≤ exV R x y ∧ exV R x y ≤ Nn R - 1 := by
  have h1 := pos_bd ok hx
  have h2 := pos_bd ok hy
  unfold exV dst
  split <;> omega
theorem exV_small {R : List Nat} (ok : Ok24 R) (hR : R.length ≤ 60) {x y : List Int} (hx : Wd R x) (hy : Wd R y) : exV R x y ≤ p300 := by
  have h1 := (exV_bd ok hx hy).2
  have h2 := Nn_le ok
  have h3 := pow4_mono hR
  have h4 := p300_ge
  omega
section
variable {P : Program} {w : World} {K : PySem.W.Frag} {mg : Str → Option Value} {base : Heap}
structure PartOk (R : List Nat) (ts : List Tr) (es : List D) (t : Tr) : Prop where
  n : 1 ≤ t.1.length
  nR : t.1.length ≤ R.length
  wx : Wd (low R t.1.length) t.1
  wy : Wd (low R t.1.length) t.2.1
  len : es.length ≤ 10
  v : t.2.2 ≤ p300
  st : ∃ st : Nat → List Int × Int, st 0 = (t.1, 0) ∧ st es.length = (t.2.1, t.2.2) ∧ ∀ i e, es[i]? = some e → (st i).1.length ≤ 100 ∧ (st (i + 1)).1.length ≤ 100 ∧ EntOk R ts (st i).1 e (st (i + 1)).1 ((st (i + 1)).2 - (st i).2)
def dPart (as : List AV) (q : AV) : Prop := ∃ (R : List Nat) (ts : List Tr) (es : List D) (t : Tr), as = [.d (.tup (lockD R)), .bw (ts.map tD), .d (.tup [ti t.1, ti t.2.1, .tup es])] ∧ Ok24 R ∧ R.length ≤ 60 ∧ PartOk R ts es t ∧ q = .d (tD t)
theorem sc_law_part : FnScope ["_law_lock", "_law_told", "_law_part_here", "_law_begin", "_law_end", "_law_entries", "_law_here", "_law_price", "_law_many", "_law_entry_here", "_law_done"] ["_law_lock", "_law_told", "_law_part_here"] (defScope s_law_part) := ⟨rfl, rfl, rfl, by decide +kernel, rfl, by decide +kernel, by decide +kernel⟩
theorem c_law_part (T : Tx K mg) : Cal P w K mg base "_law_part" ["_law_lock", "_law_told", "_law_part_here"] 3 (spP K dPart) := by
  refine cal_pure (N := ["_law_lock", "_law_told", "_law_part_here", "_law_begin", "_law_end", "_law_entries", "_law_here", "_law_price", "_law_many", "_law_entry_here", "_law_done"]) (st := s_law_part) (k := 2) T.g_law_part T.f_law_part sc_law_part (fun _ _ _ _ _ _ us hl => match us, hl with | [_, _, _], _ => rfl) ?_ ?_
  · rintro as r ⟨R, ts, es, t, rfl, _⟩; rfl
  · rintro cdv A outer s H E C as r Q ⟨R, ts, es, t, rfl, ok, hR, hp, rfl⟩ hq
    obtain ⟨x, y, v⟩ := t
    obtain ⟨n1, nR, wx, wy, hes, hv, st, s0, sE, hst⟩ := hp
    replace n1 : 1 ≤ x.length := n1
    replace nR : x.length ≤ R.length := nR
    replace wx : Wd (low R x.length) x := wx
    replace wy : Wd (low R x.length) y := wy
    replace hv : v ≤ p300 := hv
    replace s0 : st 0 = (x, 0) := s0
    replace sE : st es.length = (y, v) := sE
    have hyl : y.length = x.length := by rw [wy.len, low_len nR]
    refine gs_unless (GW.t (k0 := !true || (false || (!true || false))) (gw_or (gt_not (gt_of (k := true) (gt_val (ge_isTup (p := .d (.tup [ti x, ti y, .tup es])) T (gd_var 2) tb_d)) rfl)) fun _ => gw_or (gt_of (gt_nei C (ge_lenT (ds := [ti x, ti y, .tup es]) (ge_var (x := .tup [ti x, ti y, .tup es]) 2) T.z_len) ge_int) rfl) fun _ => gw_or (gt_not (gt_of (k := true) (gt_val (ge_isTup (p := .d (ti x)) T (ge_ixT (ds := [ti x, ti y, .tup es]) (d := ti x) (ge_var (x := .tup [ti x, ti y, .tup es]) 2) ge_int) tb_d)) rfl)) fun _ => gw_or1 (gt_of (gt_eq' (x := ti x) C (ge_ixT (ds := [ti x, ti y, .tup es]) (d := ti x) (ge_var (x := .tup [ti x, ti y, .tup es]) 2) ge_int) (ge_tup (ds := []) ga_nil) (ti_sh x) (ti_sh [])) ?_))) ?_
    · rw [show ti x = .tup (x.map D.int) from rfl, eqv_nil]
      cases x with
      | nil => simp at n1
      | cons a x => rfl
    refine gs_unp (d := .tup [ti x, ti y, .tup es]) C (ge_var 2) (tg_tup C (tgs_cons (tg_name C 3) (tgs_cons (tg_name C 4) (tgs_cons (tg_name C 5) tgs_nil)))) ?_
    refine gs_unless (GW.t (k0 := false || (!true || !true)) (gw_or (gt_of (gt_gt' (ge_lenT (ds := x.map D.int) (ge_var (x := ti x) 3) T.z_len) (ge_lenT (ge_var (x := .tup (lockD R)) 0) T.z_len)) ?_) fun _ => gw_or (gt_not (gt_val (k0 := true) (ge_call (c_law_is_word T) C.hr (gac (ge_var 0) (gac (ge_var (x := ti x) 3) (gac1 (ge_lenT (ds := x.map D.int) (ge_var (x := ti x) 3) T.z_len)))) ⟨R, x.length, x, ?_, nR, hR, wx, rfl⟩))) fun _ => gw_or1 (gt_not (gt_val (k0 := true) (ge_call (c_law_is_word T) C.hr (gac (ge_var 0) (gac (ge_var (x := ti y) 4) (gac1 (ge_lenT (ds := x.map D.int) (ge_var (x := ti x) 3) T.z_len)))) ⟨R, x.length, y, ?_, nR, hR, wy, rfl⟩))))) ?_
    · rw [List.length_map, lockD_len]; exact decide_eq_false (by omega)
    · rw [List.length_map]
    · rw [List.length_map]
    refine gs_unless (GW.t (k0 := !true || false) (gw_or (gt_not (gt_of (k := true) (gt_val (ge_isTup (p := .d (.tup es)) T (gd_var 5) tb_d)) rfl)) fun _ => gw_or1 (gt_of (gt_gt' (ge_lenT (ds := es) (ge_var (x := .tup es) 5) T.z_len) ge_int) (decide_eq_false (by omega))))) ?_
    refine gs_par3 C 6 7 8 (ge_var (x := ti x) 3) ge_int ge_int ?_
    refine gs_for (els := es) C (js := [9]) (fun d Γ => Γ.set 9 (.d d)) (fun i => [.d (.tup (lockD R)), .bw (ts.map tD), .d (.tup [ti x, ti y, .tup es]), .d (ti x), .d (ti y), .d (.tup es), .d (ti (st i).1), .d (.int (st i).2), .d (.int (st i).2), .no, .no]) (gi_tup (ge_var (x := .tup es) 5)) ?_ (by rw [s0]; rfl) ?_ ?_
    · intro i d hd
      exact tg_name C 9
    · intro Hb s1 i d hd
      obtain ⟨l1, l2, he⟩ := hst i d hd
      generalize st (i + 1) = b at l2 he ⊢
      generalize st i = a at l1 he ⊢
      have hst' : tD (b.1, b.1, 0) = tD (b.1, b.1, 0) := rfl
      refine gs_set C 10 (d := .tup [ti b.1, .int (b.2 - a.2), .int (b.2 - a.2)]) (ge_call (c_law_entry T) (C.hr.mono (by decide)) (gac (ge_var 0) (ga_cons (gb_var 1) (gac (ge_var (x := ti a.1) 6) (gac1 (ge_var 9))))) ⟨R, ts, a.1, d, b.1, b.2 - a.2, rfl, ok, l1, l2, he, rfl⟩) ?_
      refine gs_unless (gt_of (gt_isN (ge_var (x := .tup [ti b.1, .int (b.2 - a.2), .int (b.2 - a.2)]) 10)) rfl) ?_
      refine gs_par3 C 6 7 8 (ge_ixT (ds := [ti b.1, .int (b.2 - a.2), .int (b.2 - a.2)]) (d := ti b.1) (ge_var (x := .tup [ti b.1, .int (b.2 - a.2), .int (b.2 - a.2)]) 10) ge_int) (ge_add (ge_var (x := .int a.2) 7) (ge_ixT (ds := [ti b.1, .int (b.2 - a.2), .int (b.2 - a.2)]) (d := .int (b.2 - a.2)) (ge_var (x := .tup [ti b.1, .int (b.2 - a.2), .int (b.2 - a.2)]) 10) ge_int)) (ge_add (ge_var (x := .int a.2) 8) (ge_ixT (ds := [ti b.1, .int (b.2 - a.2), .int (b.2 - a.2)]) (d := .int (b.2 - a.2)) (ge_var (x := .tup [ti b.1, .int (b.2 - a.2), .int (b.2 - a.2)]) 10) ge_int)) ?_
      rw [show a.2 + (b.2 - a.2) = b.2 by omega]
      exact gs_nil fun σ H F => F.weak ⟨.inr rfl, .inr rfl, .inr rfl, .inr rfl, .inr rfl, .inr rfl, .inr rfl, .inr rfl, .inr rfl, .inl rfl, .inl rfl, trivial⟩
    · intro Hb s1
      rw [sE]
      refine gs_ret (d := tD (x, y, v)) (GV.exp (gv_if (k0 := true && true) (GW.t (gw_and (gt_of (gt_eq' (x := ti y) (y := ti y) C (ge_var 6) (ge_var 4) (ti_sh _) (ti_sh _)) (D.eqv_self _)) fun _ => gw_and1 (gt_of (gt_le' (ge_var (x := .int v) 8) (ge_op op_powX (d_int (z := .int p300) p60_bits fun _ => rfl) (ge_op op_powX (d_int (z := .int p60) p10_bits fun _ => rfl) ge_int ge_int) ge_int)) (decide_eq_true hv)))) (fun _ => GE.val (ge_tup (ds := [ti x, ti y, .int v, .int v]) (gac (ge_var 3) (gac (ge_var 4) (gac (ge_var 7) (gac1 (ge_var 8))))))) fun q => by cases q)) (hq.up s1)
end
end WB
namespace WB
open PySem PySem.Spec PyProof.Rows L2
/-! ### data of which some is known -/
def GEx (X : Cx) (H0 : Hp) (Γ : List AV) (e : Expr) (P : D → Prop) : Prop := ∀ (σ : L2.St) (H : Hp) (Q : VK), Fm X.K H0 σ Γ H → (∀ v H' d, P d → Same H H' → Rp X.K H' d v → Q v H') → ER X e σ H Q
section
variable {X : Cx} {H0 : Hp} {Γ : List AV} {a b c e e1 e2 : Expr} {es : List Expr} {pos np : Pos} {d d1 : D} {n : Str} {ps : List Str} {k : Nat} {as : List AV} {dom : List AV → AV → Prop} {P : D → Prop}
theorem ge_callE2 (C : Cal X.prog X.w X.K X.mg X.base n ps k (spP X.K dom)) (hr : Room k X.A) (h1 : GE X H0 Γ e1 d1) (h2 : GEx X H0 Γ e2 P) (hd : ∀ d2, P d2 → dom [.d d1, .d d2] (.d d)) (hg : Gl X n := by rfl) (hdb : (n == ("__debug__" : Str)) = false := by decide)
    (hst1 : starEach [e1, e2] X.env = (false, eval e1 X.env) :: starEach [e2] X.env := by rfl) (hst2 : starEach [e2] X.env = (false, eval e2 X.env) :: starEach [] X.env := by rfl) (hpl : (backTo pos (starEach [e2] X.env)).any (·.1) = false := by rfl) : GE X H0 Γ (.Call (.Name n np) [e1, e2] [] pos) d := fun σ H Q F kq => by
  obtain ⟨f, fd, G, hm, hk, hb⟩ := C.ex
  refine er_of (pe_call G hr hg hm hk hb .nil pass0 (pa_cons pe_self (pa_cons pe_self pa_nil hst2) hst1) hdb hst1 hpl) ?_
  refine h1 σ H _ F fun v1 H1 s1 r1 => ?_
  refine h2 σ H1 _ (F.same s1) fun v2 H2 d2 p2 s2 r2 => ?_
  exact ⟨[.d d1, .d d2], .d d, ⟨v1, [v2], rfl, r1.mono (Same.tup s2), v2, [], rfl, r2, rfl⟩, hd d2 p2, fun v H3 s3 r3 => kq v H3 (s1.trans (s2.trans s3)) r3⟩
/-- told_way -/
theorem gex_told {R : List Nat} {x y : List Int} (C : Cal X.prog X.w X.K X.mg X.base "told_way" ["lock", "row"] k (spTold X.K)) (hr : Room k X.A) (h1 : GE X H0 Γ e1 (.tup (lockD R))) (h2 : GE X H0 Γ e2 (rowD x y)) (l1 : 1 ≤ R.length) (l2 : R.length ≤ 60) (ok : Ok24 R) (hx : Nd R x) (hy : Ends2 R y) (hg : Gl X "told_way" := by rfl)
    (hst1 : starEach [e1, e2] X.env = (false, eval e1 X.env) :: starEach [e2] X.env := by rfl) (hst2 : starEach [e2] X.env = (false, eval e2 X.env) :: starEach [] X.env := by rfl) (hpl : (backTo pos (starEach [e2] X.env)).any (·.1) = false := by rfl) : GEx X H0 Γ (.Call (.Name "told_way" np) [e1, e2] [] pos) (fun d => ∃ (pg : List Pg) (o : Option Nat), PgOk R pg ∧ pg.length ≤ 976 ∧ NumOk R R.length pg x y o ∧ d = .tup (wholeD pg x y o)) := fun σ H Q F kq => by
  obtain ⟨f, fd, G, hm, hk, hb⟩ := C.ex
  refine er_of (pe_call G hr hg hm hk hb .nil pass0 (pa_cons pe_self (pa_cons pe_self pa_nil hst2) hst1) (by decide) hst1 hpl) ?_
  refine h1 σ H _ F fun v1 H1 s1 r1 => ?_
  refine h2 σ H1 _ (F.same s1) fun v2 H2 s2 r2 => ?_
  refine ⟨R, x, y, ⟨v1, [v2], rfl, r1.mono (Same.tup s2), v2, [], rfl, r2, rfl⟩, l1, l2, ok, hx, hy, fun r H3 s3 ⟨pg, o, q1, q2, q3, q4⟩ => ?_⟩
  exact kq r H3 _ ⟨pg, o, q1, q2, q3, rfl⟩ (s1.trans (s2.trans s3)) q4
end
/-! ### the whole book, read -/
def pageD (p : List D × Tr) : D := .tup [ti p.2.1, ti p.2.2.1, .tup p.1]
def dWeigh (as : List AV) (q : AV) : Prop := ∃ (R : List Nat) (ps : List (List D × Tr)) (es : List D) (t : Tr), as = [.d (.tup (lockD R)), .d (.tup ((ps ++ [(es, t)]).map pageD))] ∧ Ok24 R ∧ R.length ≤ 60 ∧ ps.length ≤ 1000 ∧ (∀ i es' t', (ps ++ [(es, t)])[i]? = some (es', t') → PartOk R (((ps ++ [(es, t)]).take i).map (·.2)) es' t') ∧ t.1.length = R.length ∧ q = .d (tD t)
section
variable {P : Program} {w : World} {K : PySem.W.Frag} {mg : Str → Option Value} {base : Heap}
theorem sc_law_weighed : FnScope ["_law_lock", "_law_thing", "_law_told", "_law_part_here", "_law_one"] ["_law_lock", "_law_thing"] (defScope s_law_weighed) := ⟨rfl, rfl, rfl, by decide +kernel, rfl, by decide +kernel, by decide +kernel⟩
theorem c_law_weighed (T : Tx K mg) : Cal P w K mg base "_law_weighed" ["_law_lock", "_law_thing"] 4 (spP K dWeigh) := by
  refine cal_pure (N := ["_law_lock", "_law_thing", "_law_told", "_law_part_here", "_law_one"]) (st := s_law_weighed) (k := 3) T.g_law_weighed T.f_law_weighed sc_law_weighed (fun _ _ _ _ _ _ us hl => match us, hl with | [_, _], _ => rfl) ?_ ?_
  · rintro as r ⟨R, ps, es, t, rfl, _⟩; rfl
  · rintro cdv A outer s H E C as r Q ⟨R, ps, es, t, rfl, ok, hR, hl, hp, ht, rfl⟩ hq
    generalize hps : ps ++ [(es, t)] = qs at hp
    have hql : qs.length = ps.length + 1 := by rw [← hps, List.length_append, List.length_singleton]
    have hml : (qs.map pageD).length = qs.length := List.length_map ..
    refine gs_unless (GW.t (k0 := !true || !(true && true)) (gw_or (gt_not (gt_of (k := true) (gt_val (ge_isTup (p := .d (.tup (qs.map pageD))) T (gd_var 1) tb_d)) rfl)) fun _ => gw_or1 (gt_not (gt_of (gt_lele ge_int (ge_lenT (ge_var (x := .tup (qs.map pageD)) 1) T.z_len) ge_int) ?_)))) ?_
    · rw [hml, decide_eq_true (by omega), decide_eq_true (by omega)]
    refine gs_setL C 2 (gl_lst (ds := []) ga_nil) ?_
    refine gs_for (els := qs.map pageD) C (js := [3]) (fun d Γ => Γ.set 3 (.d d)) (fun i => [.d (.tup (lockD R)), .d (.tup (qs.map pageD)), .own (((qs.take i).map (·.2)).map tD), .no, .no]) (gi_tup (ge_var (x := .tup (qs.map pageD)) 1)) ?_ (by rw [List.take_zero]; rfl) ?_ ?_
    · intro i d hd
      exact tg_name C 3
    · intro Hb s1 i d hd
      rw [List.getElem?_map] at hd
      obtain ⟨⟨es', t'⟩, h1, rfl⟩ := Option.map_eq_some_iff.mp hd
      have hi := (List.getElem?_eq_some_iff.mp h1).1
      refine gs_set C 4 (d := tD t') (ge_call (c_law_part T) C.hr (gac (ge_var 0) (ga_cons (go_var 2) (gac1 (ge_var (x := pageD (es', t')) 3)))) ⟨R, _, es', t', rfl, ok, hR, hp i es' t' h1, rfl⟩) ?_
      refine gs_unless (gt_of (gt_isN (ge_var (x := tD t') 4)) rfl) ?_
      refine gs_append 2 (xs := ((qs.take i).map (·.2)).map tD) (d := tD t') (ge_var 4) ?_ (by rw [List.length_map, List.length_map, List.length_take]; omega)
      have e : ((qs.take i).map (·.2)).map tD ++ [tD t'] = ((qs.take (i + 1)).map (·.2)).map tD := by
        rw [List.take_add_one, h1, List.map_append, List.map_append]; rfl
      rw [e]
      exact gs_nil fun σ H F => F.weak ⟨.inr rfl, .inr rfl, .inr rfl, .inl rfl, .inl rfl, trivial⟩
    · intro Hb s1
      rw [hml, List.take_length]
      have e : (qs.map (·.2)).map tD = (ps.map (·.2)).map tD ++ [tD t] := by rw [← hps, List.map_append, List.map_append]; rfl
      rw [e]
      refine gs_ret (d := tD t) (GV.exp (gv_if (k0 := true) (gt_of (gt_eqi C (ge_lenT (ds := t.1.map D.int) (ge_ixT (ds := [ti t.1, ti t.2.1, .int t.2.2, .int t.2.2]) (d := ti t.1) (ge_ixL (d := tD t) (go_var 2) (ge_neg ge_int) (atI_last _ _)) ge_int) T.z_len) (ge_lenT (ge_var (x := .tup (lockD R)) 0) T.z_len)) ?_) (fun _ => GE.val (ge_ixL (d := tD t) (go_var 2) (ge_neg ge_int) (atI_last _ _))) fun q => by cases q)) (hq.up s1)
      rw [List.length_map, lockD_len, ht]
      exact decide_eq_true rfl
end
/-! ### a book of binding, read -/
def Run (R : List Nat) (ts : List Tr) : List D → (List Int × Int) → (List Int × Int) → Prop
  | [], a, b => a = b
  | e :: es, a, b => ∃ c, a.1.length ≤ 100 ∧ c.1.length ≤ 100 ∧ EntOk R ts a.1 e c.1 (c.2 - a.2) ∧ Run R ts es c b
theorem Run.app {R : List Nat} {ts : List Tr} {fs : List D} {b c : List Int × Int} (h2 : Run R ts fs b c) : ∀ {es : List D} {a : List Int × Int}, Run R ts es a b → Run R ts (es ++ fs) a c
  | [], a, h => by rw [show a = b from h]; exact h2
  | e :: es, a, ⟨d, h1, h3, h4, h5⟩ => ⟨d, h1, h3, h4, Run.app h2 h5⟩
theorem Run.st {R : List Nat} {ts : List Tr} : ∀ {es : List D} {a b : List Int × Int}, Run R ts es a b → ∃ st : Nat → List Int × Int, st 0 = a ∧ st es.length = b ∧ ∀ i e, es[i]? = some e → (st i).1.length ≤ 100 ∧ (st (i + 1)).1.length ≤ 100 ∧ EntOk R ts (st i).1 e (st (i + 1)).1 ((st (i + 1)).2 - (st i).2)
  | [], a, b, h => ⟨fun _ => a, rfl, h, fun i e q => by simp at q⟩
  | e :: es, a, b, ⟨c, h1, h3, h4, h5⟩ => by
    obtain ⟨st, s0, s1, s2⟩ := Run.st h5
    refine ⟨fun i => match i with | 0 => a | i + 1 => st i, rfl, s1, fun i f q => ?_⟩
    cases i with
    | zero =>
      have ef : e = f := Option.some.inj q
      subst ef
      show a.1.length ≤ 100 ∧ (st 0).1.length ≤ 100 ∧ EntOk R ts a.1 e (st 0).1 ((st 0).2 - a.2)
      rw [s0]
      exact ⟨h1, h3, h4⟩
    | succ i => exact s2 i f q
def trP (R : List Nat) (g : Pg) : Tr := (g.x, g.y, exV (low R g.x.length) g.x g.y)
theorem run_used {R : List Nat} {n : Nat} {prev : List Pg} {x y : List Int} {o : Option Nat} (h : NumOk R n prev x y o) (d : List Int) (a : Int) (hx : x.length + d.length ≤ 100) (hy : y.length + d.length ≤ 100) : Run R (prev.map (trP R)) (usedD o) (x ++ d, a) (y ++ d, a + exV (low R n) x y) := by
  cases o with
  | none =>
    have e : x = y := h
    subst e
    show (x ++ d, a) = (x ++ d, a + exV (low R n) x x)
    rw [show exV (low R n) x x = 0 from dst_self _, Int.add_zero]
  | some i =>
    obtain ⟨g, c, h1, h2, h3, h4⟩ := h
    refine ⟨(y ++ d, a + exV (low R n) x y), by rw [List.length_append]; exact hx, by show (y ++ d).length ≤ 100; rw [List.length_append]; exact hy, .inl ⟨i, trP R g, c ++ d, by rw [List.getElem?_map, h1]; rfl, rfl, ?_, ?_, ?_⟩, rfl⟩
    · show x ++ d = g.x ++ (c ++ d)
      rw [h2, List.append_assoc]
    · show y ++ d = g.y ++ (c ++ d)
      rw [h3, List.append_assoc]
    · show a + exV (low R n) x y - a = exV (low R g.x.length) g.x g.y
      rw [h4]; omega
def entsP (g : Pg) : List D := usedD g.o1 ++ [stepD g.k g.t] ++ usedD g.o2
theorem used_len (o : Option Nat) : (usedD o).length ≤ 1 := by cases o <;> exact Nat.le_of_ble_eq_true rfl
theorem page_ok {R : List Nat} (ok : Ok24 R) (hR : R.length ≤ 60) {prev : List Pg} {g : Pg} (h : Pg1 R prev g) : PartOk R (prev.map (trP R)) (entsP g) (trP R g) := by
  obtain ⟨n, m, u, v, p, q, hn, hw, hgx, hgy, hpq, hx, hy, hk, ht, h1, h2⟩ := h.ex
  have okm : Ok24 (m :: low R n) := hw ▸ ok.low (n + 1)
  have wx : Wd (m :: low R n) g.x := hx.wd okm
  have wy : Wd (m :: low R n) g.y := (hy.nd okm).wd okm
  have hxl : g.x.length = n + 1 := by rw [wx.len, List.length_cons, low_len (by omega)]
  have hyl : g.y.length = n + 1 := by rw [wy.len, List.length_cons, low_len (by omega)]
  have eL : low R g.x.length = m :: low R n := by rw [hxl, hw]
  have hm := okm.hd
  obtain ⟨u', p', eu, wu, p0, p1⟩ := (hgx ▸ wx : Wd (m :: low R n) (u ++ [p]))
  obtain ⟨rfl, ep⟩ := List.append_inj' eu rfl
  have ep : p = p' := by injection ep
  subst ep
  obtain ⟨v', q', ev, wv, q0, q1⟩ := (hgy ▸ wy : Wd (m :: low R n) (v ++ [q]))
  obtain ⟨rfl, eq⟩ := List.append_inj' ev rfl
  have eq : q = q' := by injection eq
  subst eq
  obtain ⟨ht1, ht2, ht3⟩ := step_ok p0 p1 q0 q1 (fun z => hpq z.symm)
  have hul : u.length = n := by rw [wu.len, low_len (by omega)]
  have hvl : v.length = n := by rw [wv.len, low_len (by omega)]
  have hwl : (Wy (low R n) (min p (stepT p q)).toNat).length = n := by rw [(wd_Wy okm.tl _).len, low_len (by omega)]
  have hval := (gap_val okm (hgx ▸ wx) (hgy ▸ wy) (fun z => hpq z.symm) ht1 ht2).1 rfl
  have eT : trP R g = (u ++ [p], v ++ [q], exV (m :: low R n) (u ++ [p]) (v ++ [q])) := by
    unfold trP
    rw [eL, hgx, hgy]
  rw [eT]
  refine ⟨by show 1 ≤ (u ++ [p]).length; rw [← hgx]; omega, by show (u ++ [p]).length ≤ _; rw [← hgx]; omega, ?_, ?_, ?_, ?_, ?_⟩
  · show Wd (low R (u ++ [p]).length) (u ++ [p])
    rw [← hgx, eL]; exact wx
  · show Wd (low R (u ++ [p]).length) (v ++ [q])
    rw [← hgx, eL, ← hgy]; exact wy
  · unfold entsP
    rw [List.length_append, List.length_append, List.length_singleton]
    have := used_len g.o1
    have := used_len g.o2
    omega
  · refine exV_small okm ?_ (hgx ▸ wx) (hgy ▸ wy)
    rw [List.length_cons, low_len (by omega)]; omega
  · refine Run.st ?_
    unfold entsP
    rw [hk, ht]
    have r1 := run_used h1 [p] 0 (by rw [hul, List.length_singleton]; omega) (by rw [hwl, List.length_singleton]; omega)
    have hfl : (fwdW (low R n) p q).length = n + 1 := by
      show (Wy (low R n) (min p (stepT p q)).toNat ++ [stepT p q]).length = _
      rw [List.length_append, hwl]; rfl
    have r2 := run_used h2 [] (0 + exV (low R n) u (Wy (low R n) (min p (stepT p q)).toNat) + 1) (by rw [hfl, List.length_nil]; omega) (by rw [hyl, List.length_nil]; omega)
    rw [List.append_nil, List.append_nil] at r2
    have e2 : 0 + exV (low R n) u (Wy (low R n) (min p (stepT p q)).toNat) + 1 + exV (low R (n + 1)) (fwdW (low R n) p q) g.y = exV (m :: low R n) (u ++ [p]) (v ++ [q]) := by
      rw [hw, hgy, ← hval, Int.zero_add]; rfl
    rw [e2, hgy] at r2
    refine Run.app r2 (Run.app ?_ r1)
    refine ⟨_, ?_, ?_, .inr ⟨n, m, p, stepT p q, Wy (low R n) (min p (stepT p q)).toNat, rfl, hn, hw, rfl, hwl, rfl, ht1, p0, p1, ht2, ht3, rfl, ?_⟩, rfl⟩
    · show (Wy (low R n) (min p (stepT p q)).toNat ++ [p]).length ≤ 100
      rw [List.length_append, hwl, List.length_singleton]; omega
    · show (fwdW (low R n) p q).length ≤ 100
      rw [hfl]; omega
    · show 0 + exV (low R n) u (Wy (low R n) (min p (stepT p q)).toNat) + 1 - (0 + exV (low R n) u (Wy (low R n) (min p (stepT p q)).toNat)) = 1
      omega
end WB
namespace WB
open PySem PySem.Spec PyProof.Rows L2
def psP (R : List Nat) (g : Pg) : List D × Tr := (entsP g, trP R g)
theorem page_psP (R : List Nat) (g : Pg) : pageD (psP R g) = pgD g := rfl
theorem pages_psP (R : List Nat) (pg : List Pg) : (pg.map (psP R)).map pageD = pg.map pgD := by
  rw [List.map_map]; rfl
theorem parts_ok {R : List Nat} (ok : Ok24 R) (hR : R.length ≤ 60) {pg : List Pg} (hp : PgOk R pg) {i : Nat} {es : List D} {t : Tr} (h : (pg.map (psP R))[i]? = some (es, t)) : PartOk R ((pg.take i).map (trP R)) es t := by
  rw [List.getElem?_map] at h
  obtain ⟨g, h1, h2⟩ := Option.map_eq_some_iff.mp h
  have h3 := page_ok ok hR (hp i g h1)
  unfold psP at h2
  injection h2 with e1 e2
  rw [← e1, ← e2]
  exact h3
theorem book_ok {R : List Nat} (ok : Ok24 R) (h1 : 1 ≤ R.length) (hR : R.length ≤ 60) {pg : List Pg} {x y : List Int} {o : Option Nat} (hp : PgOk R pg) (hl : pg.length ≤ 976) (ho : NumOk R R.length pg x y o) (hx : Nd R x) (hy : Ends2 R y) :
    ∃ (ps : List (List D × Tr)) (es : List D), wholeD pg x y o = (ps ++ [(es, (x, y, exV R x y))]).map pageD ∧ ps.length ≤ 1000 ∧ (∀ i es' t', (ps ++ [(es, (x, y, exV R x y))])[i]? = some (es', t') → PartOk R (((ps ++ [(es, (x, y, exV R x y))]).take i).map (·.2)) es' t') ∧ x.length = R.length := by
  have wx := hx.wd ok
  have wy := (hy.nd ok).wd ok
  have hxl : x.length = R.length := wx.len
  have hyl : y.length = R.length := wy.len
  have tk : ∀ (l : List Pg) (i : Nat), ((l.map (psP R)).take i).map (·.2) = (l.take i).map (trP R) := fun l i => by
    rw [← List.map_take, List.map_map]; rfl
  cases hX : wholeX pg x o with
  | true =>
    refine ⟨pg.map (psP R), usedD o, ?_, by rw [List.length_map]; omega, fun i es' t' hi => ?_, hxl⟩
    · unfold wholeD
      rw [hX, if_pos rfl, List.map_append, pages_psP]; rfl
    · by_cases hlt : i < pg.length
      · rw [List.getElem?_append_left (by rw [List.length_map]; exact hlt)] at hi
        rw [List.take_append_of_le_length (by rw [List.length_map]; omega), tk]
        exact parts_ok ok hR hp hi
      · have hlen := (List.getElem?_eq_some_iff.mp hi).1
        rw [List.length_append, List.length_map, List.length_singleton] at hlen
        have ei : i = (pg.map (psP R)).length := by rw [List.length_map]; omega
        rw [ei, List.getElem?_concat_length] at hi
        have e0 := Option.some.inj hi
        injection e0 with e1 e2
        subst e1; subst e2
        rw [ei, List.take_left' rfl, List.map_map]
        refine ⟨by show 1 ≤ x.length; omega, by show x.length ≤ _; omega, ?_, ?_, Nat.le_trans (used_len o) (by decide), exV_small ok hR wx wy, Run.st ?_⟩
        · show Wd (low R x.length) x
          rw [hxl, low_all]; exact wx
        · show Wd (low R x.length) y
          rw [hxl, low_all]; exact wy
        · have r := run_used ho [] 0 (by rw [hxl, List.length_nil]; omega) (by rw [hyl, List.length_nil]; omega)
          rw [List.append_nil, List.append_nil, low_all, Int.zero_add] at r
          exact r
  | false =>
    cases o with
    | none => cases hX
    | some i =>
      obtain ⟨g, c, hg, e1, e2, e3⟩ := ho
      have hgi := (List.getElem?_eq_some_iff.mp hg).1
      have hX' : (decide ((i : Int) + 1 < (pg.length : Nat)) || decide (((g.x.length : Nat) : Int) < (x.length : Nat))) = false := by
        rw [← hX]
        show _ = (decide ((i : Int) + 1 < (pg.length : Nat)) || (match pg[i]? with
          | some g => decide (((g.x.length : Nat) : Int) < (x.length : Nat))
          | none => false))
        rw [hg]
      rw [Bool.or_eq_false_iff] at hX'
      have a1 := of_decide_eq_false hX'.1
      have a2 := of_decide_eq_false hX'.2
      have ec : c = [] := by
        have hcl := congrArg List.length e1
        rw [List.length_append] at hcl
        exact List.eq_nil_of_length_eq_zero (by omega)
      subst ec
      rw [List.append_nil] at e1 e2
      have eg : trP R g = (x, y, exV R x y) := by
        unfold trP
        rw [e3, low_all, e1, e2]
      have epg : pg = pg.take i ++ [g] := by
        have h := (List.getElem?_eq_some_iff.mp hg).2
        have : pg.take (i + 1) = pg := List.take_of_length_le (by omega)
        exact this.symm.trans (by rw [List.take_add_one, hg]; rfl)
      have hwhole : pg.map (psP R) = (pg.take i).map (psP R) ++ [(entsP g, (x, y, exV R x y))] := by
        have e := congrArg (List.map (psP R)) epg
        rw [List.map_append] at e
        rw [e, ← eg]; rfl
      refine ⟨(pg.take i).map (psP R), entsP g, ?_, by rw [List.length_map, List.length_take]; omega, fun j es' t' hj => ?_, hxl⟩
      · rw [← hwhole, pages_psP]
        unfold wholeD
        rw [hX, if_neg (by decide), List.append_nil]
      · rw [← hwhole] at hj ⊢
        rw [tk]
        exact parts_ok ok hR hp hj
section
variable {X : Cx} {H0 : Hp} {Γ : List AV} {e1 e2 e3 : Expr} {pos p2 np np2 : Pos} {k : Nat} {R : List Nat} {x y : List Int}
/-- _law_weighed(lock, told_way(lock, row)) -/
theorem ge_weighed (T : Tx X.K X.mg) (hr : Room 310 X.A) (h1 : GE X H0 Γ e1 (.tup (lockD R))) (h2 : GE X H0 Γ e2 (.tup (lockD R))) (h3 : GE X H0 Γ e3 (rowD x y)) (l1 : 1 ≤ R.length) (l2 : R.length ≤ 60) (ok : Ok24 R) (hx : Nd R x) (hy : Ends2 R y) (hg : Gl X "_law_weighed" := by rfl) (hg2 : Gl X "told_way" := by rfl)
    (hst3 : starEach [e2, e3] X.env = (false, eval e2 X.env) :: starEach [e3] X.env := by rfl) (hst4 : starEach [e3] X.env = (false, eval e3 X.env) :: starEach [] X.env := by rfl) (hpl2 : (backTo p2 (starEach [e3] X.env)).any (·.1) = false := by rfl)
    (hst1 : starEach [e1, .Call (.Name "told_way" np2) [e2, e3] [] p2] X.env = (false, eval e1 X.env) :: starEach [.Call (.Name "told_way" np2) [e2, e3] [] p2] X.env := by rfl) (hst2 : starEach [.Call (.Name "told_way" np2) [e2, e3] [] p2] X.env = (false, eval (.Call (.Name "told_way" np2) [e2, e3] [] p2) X.env) :: starEach [] X.env := by rfl) (hpl : (backTo pos (starEach [.Call (.Name "told_way" np2) [e2, e3] [] p2] X.env)).any (·.1) = false := by rfl) :
    GE X H0 Γ (.Call (.Name "_law_weighed" np) [e1, .Call (.Name "told_way" np2) [e2, e3] [] p2] [] pos) (tD (x, y, exV R x y)) := by
  refine ge_callE2 (c_law_weighed T) (hr.mono (by decide)) h1 (gex_told (c_told T) hr h2 h3 l1 l2 ok hx hy hg2 hst3 hst4 hpl2) (fun d ⟨pg, o, q1, q2, q3, ed⟩ => ?_) hg (by decide) hst1 hst2 hpl
  subst ed
  obtain ⟨ps, es, b1, b2, b3, b4⟩ := book_ok ok l1 l2 q1 q2 q3 hx hy
  exact ⟨R, ps, es, (x, y, exV R x y), by rw [b1], ok, l2, b2, b3, b4, rfl⟩
end
end WB
namespace WB
open PySem PySem.Spec PyProof.Rows L2
section
variable {X : Cx} {G H0 : Hp} {Γ : List AV} {a b c e i kx vx : Expr} {pos : Pos} {x y z d : D} {ks : List D} {n : Str} {k : Nat} {sts : List Stmt} {E : Ends} {Ψ Φ : V → Hp → Prop}
theorem room_nest0 (C : Cok X k) : (nestedKind X.prog X.w).room X.A := by
  have := C.hu
  show X.A.units + 8 < cLine
  omega
/-- {k: v} -/
theorem gy_d1 (C : Cok X k) (hk : GE X G Γ kx (.tup ks)) (hv : GE X G Γ vx d) (hdep : (D.tup ks).key.depth ≤ 8)
    (hshape : (evalEachOpt [some kx] X.env).zip ((evalEach [vx] X.env).map fun v => do let x ← v; standAt pos; pure x) = ([(eval kx X.env, do let x ← eval vx X.env; standAt pos; pure x)] : List (Sem Value × Sem Value)).map fun p => (some p.1, p.2) := by rfl) :
    GY X G Γ (.Dict [some kx] [vx] pos) (fun r G' => ∃ p, r = .ref p ∧ G p = none ∧ Same G G' ∧ Dic X.prog X.w X.K G' p [(.tup ks, d)]) := fun σ H Q F kq => fun pins s I => by
  rw [arm_eval_Dict, hshape, dictDisplay_pairs _ (by simp) (Nat.le_of_ble_eq_true rfl)]
  refine wpAny_bind (wpAny_standAt (wpAny_bind (wpAny_subDictH (knd := nestedKind X.prog X.w) (Q := fun d' s' => wpAny (model X.prog X.w) X.A (pure (Value.ref d')) (EP X pins σ Q) X.xe s') (room_nest0 C) (Nat.le_of_ble_eq_true rfl) ?_)))
  have hd : (s.heap.objs.size == sysModules) = false := by
    obtain ⟨_, q, _⟩ : ObjOk X.prog X.w H _ _ (.dK []) := dk_empty s.heap I.big
    exact q
  have nk : X.K.lookup s.heap.objs.size = none := by
    cases q : X.K.lookup s.heap.objs.size with
    | none => rfl
    | some ob => exact absurd (Heap.lt_size (I.kIn _ _ q)) (Nat.lt_irrefl _)
  have new : ObjOk X.prog X.w (upd H s.heap.objs.size (DicO X.prog X.w s.heap.objs.size [])) (s.heap.push { cls := .type "dict", data := .dict #[] }) s.heap.objs.size (DicO X.prog X.w s.heap.objs.size []) :=
    dicO_ok (Nat.zero_le _) hd List.Pairwise.nil .nil (Heap.get?_push_size _ rfl) ⟨rfl, rfl, rfl⟩ rfl rfl
  have I1 := I.laid (a := s.heap.objs.size) (t' := s.toks) (fun _ _ q => Heap.get?_push_of_some _ q) (Nat.le_refl _) new
  have hp : H s.heap.objs.size = none := I.hok.fresh (Nat.le_refl _)
  generalize s.heap.objs.size = p at *
  have e1 : Same H (upd H p (DicO X.prog X.w p [])) := fun b o q => by rw [upd_ne (ne_of_none q hp)]; exact q
  have F1 := F.same e1
  refine evalPairs_cons (thn (hk σ _ (fun kv H2 => Same (upd H p (DicO X.prog X.w p [])) H2 ∧ Rp X.K H2 (.tup ks) kv) F1 (fun kv H2 e2 r2 => ⟨e2, r2⟩) pins _ I1) fun ku s2 ⟨kv, H2, I2, rk, e2, r2⟩ => ?_)
  refine wpAny_bind (thn (hv σ H2 (fun vv H3 => Same H2 H3 ∧ Rp X.K H3 d vv) (F1.same e2) (fun vv H3 e3 r3 => ⟨e3, r3⟩) pins _ I2) fun vu s3 ⟨vv, H3, I3, rv, e3, r3⟩ => ?_)
  refine wpAny_bind (wpAny_standAt (wpAny_pure (evalPairs_nil ?_)))
  obtain ⟨b, eb⟩ := rp_ref r2
  subst eb
  obtain rfl : ku = Value.ref b := rk
  have r2' := r2.mono (Same.tup e3)
  have hd3 : H3 p = some (DicO X.prog X.w p []) := e3 _ _ (e2 _ _ upd_same)
  obtain ⟨hs, hz, hn, ys, r, hdic⟩ := dic_at I3 hd3 (fun en he => by cases he)
  cases r
  refine ⟨[((D.tup ks).key, b, vu)], ⟨rfl, rfl, key_is I3 r2' hdep, trivial⟩, hdic, fun h' tk dd' sb => ?_⟩
  have est : storedAllH ([] : List (NestedKey × Addr × Value)) [((D.tup ks).key, b, vu)] = [((D.tup ks).key, b, vu)] := rfl
  rw [est] at dd'
  obtain ⟨o2, es, ep, q1, q2, q3, q4, _, _⟩ := dd'
  have new2 : ObjOk X.prog X.w (upd H3 p (DicO X.prog X.w p [((D.tup ks).key, b, vv)])) h' p (DicO X.prog X.w p [((D.tup ks).key, b, vv)]) :=
    dicO_ok (by simp) hs (List.pairwise_singleton _ _) (.cons ⟨rfl, rfl, rv⟩ .nil) q1 q2 q3 q4
  refine wpAny_pure ⟨.ref p, _, d_write I3 (by rw [hd3]; exact True.intro) sb ⟨o2, q1⟩ new2, rfl, ?_⟩
  have sH : Same H (upd H3 p (DicO X.prog X.w p [((D.tup ks).key, b, vv)])) := fun y o q => by
    rw [upd_ne (ne_of_none q hp)]
    exact e3 _ _ (e2 _ _ (e1 _ _ q))
  have ts3 : Tps X.K H3 (upd H3 p (DicO X.prog X.w p [((D.tup ks).key, b, vv)])) := upd_ts hd3 (fun _ q => by cases q) fun _ _ q => by cases q
  obtain ⟨G', s0, s1, F', hall, ts⟩ := (F.same sH).full
  refine kq _ _ G' ⟨p, rfl, F.ex.free hp, s0, nk, [((D.tup ks).key, b, vv)], hall p _ upd_same (fun ⟨j, zs, h3, h4⟩ => F.own_ne hp j zs h3 h4), ?_⟩ F'
  exact ⟨b, vv, [], rfl, (r2'.mono ts3).mono ts, (r3.mono ts3).mono ts, hdep, rfl⟩
/-- a, b = e, f: e changing things -/
theorem gs_parY (C : Cok X k) (i j : Nat) {n1 n2 : Str} {q1 q2 q3 q4 : Pos} {k1 k2 : Nat} {d2 : D} (ha : GY X G Γ a Ψ) (h : ∀ v G', Ψ v G' → ∃ x, v = x ∧ GE X G' Γ b d2 ∧ ∀ G2, Same G' G2 → GS X G2 ((Γ.set i (.v x)).set j (.d d2)) sts E) (hi : X.N[i]? = some n1 := by rfl) (hj : X.N[j]? = some n2 := by rfl) (hij : i ≠ j := by decide)
    (hx : X.env.scope.names.lookup n1 = some .local := by rfl) (hy : X.env.scope.names.lookup n2 = some .local := by rfl) (hsa : starEach [a, b] X.env = (false, eval a X.env) :: starEach [b] X.env := by rfl) (hsb : starEach [b] X.env = (false, eval b X.env) :: starEach [] X.env := by rfl)
    (hw : swappedStores [.Tuple [.Name n1 q1, .Name n2 q2] k1 q3] (.Tuple [a, b] k2 q4) X.env = pure (some [n1, n2]) := by rfl)
    (hs : swapsWithSole [.Tuple [.Name n1 q1, .Name n2 q2] k1 q3] (.Tuple [a, b] k2 q4) pos.line X.env = pure false := by rfl) :
    GS X G Γ (.Assign [.Tuple [.Name n1 q1, .Name n2 q2] k1 q3] (.Tuple [a, b] k2 q4) pos :: sts) E := fun σ H F => by
  refine sr_cons (s1_of (ps_par C.hc C.nd hi hj hij hx hy (pa_cons pe_self (pa_cons pe_self pa_nil hsb) hsa) hw hs) ?_)
  refine ha σ H _ F fun v H1 G' q F' => ?_
  obtain ⟨x, ex, g2, hg⟩ := h v G' q
  subst ex
  refine g2 σ H1 _ F' fun w H2 e2 r2 => ⟨v, w, rfl, ?_⟩
  exact hg G' (Same.refl G') _ _ (((F'.same e2).set_v).set_d r2)
/-- a, b = e, f: by a tuple (one of the names is held by a cell), e changing things -/
theorem gs_parC (C : Cok X k) (i j : Nat) {n1 n2 : Str} {q1 q2 q3 q4 : Pos} {k1 k2 : Nat} {d2 : D} (ha : GY X G Γ a Ψ) (h : ∀ v G', Ψ v G' → GE X G' Γ b d2 ∧ GS X G' ((Γ.set i (.v v)).set j (.d d2)) sts E) (hi : X.N[i]? = some n1 := by rfl) (hj : X.N[j]? = some n2 := by rfl)
    (hx1 : Loc X.env.scope n1 := by first | exact Or.inl rfl | exact Or.inr rfl) (hx2 : Loc X.env.scope n2 := by first | exact Or.inl rfl | exact Or.inr rfl) (hf1 : X.fn n1 = true ∨ X.env.scope.names.lookup n1 = some .local := by first | exact .inl rfl | exact .inr rfl) (hf2 : X.fn n2 = true ∨ X.env.scope.names.lookup n2 = some .local := by first | exact .inl rfl | exact .inr rfl)
    (hsa : starEach [a, b] X.env = (false, eval a X.env) :: starEach [b] X.env := by rfl) (hsb : starEach [b] X.env = (false, eval b X.env) :: starEach [] X.env := by rfl)
    (hw : swappedStores [.Tuple [.Name n1 q1, .Name n2 q2] k1 q3] (.Tuple [a, b] k2 q4) X.env = pure none := by rfl)
    (hs : swapsWithSole [.Tuple [.Name n1 q1, .Name n2 q2] k1 q3] (.Tuple [a, b] k2 q4) pos.line X.env = pure false := by rfl) :
    GS X G Γ (.Assign [.Tuple [.Name n1 q1, .Name n2 q2] k1 q3] (.Tuple [a, b] k2 q4) pos :: sts) E := fun σ H F => by
  refine sr_cons (s1_of (ps_asg (pe_tup (pa_cons pe_self (pa_cons pe_self pa_nil hsb) hsa)) (pg_tup (n := 2) C.hc (pgs_cons (pg_name C.nd hi hx1 hf1) (pgs_cons (pg_name C.nd hj hx2 hf2) pgs_nil))) hs hw rfl) ?_)
  refine ha σ H _ F fun v H1 G' q F' => ?_
  obtain ⟨g2, hg⟩ := h v G' q
  refine g2 σ H1 _ F' fun w H2 e2 r2 => ?_
  refine ⟨Nat.le_of_lt (small1000 (show [v, w].length ≤ 1000 from Nat.le_of_ble_eq_true rfl)), fun t ht => ?_⟩
  have e3 : Same H2 (upd H2 t (.tup [v, w])) := fun b o q => by rw [upd_ne (ne_of_none q ht)]; exact q
  refine ⟨t, [v, w], rfl, SqT.of upd_same, rfl, v, [w], rfl, w, [], rfl, rfl, ?_⟩
  exact hg _ _ (((F'.same (e2.trans e3)).set_v).set_d (r2.mono (Same.tup e3)))
/-- len of a dict -/
def rLenX (P : Program) (w : World) (K : PySem.W.Frag) : List V → Hp → VK → Prop := fun vs H Q => ∃ (dd : Addr) (xs : List XE), vs = [.ref dd] ∧ H dd = some (DicO P w dd xs) ∧ KAll K H xs ∧ Q (.int ((xs.length : Nat) : Int)) H
theorem cr_lenX : CallR X (.builtin "len") (rLenX X.prog X.w X.K) := by
  intro pins s σ H vs us Q I r h
  obtain ⟨dd, xs, rfl, hd, ka, q⟩ := h
  cases r with
  | cons rv rt =>
    cases rt
    rename_i u
    obtain rfl : u = Value.ref dd := rv
    obtain ⟨hs, hz, hn, ys, rp, hdic⟩ := dic_at I hd ka
    have hl := Paired.length rp
    refine call_len_dictH hs hdic (by omega) ?_
    rw [← hl]
    exact ⟨.int ((xs.length : Nat) : Int), H, I.tok _, ⟨_, rfl⟩, q⟩
theorem ge_lenD {o : Expr} {np : Pos} {dd : Addr} {m : List (D × D)} (ho : GV X G Γ o (.v (.ref dd))) (hm : Dic X.prog X.w X.K G dd m) (hz : X.mg "len" = none) (hg : Gl X "len" := by rfl) (he : starEach [o] X.env = (false, eval o X.env) :: starEach [] X.env := by rfl) (hpl : (backTo pos (starEach [] X.env)).any (·.1) = false := by rfl) : GE X G Γ (.Call (.Name "len" np) [o] [] pos) (.int ((m.length : Nat) : Int)) := fun σ H Q F kq => by
  refine er_of (pe_callB cr_lenX hg hz PySem.boot_len (pa_cons pe_self pa_nil he) (by decide) (by decide) he hpl) ?_
  refine ho σ H _ F fun v H1 e1 r1 => ?_
  have ev : v = .ref dd := r1
  subst ev
  obtain ⟨_, xs, hx, da⟩ := hm
  have F1 := F.same e1
  refine ⟨dd, xs, rfl, F1.ex _ _ hx, (da.mono (Same.tup F1.ex)).kall, ?_⟩
  rw [da.length]
  exact kq _ H1 e1 rfl
end
end WB
namespace WB
open PySem PySem.Spec PyProof.Rows L2
/-! ### the walk from end to end -/
theorem ti_dep8 (x : List Int) : (ti x).key.depth ≤ 8 := by
  rw [ti_key]
  simp [NestedKey.depth, dep_nums]
theorem ti_keyi {x y : List Int} : (ti x).key = (ti y).key ↔ x = y := by
  constructor
  · intro h
    rw [ti_key, ti_key] at h
    injection h with h
    exact map_num_inj h
  · intro h; rw [h]
theorem nodup_one {α : Type} {a : α} : ∀ {l : List α}, l.Nodup → (∀ x ∈ l, x = a) → a ∈ l → l = [a]
  | [], _, _, h => by cases h
  | [x], _, h, _ => by rw [h x List.mem_cons_self]
  | x :: y :: l, hn, h, _ => by
    have e1 := h x List.mem_cons_self
    have e2 := h y (List.mem_cons_of_mem _ List.mem_cons_self)
    exact absurd (e1.trans e2.symm ▸ List.mem_cons_self : x ∈ y :: l) (List.nodup_cons.mp hn).1
theorem nbr_next {R : List Nat} (ok : Ok24 R) {v : List Int} (hv : Wd R v) (hlt : pos R v < Nn R - 1) : ∃ w, Wd R w ∧ pos R w = pos R v + 1 ∧ (nbr R v).filter (fun w => !decide (pos R w ≤ pos R v)) = [w] ∧ v ∈ nbr R w := by
  have hb := pos_bd ok hv
  obtain ⟨w, hw, hpw⟩ := pos_sur ok (pos R v + 1) (by omega) (by omega)
  refine ⟨w, hw, hpw, nodup_one ((nbr_nodup ok hv).filter _) (fun x hx => ?_) ?_, ?_⟩
  · obtain ⟨h1, h2⟩ := List.mem_filter.mp hx
    obtain ⟨h3, h4⟩ := (nbr_mem ok hv).mp h1
    have h5 : ¬ pos R x ≤ pos R v := by
      intro z
      rw [decide_eq_true z] at h2
      cases h2
    refine pos_inj ok h3 hw ?_
    rw [hpw]
    unfold dst at h4
    split at h4 <;> omega
  · refine List.mem_filter.mpr ⟨(nbr_mem ok hv).mpr ⟨hw, ?_⟩, ?_⟩
    · rw [hpw]; unfold dst; split <;> omega
    · rw [hpw, decide_eq_false (by omega)]; rfl
  · refine (nbr_mem ok hw).mpr ⟨hv, ?_⟩
    rw [hpw]; unfold dst; split <;> omega
def mvD (v : List Int) : D → D
  | .tup [.int k, .int t, _] => ti (mvW v (k.toNat, t))
  | d => d
theorem steps_mv (R : List Nat) (v : List Int) : (stepsD R v).map (mvD v) = (nbr R v).map ti := by
  rw [stepsD_st]
  unfold nbr
  rw [List.map_map, List.map_map]
  refine List.map_congr_left fun s _ => ?_
  show ti (mvW v (((s.1 : Nat) : Int).toNat, s.2)) = ti (mvW v s)
  rw [Int.toNat_natCast]
theorem soks_tis : ∀ l : List (List Int), D.soks (l.map ti) = true
  | [] => rfl
  | w :: l => by rw [List.map_cons, D.soks, soks_tis l, ti_sok]; rfl
theorem deps_tis : ∀ l : List (List Int), D.deps (l.map ti) ≤ 1
  | [] => Nat.zero_le _
  | w :: l => by
    rw [List.map_cons, D.deps, ti_dep]
    have := deps_tis l
    omega
theorem sh_tis (l : List (List Int)) : Sh (.tup (l.map ti)) := sh_of (by unfold D.sok; exact soks_tis l) (by unfold D.dep; have := deps_tis l; omega)
theorem any_ti (w : List Int) : ∀ l : List (List Int), ((l.map ti).any fun z => D.eqv z (ti w)) = decide (w ∈ l)
  | [] => rfl
  | x :: l => by
    rw [List.map_cons, List.any_cons, any_ti w l, ti_eqv]
    by_cases h : x = w
    · rw [decide_eq_true h, decide_eq_true (show w ∈ x :: l by rw [h]; exact List.mem_cons_self)]; rfl
    · rw [decide_eq_false h, Bool.false_or]
      by_cases h2 : w ∈ l
      · rw [decide_eq_true h2, decide_eq_true (List.mem_cons_of_mem _ h2)]
      · rw [decide_eq_false h2, decide_eq_false fun z => (List.mem_cons.mp z).elim (fun e => h e.symm) h2]
theorem nbr_len4 {R : List Nat} {v : List Int} (ok : Ok24 R) (hv : Wd R v) : (nbr R v).length ≤ 2 := by
  rw [nbr_len ok hv]
  split <;> split <;> decide
theorem steps_el {R : List Nat} {v : List Int} {d : D} (h : d ∈ stepsD R v) : ∃ (k : Nat) (t : Int), d = ti [(k : Int), t, 1] ∧ k < R.length := by
  rw [stepsD_st] at h
  obtain ⟨s, hs, e⟩ := List.mem_map.mp h
  exact ⟨s.1, s.2, e.symm, stL_lt hs⟩
/-- what is known: the words up to here -/
def KnOk (R : List Nat) (m : List (D × D)) (i : Int) : Prop := (∀ w, Wd R w → (dget m (ti w)).isSome = decide (pos R w ≤ i)) ∧ ((m.length : Nat) : Int) = i + 1
theorem KnOk.put {R : List Nat} (ok : Ok24 R) {m : List (D × D)} {i : Int} {w : List Int} {d : D} (h : KnOk R m i) (hw : Wd R w) (hp : pos R w = i + 1) : KnOk R (dset m (ti w) d) (i + 1) := by
  obtain ⟨h1, h2⟩ := h
  have h0 : dget m (ti w) = none := by
    have := h1 w hw
    rw [hp, decide_eq_false (by omega)] at this
    cases hg : dget m (ti w) with
    | none => rfl
    | some c => rw [hg] at this; cases this
  refine ⟨fun x hx => ?_, ?_⟩
  · rw [dget_dset]
    by_cases e : (ti w).key = (ti x).key
    · have ew := ti_keyi.mp e
      subst ew
      rw [if_pos rfl, hp, decide_eq_true (Int.le_refl _)]; rfl
    · rw [if_neg e, h1 x hx]
      have hne : pos R x ≠ i + 1 := fun z => e (by rw [pos_inj ok hw hx (by rw [hp, z])])
      by_cases hle : pos R x ≤ i
      · rw [decide_eq_true hle, decide_eq_true (by omega)]
      · rw [decide_eq_false hle, decide_eq_false (by omega)]
  · have hk := dset_keys m (ti w) d
    rw [h0, if_neg (by simp)] at hk
    have := congrArg List.length hk
    rw [List.length_map, List.length_append, List.length_map, List.length_singleton] at this
    omega
section
variable {P : Program} {w : World} {K : PySem.W.Frag} {mg : Str → Option Value} {base : Heap}
def dIsRow (as : List AV) (q : AV) : Prop := ∃ R : List Nat, as = [.d (.tup (lockD R)), .d (ti (E0 R)), .d (ti (E1 R))] ∧ 1 ≤ R.length ∧ R.length ≤ 60 ∧ Ok24 R ∧ Nn R ≤ 256 ∧ q = .d (.bl true)
theorem sc_law_is_row : FnScope ["_law_lock", "_law_one", "_law_other", "_law_known", "_law_here", "_law_ahead", "_law_fresh", "_law_k", "_law_there", "_law_price", "_law_stand_on"] ["_law_lock", "_law_one", "_law_other"] (defScope s_law_is_row) := ⟨rfl, rfl, rfl, by decide +kernel, rfl, by decide +kernel, by decide +kernel⟩
theorem c_law_is_row (T : Tx K mg) : Cal P w K mg base "_law_is_row" ["_law_lock", "_law_one", "_law_other"] 2 (spP K dIsRow) := by
  refine cal_pure (N := ["_law_lock", "_law_one", "_law_other", "_law_known", "_law_here", "_law_ahead", "_law_fresh", "_law_k", "_law_there", "_law_price", "_law_stand_on"]) (st := s_law_is_row) (k := 1) T.g_law_is_row T.f_law_is_row sc_law_is_row (fun _ _ _ _ _ _ us hl => match us, hl with | [_, _, _], _ => rfl) ?_ ?_
  · rintro as r ⟨R, rfl, _⟩; rfl
  · rintro cdv A outer s H E C as r Q ⟨R, rfl, l1, hR, ok, hN, rfl⟩ hq
    have w0 := wd_E0 ok
    have w1 := wd_E1 ok
    have hne := ends_ne ok l1
    have h2N := Nn_two ok l1
    refine gs_parC C 3 4 (gy_d1 C (ge_var (x := ti (E0 R)) 1) ge_bl (ti_dep8 _)) fun v G1 ⟨dd, ev, hdd, s02, hdic⟩ => ⟨ge_var (x := ti (E0 R)) 1, ?_⟩
    subst ev
    refine gs_whileX C (fun M G Γ' => ∃ (m : List (D × D)) (v : List Int), M = (Nn R - pos R v).toNat ∧ Wd R v ∧ Dic P w K G dd m ∧ KnOk R m (pos R v) ∧ Same H G ∧ Γ' = [.d (.tup (lockD R)), .d (ti (E0 R)), .d (ti (E1 R)), .v (.ref dd), .d (ti v), .no, .no, .no, .no, .no, .no]) _ ⟨_, E0 R, rfl, w0, hdic, ⟨fun x hx => ?_, ?_⟩, s02, rfl⟩ ?_
    · rw [pos_E0]
      have hb := pos_bd ok hx
      by_cases e : x = E0 R
      · subst e
        rw [pos_E0, decide_eq_true (Int.le_refl _)]
        show (if (ti (E0 R)).key = (ti (E0 R)).key then some (D.bl true) else dget [] (ti (E0 R))).isSome = true
        rw [if_pos rfl]; rfl
      · have e2 : pos R x ≠ 0 := fun z => e ((pos_zero ok hx).mp z)
        rw [decide_eq_false (by omega)]
        show (if (ti (E0 R)).key = (ti x).key then some (D.bl true) else dget [] (ti x)).isSome = false
        rw [if_neg fun z => e (ti_keyi.mp z).symm]; rfl
    · rw [pos_E0]; rfl
    rintro M G Γ' ⟨m, v, rfl, hv, hm, hk, sG, eΓ⟩
    subst eΓ
    have hb := pos_bd ok hv
    refine ⟨!decide (v = E1 R), gt_of (gt_ne' (x := ti v) (y := ti (E1 R)) C (ge_var 4) (ge_var 2) (ti_sh _) (ti_sh _)) (by rw [ti_eqv]), fun eb => ?_, fun eb => ?_⟩
    · have hvE : v ≠ E1 R := fun z => by rw [decide_eq_true z] at eb; cases eb
      have hlt : pos R v < Nn R - 1 := by
        have : pos R v ≠ Nn R - 1 := fun z => hvE ((pos_last ok hv).mp z)
        omega
      obtain ⟨nx, hnx, hpx, hfil, hback⟩ := nbr_next ok hv hlt
      have hvl := hv.len
      have hnl := hnx.len
      have hsl : (stepsD R v).length ≤ 2 := by
        have := nbr_len4 ok hv
        unfold nbr at this
        rw [stepsD_st, List.length_map]
        rwa [List.length_map] at this
      have hsl2 : (stepsD R nx).length ≤ 2 := by
        have := nbr_len4 ok hnx
        unfold nbr at this
        rw [stepsD_st, List.length_map]
        rwa [List.length_map] at this
      refine gs_setLc0 C 5 [("_law_k", 7), ("_law_there", 8), ("_law_price", 9)] (js := [7, 8, 9]) (fun d Γ => match d with | .tup [a, b, c] => ((Γ.set 7 (.d a)).set 8 (.d b)).set 9 (.d c) | _ => Γ) (mvD v) (gi_new (gl_call (c_law_steps T) C.hr (gac (ge_var (x := .tup (lockD R)) 0) (gac1 (ge_var (x := ti v) 4))) ⟨R, v, rfl, hR, ok, hv, rfl⟩)) ?_ ?_ (by omega) ?_
      · intro d hd s H C' cl fp
        obtain ⟨k, t, rfl, _⟩ := steps_el hd
        exact tg_tup C.blk (tgs_cons (tg_name C.blk 7) (tgs_cons (tg_name C.blk 8) (tgs_cons (tg_name C.blk 9) tgs_nil)))
      · intro Hb s0 d hd s H C' cl fp
        obtain ⟨k, t, rfl, _⟩ := steps_el hd
        refine ge_call (c_law_moved T) C.hr (gac (ge_var (x := ti v) 4) (gac (ge_var (x := .int (k : Nat)) 7) (gac1 (ge_var (x := .int t) 8)))) ⟨v, k, t, rfl, by omega, ?_⟩
        show AV.d (ti (mvW v (((k : Nat) : Int).toNat, t))) = _
        rw [Int.toNat_natCast]
      rw [steps_mv]
      refine gs_freeze 5 (xs := (nbr R v).map ti) fun G1 sG1 => ?_
      have hm1 := hm.mono sG1
      refine gs_setL C 6 (gl_lc1 C [("_law_stand_on", 10)] (js := [10]) (fun d Γ => Γ.set 10 (.d d)) (fun d => d) (fun d => !(dget m d).isSome) (gi_var 5 (xs := (nbr R v).map ti)) ?_ ?_ ?_ (by rw [List.length_map]; have := nbr_len4 ok hv; omega)) ?_
      · intro d hd s H C' cl fp
        exact tg_name C.blk 10
      · intro Hb s0 d hd s H C' cl fp
        obtain ⟨z, hz, rfl⟩ := List.mem_map.mp hd
        exact gt_dnin C.blk (ge_var (x := ti z) 10) (gv_var (p := .v (.ref dd)) 3 rfl (fun q => by cases q)) (hm1.mono s0) (ti_dep8 _)
      · intro Hb s0 d hd _ s H C' cl fp
        exact ge_var 10
      have efr : (((nbr R v).map ti).filter fun d => !(dget m d).isSome).map (fun d => d) = [ti nx] := by
        rw [List.map_id', List.filter_map]
        have e : (nbr R v).filter ((fun d => !(dget m d).isSome) ∘ ti) = [nx] := by
          rw [← hfil]
          refine List.filter_congr fun x hx => ?_
          show (!(dget m (ti x)).isSome) = _
          rw [hk.1 x ((nbr_mem ok hv).mp hx).1]
        rw [e]; rfl
      rw [efr]
      have hnl2 : (nbr R v).length = 1 + (if v = E0 R then 0 else 1) := by
        rw [nbr_len ok hv, if_neg (show ¬ pos R v = Nn R - 1 by omega)]
        by_cases h0 : v = E0 R
        · rw [if_pos h0, if_pos ((pos_zero ok hv).mpr h0)]
        · rw [if_neg h0, if_neg fun z => h0 ((pos_zero ok hv).mp z)]
      refine gs_unless (GW.t (k0 := false || false) (gw_or (gt_of (gt_nei C (ge_lenL (ds := [ti nx]) (go_var 6) T.z_len) ge_int) rfl) fun _ => gw_or1 (gt_of (gt_nei C (ge_lenL (gb_var 5 (xs := (nbr R v).map ti)) T.z_len) (ge_add ge_int (ge_intb (k0 := !decide (v = E0 R)) (ge_of (ge_ne' (x := ti v) (y := ti (E0 R)) C (ge_var 4) (ge_var 1) (ti_sh _) (ti_sh _)) (by rw [ti_eqv])) T.z_int))) ?_))) ?_
      · rw [List.length_map, hnl2]
        by_cases h0 : v = E0 R
        · rw [if_pos h0, decide_eq_true h0]; rfl
        · rw [if_neg h0, decide_eq_false h0]; rfl
      refine gs_unless (gt_of (gt_cmp (op_notInD C.hu) (d_ninL (x := ti v) (ys := (nbr R nx).map ti) (ti_sh v) (sh_tis _)) (gd_var (x := ti v) 4) (GL.rd ?_)) (by rw [any_ti, decide_eq_true hback]; rfl)) ?_
      · rw [← steps_mv R nx]
        refine gl_lc0 C [("_law_k", 7), ("_law_there", 8), ("_law_price", 9)] (js := [7, 8, 9]) (fun d Γ => match d with | .tup [a, b, c] => ((Γ.set 7 (.d a)).set 8 (.d b)).set 9 (.d c) | _ => Γ) (mvD nx) (gi_new (gl_call (c_law_steps T) C.hr (gac (ge_var (x := .tup (lockD R)) 0) (gac1 (ge_ixL (ds := [ti nx]) (d := ti nx) (go_var 6) ge_int))) ⟨R, nx, rfl, hR, ok, hnx, rfl⟩)) ?_ ?_ (by omega)
        · intro d hd s H C' cl fp
          obtain ⟨k, t, rfl, _⟩ := steps_el hd
          exact tg_tup C.blk (tgs_cons (tg_name C.blk 7) (tgs_cons (tg_name C.blk 8) (tgs_cons (tg_name C.blk 9) tgs_nil)))
        · intro Hb s0 d hd s H C' cl fp
          obtain ⟨k, t, rfl, _⟩ := steps_el hd
          refine ge_call (c_law_moved T) C.hr (gac (ge_ixL (ds := [ti nx]) (d := ti nx) (go_var 6) ge_int) (gac (ge_var (x := .int (k : Nat)) 7) (gac1 (ge_var (x := .int t) 8)))) ⟨nx, k, t, rfl, by omega, ?_⟩
          show AV.d (ti (mvW nx (((k : Nat) : Int).toNat, t))) = _
          rw [Int.toNat_natCast]
      refine gs_set C 4 (ge_ixL (ds := [ti nx]) (d := ti nx) (go_var 6) ge_int) ?_
      have hml := hk.2
      refine gs_dset C (gy_of (ge_bl (i := true))) fun vv G3 ⟨s3, r3⟩ => ⟨dd, m, nx.map D.int, .bl true, hm1.mono s3, r3, gv_var 3 rfl (fun q => by cases q), ge_var (x := ti nx) 4, by omega, ti_dep8 _, fun G4 c4 hd4 => ?_⟩
      have hddH : H dd = none := hdd
      have sG4 : Same H G4 := fun y o e => c4 y o (s3 _ _ (sG1 _ _ (sG _ _ e))) fun z => by
        subst z
        rw [hddH] at e; cases e
      refine gs_nil fun σ H2 F => ⟨(Nn R - pos R nx).toNat, G4, _, by omega, ⟨_, nx, rfl, hnx, hd4, ?_, sG4, rfl⟩, F.weak ⟨.inr rfl, .inr rfl, .inr rfl, .inr rfl, .inr rfl, .inl rfl, .inl rfl, .inr rfl, .inr rfl, .inr rfl, .inr rfl, trivial⟩⟩
      have := KnOk.put (d := .bl true) ok hk hnx hpx
      rw [hpx]
      exact this
    · have hvE : v = E1 R := by
        cases hd : decide (v = E1 R) with
        | true => exact of_decide_eq_true hd
        | false => rw [hd] at eb; cases eb
      subst hvE
      have hkl := hk.2
      rw [pos_E1 ok] at hkl
      refine gs_ret (d := .bl (true && true)) (ge_and (k1 := true) (ge_of (ge_eqi C (ge_lenD (gv_var 3 rfl (fun q => by cases q)) hm T.z_len) (ge_call (c_law_all T) C.hr (gac1 (ge_var (x := .tup (lockD R)) 0)) ⟨R, rfl, ok, rfl⟩)) ?_) fun _ => ge_one (ge_of (ge_eqi C (ge_lenL (ds := stepsD R (E1 R)) (GL.rd (gl_call (c_law_steps T) C.hr (gac (ge_var (x := .tup (lockD R)) 0) (gac1 (ge_var (x := ti (E1 R)) 2))) ⟨R, E1 R, rfl, hR, ok, w1, rfl⟩)) T.z_len) (ge_intb (k0 := !decide (E0 R = E1 R)) (ge_of (ge_ne' (x := ti (E0 R)) (y := ti (E1 R)) C (ge_var 1) (ge_var 2) (ti_sh _) (ti_sh _)) (by rw [ti_eqv])) T.z_int)) ?_)) (hq.up sG)
      · rw [decide_eq_true (by omega)]
      · rw [stepsD_count ok w1, if_pos rfl, if_neg (fun z => hne z.symm), decide_eq_false hne]; rfl
end
end WB
namespace WB
open PySem PySem.Spec PyProof.Rows L2
/-! ### lists as they are -/
section
variable {X : Cx} {G : Hp} {Γ : List AV} {a b c e o : Expr} {es : List Expr} {pos p1 apos np : Pos} {i j : Int} {d : D} {n : Str} {k : Nat} {sts : List Stmt} {E : Ends} {Ψ Φ : V → Hp → Prop} {x : V}
theorem gv_ixR {p : Addr} {vs : List V} {v : V} (ho : GV X G Γ a (.v (.ref p))) (hG : G p = some (.lst vs)) (hb : GE X G Γ b (.int i)) (h : atI vs i = some v := by rfl) (hs : PlainIx b := by exact fun _ _ => rfl) : GV X G Γ (.Subscript a b pos) (.v v) := fun σ H Q F kq => by
  refine er_of (pe_ix ix_list pe_self pe_self hs) ?_
  refine ho σ H _ F fun w H1 e1 r1 => ?_
  have ew : w = .ref p := r1
  subst ew
  refine hb σ H1 _ (F.same e1) fun u H2 e2 r2 => ?_
  have F2 := F.same (e1.trans e2)
  exact ⟨p, vs, i, v, rfl, r2, SqL.of (F2.ex _ _ hG), h, kq v H2 (e1.trans e2) rfl⟩
theorem ge_ofV (h : GV X G Γ e (.v (.int i))) : GE X G Γ e (.int i) := fun σ H Q F kq => h σ H Q F fun v H1 e1 r1 => kq v H1 e1 r1
/-- o[i] = e, o a list that stands -/
theorem gs_lset {p : Addr} {vs : List V} {jn : Nat} {ii : Expr} (he : GE X G Γ e (.int j)) (ho : GV X G Γ o (.v (.ref p))) (hG : G p = some (.lst vs)) (hi : GE X G Γ ii (.int i)) (hj : ixN vs.length i = some jn) (nb : noBw Γ = true) (h : ∀ G2, Core (fun x => x = p) G G2 → G2 p = some (.lst (vs.set jn (.int j))) → GS X G2 Γ sts E)
    (hs : swapsWithSole [.Subscript o ii p1] e pos.line X.env = pure false := by rfl) (hw : swappedStores [.Subscript o ii p1] e X.env = pure none := by rfl) (h1 : (assignEach [.Subscript o ii p1] X.env).map (·.2) = [assign (.Subscript o ii p1) X.env] := by rfl)
    (ha : ∀ v, assign (.Subscript o ii p1) X.env v = (do let ov ← holding [v] (eval o X.env); let iv ← holding [v, ov] (eval ii X.env); standAt p1; holding [v, ov, iv] (setItem ov iv v); release [v, ov, iv] []) := by intro _; rfl) : GS X G Γ (.Assign [.Subscript o ii p1] e pos :: sts) E := fun σ H F => by
  refine sr_cons (s1_of (ps_asg pe_self (pg_sub pe_self pe_self set_list ha) hs hw h1) ?_)
  refine he σ H _ F fun v H1 e1 r1 => ?_
  have ev : v = .int j := r1
  subst ev
  refine ho σ H1 _ (F.same e1) fun w H2 e2 r2 => ?_
  have ew : w = .ref p := r2
  subst ew
  refine hi σ H2 _ (F.same (e1.trans e2)) fun u H3 e3 r3 => ?_
  have F3 := F.same (e1.trans (e2.trans e3))
  have hp3 := F3.ex _ _ hG
  refine ⟨p, vs, i, jn, rfl, r3, hp3, hj, ?_⟩
  have hz : ZNb G (fun x => x = p) := fun x hx => by subst hx; exact ⟨_, hG, fun _ q => (by cases q), fun _ _ q => (by cases q)⟩
  have hc : Core (fun x => x = p) H3 (upd H3 p (.lst (vs.set jn (.int j)))) := fun x o q hn => by rw [upd_ne hn]; exact q
  obtain ⟨G2, c1, s1, F4, tr⟩ := F3.region (hz.ok nb F3) hc
  have tr1 := tr _ hc (Same.refl _)
  exact h G2 c1 (tr1 p _ upd_same (.inr (.inl rfl))) σ _ F4
theorem ge_mulc (hc : CMul i j) (ha : GE X G Γ a (.int i)) (hb : GE X G Γ b (.int j)) : GE X G Γ (.BinOp a .Mult b pos) (.int (i * j)) := ge_op op_mul (d_int (z := .int (i * j)) hc fun _ => rfl) ha hb
theorem ge_fdivp (hj : 0 < j) (hj2 : j < 1073741824) (ha : GE X G Γ a (.int i)) (hb : GE X G Γ b (.int j)) : GE X G Γ (.BinOp a .FloorDiv b pos) (.int (i / j)) := ge_op op_fdiv (d_int (z := .int (i / j)) ⟨hj, hj2⟩ fun _ => rfl) ha hb
theorem ge_powc (hc : CPow i j) (ha : GE X G Γ a (.int i)) (hb : GE X G Γ b (.int j)) : GE X G Γ (.BinOp a .Pow b pos) (.int (i ^ j.toNat)) := ge_op op_pow (d_int (z := .int (i ^ j.toNat)) hc fun _ => rfl) ha hb
end
/-! ### a call that changes things, the promise told with the heap before it -/
section
variable {X : Cx} {G : Hp} {Γ : List AV} {e : Expr} {es : List Expr} {pos np : Pos} {n : Str} {ps : List Str} {k : Nat} {sp : Sp} {Z : Addr → Prop} {post : V → Hp → Hp → Prop} {as : List AV}
theorem gy_cal (Cc : Cal X.prog X.w X.K X.mg X.base n ps k sp) (hr : Room k X.A) (ha : GA X G Γ (e :: es) as) (hZ : ZOk X G Γ Z)
    (hsp : ∀ (vs : List V) (H : Hp) (Q : VK), Same G H → ArgsOk X.K H as vs → (∀ v G1 H', Core Z H G1 → Same G1 H' → post v H G1 → Q v H') → sp vs H Q L2.E0) (hst : ∀ v H G1 G2, Tra Z H G1 G2 → post v H G1 → post v H G2)
    (hg : Gl X n := by rfl) (hdb : (n == ("__debug__" : Str)) = false := by decide) (hst1 : starEach (e :: es) X.env = (false, eval e X.env) :: starEach es X.env := by rfl) (hpl : (backTo pos (starEach es X.env)).any (·.1) = false := by rfl) :
    GY X G Γ (.Call (.Name n np) (e :: es) [] pos) (fun v G' => Core Z G G' ∧ ∃ H, Same G H ∧ post v H G') := fun σ H Q F kq => by
  obtain ⟨f, fd, Fn, hm, hk, hb⟩ := Cc.ex
  refine er_of (pe_call Fn hr hg hm hk hb .nil pass0 pa_self hdb hst1 hpl) ?_
  refine ha σ H _ F fun vs H2 e2 r2 => ?_
  have F2 := F.same e2
  show sp (vs ++ []) H2 Q L2.E0
  rw [List.append_nil]
  refine hsp vs H2 Q F2.ex r2 fun v G1 H' c1 s1 hp => ?_
  have cH : Core Z H2 H' := c1.then s1
  obtain ⟨G', d1, d2, F', tr⟩ := F2.region (hZ σ H2 F2) cH
  exact kq v H' G' ⟨d1, H2, F2.ex, hst v H2 G1 G' (tr G1 c1 s1) hp⟩ F'
end
theorem SR.nx {X : Cx} {sts : List Stmt} {D : Ends} {n' : L2.St → Hp → Prop} {σ : L2.St} {H : Hp} (h : SR X sts D σ H) (hn : ∀ σ H, D.nx σ H → n' σ H) : SR X sts { D with nx := n' } σ H := fun pins s I => thn (h pins s I) fun f s' q => by
  cases f with
  | next => obtain ⟨σ', H', i, q⟩ := q; exact ⟨σ', H', i, hn _ _ q⟩
  | brk => exact q
  | cont => exact q
  | ret u => exact q
/-- both ways of an if come together -/
theorem gs_ifJ {X : Cx} {G : Hp} {Γ : List AV} {c : Expr} {sa sb sts : List Stmt} {pos : Pos} {E : Ends} {k0 : Bool} (J : List AV → Prop) (hc : GT X G Γ c k0) (h1 : k0 = true → GS X G Γ sa { E with nx := fun σ H => ∃ Γ', J Γ' ∧ Fm X.K G σ Γ' H }) (h2 : k0 = false → GS X G Γ sb { E with nx := fun σ H => ∃ Γ', J Γ' ∧ Fm X.K G σ Γ' H }) (h : ∀ Γ', J Γ' → GS X G Γ' sts E) : GS X G Γ (.If c sa sb pos :: sts) E :=
  gs_if hc (fun q σ H F => (h1 q σ H F).nx fun σ' H' ⟨Γ', j, F'⟩ => h Γ' j σ' H' F') (fun q σ H F => (h2 q σ H F).nx fun σ' H' ⟨Γ', j, F'⟩ => h Γ' j σ' H' F')
/-! ### the pen -/
def PenN (G : Hp) (p c : Addr) (n : Int) : Prop := ∃ t l : Int, G p = some (.lst [.ref c, .int t, .int l]) ∧ 0 ≤ t ∧ t ≤ n ∧ 0 ≤ l
structure PenAt (G : Hp) (p c : Addr) (cs : List Int) (n : Int) : Prop where
  pn : PenN G p c n
  cl : G c = some (.lst (cs.map V.int))
  ne : c ≠ p
  len : cs.length ≤ 63
theorem PenN.same {G G1 : Hp} {p c : Addr} {n : Int} (h : PenN G p c n) (s : Same G G1) : PenN G1 p c n := by
  obtain ⟨t, l, h1, h2⟩ := h
  exact ⟨t, l, s _ _ h1, h2⟩
theorem PenAt.same {G G1 : Hp} {p c : Addr} {cs : List Int} {n : Int} (h : PenAt G p c cs n) (s : Same G G1) : PenAt G1 p c cs n := ⟨h.pn.same s, s _ _ h.cl, h.ne, h.len⟩
theorem PenAt.more {G : Hp} {p c : Addr} {cs : List Int} {n m : Int} (h : PenAt G p c cs n) (hm : n ≤ m) : PenAt G p c cs m := by
  obtain ⟨t, l, h1, h2, h3, h4⟩ := h.pn
  exact ⟨⟨t, l, h1, h2, by omega, h4⟩, h.cl, h.ne, h.len⟩
theorem PenAt.next {G G1 : Hp} {p c : Addr} {cs : List Int} {n m : Int} (h : PenAt G p c cs n) (core : Core (fun x => x = p) G G1) (hn : PenN G1 p c m) : PenAt G1 p c cs m := ⟨hn, core _ _ h.cl h.ne, h.ne, h.len⟩
theorem PenN.tra {H G1 G2 : Hp} {p c : Addr} {n : Int} {Z : Addr → Prop} (h : PenN G1 p c n) (hz : Z p) (t : Tra Z H G1 G2) : PenN G2 p c n := by
  obtain ⟨a, l, h1, h2⟩ := h
  exact ⟨a, l, t _ _ h1 (.inr (.inl hz)), h2⟩
theorem PenAt.znb {G : Hp} {p c : Addr} {cs : List Int} {n : Int} (h : PenAt G p c cs n) : ZNb G (fun x => x = p) := fun x hx => by
  subst hx
  obtain ⟨t, l, h1, _⟩ := h.pn
  exact ⟨_, h1, fun _ q => (by cases q), fun _ _ q => (by cases q)⟩
theorem mod_in {a m : Int} (hm : 1 ≤ m) : 0 ≤ a % m ∧ a % m < m := ⟨Int.emod_nonneg _ (by omega), Int.emod_lt_of_pos _ (by omega)⟩
section
variable {P : Program} {w : World} {K : PySem.W.Frag} {mg : Str → Option Value} {base : Heap}
def PostD (p c : Addr) (n many : Int) (r : V) (G1 : Hp) : Prop := ∃ i : Int, r = .int i ∧ 0 ≤ i ∧ i < many ∧ PenN G1 p c (n + 1)
def spDraw : Sp := fun vs H Q _ => ∃ (p c : Addr) (cs : List Int) (n many : Int), vs = [.ref p, .int many] ∧ PenAt H p c cs n ∧ n ≤ 1000000 ∧ 1 ≤ many ∧ many ≤ 1000000 ∧
  ∀ r G1 H', Core (fun x => x = p) H G1 → Same G1 H' → PostD p c n many r G1 → Q r H'
theorem sc_law_draw : FnScope ["_law_pen_here", "_law_many", "_law_found", "_law_at", "_law_cell", "_law_number"] ["_law_pen_here", "_law_many"] (defScope s_law_draw) := ⟨rfl, rfl, rfl, by decide +kernel, rfl, by decide +kernel, by decide +kernel⟩
theorem rpAll_ints {H : Hp} (cs : List Int) : RpAll K H (cs.map D.int) (cs.map V.int) := RpAll.of_ints cs
theorem c_law_draw (T : Tx K mg) : Cal P w K mg base "_law_draw" ["_law_pen_here", "_law_many"] 1 spDraw := by
  refine cal_make (N := ["_law_pen_here", "_law_many", "_law_found", "_law_at", "_law_cell", "_law_number"]) (st := s_law_draw) (k := 0) T.g_law_draw T.f_law_draw sc_law_draw (fun _ _ _ _ _ _ us hl => match us, hl with | [_, _], _ => rfl) ?_ ?_
  · rintro vs H Q E ⟨p, c, cs, n, many, rfl, _⟩; rfl
  · rintro cdv A outer s H vs Q E C ⟨p, c, cs, n, many, rfl, hpen, hn, m1, m2, hq⟩
    refine (?_ : GS _ H ([.v (.ref p), .d (.int many)] ++ [.no, .no, .no, .no]) _ _) _ _ (fm_start (as := [.v (.ref p), .d (.int many)]) ⟨_, _, rfl, rfl, _, _, rfl, rfl, rfl⟩ (Nat.le_of_ble_eq_true rfl))
    obtain ⟨⟨t, l, hp, t0, t1, l0⟩, hc, hne, hlen⟩ := hpen
    have pv : ∀ {Y : Cx} {G : Hp} {Γ : List AV} {po : Pos}, True := trivial
    refine gs_if (k0 := decide (0 < l)) (gt_gt' (ge_ofV (gv_ixR (gv_var 0 rfl (fun q => by cases q)) hp ge_int)) ge_int) (fun hl => ?_) (fun hl => ?_)
    · -- of what is left
      have hl' := of_decide_eq_true hl
      refine gs_set C 2 (ge_modp (i := l) (j := many) (by omega) (ge_ofV (gv_ixR (gv_var 0 rfl (fun q => by cases q)) hp ge_int)) (ge_var (x := .int many) 1)) ?_
      refine gs_lset (j := l / many) (jn := 2) (ge_fdivp (by omega) (by omega) (ge_ofV (gv_ixR (gv_var 0 rfl (fun q => by cases q)) hp ge_int)) (ge_var (x := .int many) 1)) (gv_var 0 rfl (fun q => by cases q)) hp ge_int rfl rfl fun G2 c2 hp2 => ?_
      obtain ⟨b0, b1⟩ := mod_in (a := l) m1
      refine gs_ret (ge_var (x := .int (l % many)) 2) fun v H' s1 r1 => ?_
      exact hq v G2 H' c2 s1 ⟨l % many, r1, b0, b1, t, l / many, hp2, t0, by omega, Int.ediv_nonneg l0 (by omega)⟩
    · -- of the cells
      refine gs_end ?_
      refine gs_set C 3 (ge_ofV (i := t) (gv_ixR (gv_var 0 rfl (fun q => by cases q)) hp ge_int)) ?_
      refine gs_lset (j := t + 1) (jn := 1) (ge_add (ge_var (x := .int t) 3) ge_int) (gv_var 0 rfl (fun q => by cases q)) hp ge_int rfl rfl fun G2 c2 hp2 => ?_
      replace hp2 : G2 p = some (.lst [.ref c, .int (t + 1), .int l]) := hp2
      have hc2 := c2 _ _ hc hne
      refine gs_set C 4 ge_int ?_
      have cell : ∀ {Y : Cx} {Γ : List AV} {o b : Expr} {po : Pos} (hs : PlainIx b), GV Y G2 Γ o (.v (.ref p)) → GE Y G2 Γ b (.int 0) → GV Y G2 Γ (.Subscript o b po) (.bw (cs.map D.int)) := fun hs ho hb => gb_fld (gv_ixR (v := .ref c) ho hp2 hb rfl hs) hc2 (RpAll.of_ints cs)
      have hsh : Sh (.tup (cs.map D.int)) := ti_sh cs
      refine gs_ifJ (k0 := !(cs.map D.int).isEmpty) (fun Γ' => ∃ cl : Int, Γ' = [.v (.ref p), .d (.int many), .no, .d (.int t), .d (.int cl), .no]) (gt_neNil C (cell (fun _ _ => rfl) (gv_var 0 rfl (fun q => by cases q)) ge_int) hsh) (fun hne0 => ?_) (fun _ => gs_nil fun σ H F => ⟨_, ⟨11, rfl⟩, F⟩) ?_
      rotate_left
      · rintro Γ' ⟨cl, rfl⟩
        refine gs_if (k0 := decide (t < (cs.length : Nat)) && decide ((10 : Int) ^ (18 : Int).toNat ≤ (if cl < 0 then -cl else cl))) (GW.t (gw_and (gt_of (gt_lt' (ge_var (x := .int t) 3) (ge_lenL (cell (fun _ _ => rfl) (gv_var 0 rfl (fun q => by cases q)) ge_int) T.z_len)) (by rw [List.length_map])) fun _ => gw_and1 (gt_ge' (ge_abs (ge_var (x := .int cl) 4) T.z_abs) (ge_powc ⟨by decide, by decide, by decide⟩ ge_int ge_int)))) (fun hb => ?_) (fun hb => ?_)
        · refine gs_lset (j := (if cl < 0 then -cl else cl) / many) (jn := 2) (ge_fdivp (by omega) (by omega) (ge_abs (ge_var (x := .int cl) 4) T.z_abs) (ge_var (x := .int many) 1)) (gv_var 0 rfl (fun q => by cases q)) hp2 ge_int rfl rfl fun G3 c3 hp3 => ?_
          obtain ⟨b0, b1⟩ := mod_in (a := if cl < 0 then -cl else cl) m1
          refine gs_ret (ge_modp (by omega) (ge_abs (ge_var (x := .int cl) 4) T.z_abs) (ge_var (x := .int many) 1)) fun v H' s1 r1 => ?_
          exact hq v G3 H' (c2.trans c3) s1 ⟨_, r1, b0, b1, t + 1, _, hp3, by omega, by omega, Int.ediv_nonneg (by split <;> omega) (by omega)⟩
        · refine gs_end ?_
          obtain ⟨a0, a1⟩ := mod_in (a := cl) (m := 2147483629) (by decide)
          refine gs_set C 5 (ge_modp (i := (cl % 2147483629 + 13) * (t * t + 7 * t + 5)) (j := 2147483647) (by decide) (ge_mulc (.inl ⟨by omega, by omega⟩) (ge_add (ge_modp (by decide) (ge_var (x := .int cl) 4) ge_int) ge_int) (ge_add (ge_add (ge_mulc (.inl ⟨by omega, by omega⟩) (ge_var (x := .int t) 3) (ge_var (x := .int t) 3)) (ge_mulc (.inl ⟨by decide, by decide⟩) ge_int (ge_var (x := .int t) 3))) ge_int)) ge_int) ?_
          obtain ⟨d0, d1⟩ := mod_in (a := (cl % 2147483629 + 13) * (t * t + 7 * t + 5)) (m := 2147483647) (by decide)
          generalize (cl % 2147483629 + 13) * (t * t + 7 * t + 5) % 2147483647 = n1 at d0 d1
          refine gs_set C 5 (ge_modp (j := 2147483399) (by decide) (ge_mulc (i := (n1 ^ (3 : Int).toNat + 40692 * t) % 2147483587) (.inr ⟨by decide, by decide⟩) (ge_modp (by decide) (ge_add (ge_powc ⟨by decide, by decide, by omega⟩ (ge_var (x := .int n1) 5) ge_int) (ge_mulc (.inl ⟨by decide, by decide⟩) ge_int (ge_var (x := .int t) 3))) ge_int) ge_int) ge_int) ?_
          generalize (n1 ^ (3 : Int).toNat + 40692 * t) % 2147483587 * 69621 % 2147483399 = n2
          obtain ⟨b0, b1⟩ := mod_in (a := n2 / 64) m1
          refine gs_ret (ge_modp (by omega) (ge_fdivp (by decide) (by decide) (ge_var (x := .int n2) 5) ge_int) (ge_var (x := .int many) 1)) fun v H' s1 r1 => ?_
          exact hq v G2 H' c2 s1 ⟨_, r1, b0, b1, t + 1, l, hp2, by omega, by omega, l0⟩
      cases cs with
      | nil => cases hne0
      | cons x0 cs =>
        have hl0 : (0 : Int) < (((x0 :: cs).map D.int).length : Nat) := by rw [List.length_map, List.length_cons]; omega
        have h0 := Int.emod_nonneg t (show ((((x0 :: cs).map D.int).length : Nat) : Int) ≠ 0 by omega)
        have h1 := Int.emod_lt_of_pos t hl0
        obtain ⟨jn, hj⟩ : ∃ jn : Nat, t % (((x0 :: cs).map D.int).length : Nat) = (jn : Int) := ⟨(t % (((x0 :: cs).map D.int).length : Nat)).toNat, by omega⟩
        have hjl : jn < (x0 :: cs).length := by
          rw [hj, List.length_map] at h1
          omega
        refine gs_set C 4 (d := .int ((x0 :: cs)[jn])) (ge_ixL (cell (fun _ _ => rfl) (gv_var 0 rfl (fun q => by cases q)) ge_int) (ge_of (ge_modp hl0 (ge_var (x := .int t) 3) (ge_lenL (cell (fun _ _ => rfl) (gv_var 0 rfl (fun q => by cases q)) ge_int) T.z_len)) (by rw [hj])) (atI_nat ?_)) ?_
        · rw [List.getElem?_map, List.getElem?_eq_getElem hjl]; rfl
        · exact gs_nil fun σ H F => ⟨_, ⟨_, rfl⟩, F⟩
end
end WB
namespace WB
open PySem PySem.Spec PyProof.Rows L2
/-! ### comprehensions whose items change things -/
section
variable {K : PySem.W.Frag} {G H : Hp} {σ : L2.St} {Γ : List AV}
/-- a new list stands in the ground -/
theorem Fm.lay (F : Fm K G σ Γ H) {D : Addr} {o : HO} (hD : H D = none) : Fm K (upd G D o) σ Γ (upd H D o) := by
  have e1 : Same H (upd H D o) := fun b u q => by rw [upd_ne (ne_of_none q hD)]; exact q
  have e2 : Same G (upd G D o) := fun b u q => by rw [upd_ne (ne_of_none q (F.ex.free hD))]; exact q
  have F1 := F.same e1
  refine ⟨fun a u q => ?_, F.len, fun i a hi => ?_, F.dis⟩
  · by_cases ha : a = D
    · subst ha; rw [upd_same] at q ⊢; exact q
    · rw [upd_ne ha] at q ⊢; exact F.ex a u q
  · obtain ⟨ov, h1, h2⟩ := F1.at_ i a hi
    refine ⟨ov, h1, h2.ground e2 fun xs l ea eo => ?_⟩
    subst ea
    obtain ⟨l', vs, g1, g2, g3⟩ := F.own hi
    rw [h1, eo] at g1
    have el : l = l' := by injection (Option.some.inj (Option.some.inj g1))
    subst el
    have ne : l ≠ D := fun z => by rw [z, hD] at g3; cases g3.1
    rw [upd_ne ne]; exact g2
/-- a list of the ground is told anew -/
theorem Fm.relist (F : Fm K G σ Γ H) {D : Addr} {acc acc' : List V} (hD : G D = some (.lst acc)) (nb : noBw Γ = true) : Fm K (upd G D (.lst acc')) σ Γ (upd H D (.lst acc')) := by
  have ts : Tps K H (upd H D (.lst acc')) := lst_ts (F.ex _ _ hD)
  refine ⟨fun a u q => ?_, F.len, fun i a hi => ?_, F.dis⟩
  · by_cases ha : a = D
    · subst ha; rw [upd_same] at q ⊢; exact q
    · rw [upd_ne ha] at q ⊢; exact F.ex a u q
  · obtain ⟨ov, h1, h2⟩ := F.at_ i a hi
    refine ⟨ov, h1, ?_⟩
    cases a with
    | no => trivial
    | d x => obtain ⟨v, r1, r2⟩ := h2; exact ⟨v, r1, r2.mono ts⟩
    | bw xs => exact absurd hi (noBw_get nb)
    | own xs =>
      obtain ⟨l, vs, r1, r2, r3, r4⟩ := h2
      have ne : l ≠ D := fun z => by rw [z, hD] at r2; cases r2
      exact ⟨l, vs, r1, by rw [upd_ne ne]; exact r2, by rw [upd_ne ne]; exact r3, r4.mono ts⟩
    | v x => exact h2
/-- wiped slots are told again -/
theorem Fm.unwipe {vs : List Nat} (F : Fm K G (L2.wipe σ vs) Γ H) (hw : ∀ j ∈ vs, Γ[j]? = some .no) : Fm K G σ Γ H := by
  have hl : σ.length = Γ.length := by rw [← wipe_length σ vs]; exact F.len
  refine ⟨F.ex, hl, fun i a hi => ?_, fun i j xs ys l hij h1 h2 h3 h4 => ?_⟩
  · by_cases hv : i ∈ vs
    · have := hw i hv
      rw [hi] at this
      have ea : a = .no := Option.some.inj this
      subst ea
      have hlt := (List.getElem?_eq_some_iff.mp hi).1
      exact ⟨σ[i]'(by omega), List.getElem?_eq_getElem (by omega), trivial⟩
    · have := F.at_ i a hi
      rw [wipe_get vs σ i hv] at this
      exact this
  · have n1 : i ∉ vs := fun q => by have := hw i q; rw [h1] at this; cases this
    have n2 : j ∉ vs := fun q => by have := hw j q; rw [h2] at this; cases this
    exact F.dis i j xs ys l hij h1 h2 (by rw [wipe_get vs σ i n1]; exact h3) (by rw [wipe_get vs σ j n2]; exact h4)
end
section
variable {X : Cx} {H0 : Hp} {Γ : List AV} {c e elt tg iter : Expr} {pos p1 spos : Pos} {els : List D} {n : Str} {k : Nat} {sts : List Stmt} {E : Ends} {Ψ : V → Hp → Prop}
def LcPost (H0 : Hp) (K : PySem.W.Frag) (Z : Addr → Prop) (J : Hp → Nat → List D → Prop) (m : Nat) (v : V) (G' : Hp) : Prop := ∃ (L : Addr) (ds : List D) (acc : List V), v = .ref L ∧ H0 L = none ∧ Core Z H0 G' ∧ G' L = some (.lst acc) ∧ RpAll K G' ds acc ∧ J G' m ds
theorem lc_state {scope : Scope} {vs : List Nat} {js : List Nat} {u : D → List AV → List AV} (Z : Addr → Prop) (J : Hp → Nat → List D → Prop) (hjs : ∀ j ∈ js, j ∈ vs) (hlen : els.length < 100000) (nb : noBw Γ = true) (hw : ∀ j ∈ vs, Γ[j]? = some .no) (hΓ : ∀ d ∈ els, wipeA (u d Γ) vs = Γ)
    (hZ : ZNb H0 Z) (hJ : ∀ (G G2 : Hp) (i : Nat) (ds : List D) (L : Addr), H0 L = none → (∀ a o, a ≠ L → G a = some o → G2 a = some o) → J G i ds → J G2 i ds)
    (ht : ∀ d ∈ els, InBlk X scope fun Y => TgOk Y tg js d (u d)) (h0 : J H0 0 []) (hZJ : ∀ (G : Hp) (i : Nat) (ds : List D), Core Z H0 G → J G i ds → ZNb G Z)
    (he : ∀ (i : Nat) (d : D), els[i]? = some d → ∀ (G : Hp) (ds : List D), Core Z H0 G → J G i ds → InBlk X scope fun Y => GY Y G (u d Γ) elt (fun v G' => Core Z G G' ∧ ∃ dv, Rp X.K G' dv v ∧ J G' (i + 1) (ds ++ [dv])))
    {σ : L2.St} {H H1 : Hp} (F : Fm X.K H0 σ Γ H) (e1 : Same H H1) {It : It} (hit : ∀ (Ex : Addr → Prop) (Hb : Hp), ExOk H0 H σ Γ Ex → Same Hb H1 → (∀ a o, H1 a = some o → ¬ Ex a → Hb a = some o) → ItOk X.K Hb It els) {Q : VK}
    (kq : ∀ v G' H', LcPost H0 X.K Z J els.length v G' → Fm X.K G' σ Γ H' → Q v H') :
    tLc (fun _ H R => R It H) (tgB X scope tg) tYes (teB X scope elt) vs σ H1 Q := by
  classical
  have F1 := F.same e1
  obtain ⟨Hb, s0, sb, Fb, hall, hown, hnew⟩ := F1.rebase
  let Hc : Hp := fun a => if Z a then none else Hb a
  have cb : Same Hc Hb := fun a o e => by
    have e' : (if Z a then none else Hb a) = some o := e
    split at e'
    · cases e'
    · exact e'
  have xo : ExOk H0 H σ Γ (fun a => ownAt σ Γ a ∨ Z a) := fun a ha => by
    rcases ha with ha | ha
    · exact F.exOwn a ha
    · obtain ⟨o, q1, q2, q3⟩ := hZ a ha
      exact ⟨⟨o, F.ex a o q1, q2, q3⟩, fun i xs g1 g2 => absurd g1 (noBw_get nb)⟩
  have ok := hit _ Hc xo (cb.trans sb) fun a o e n => by
    show (if Z a then none else Hb a) = some o
    rw [if_neg fun q => n (.inr q)]
    exact hall a o e fun q => n (.inl q)
  have hwA : ∀ us : List Nat, (∀ j ∈ us, Γ[j]? = some .no) → wipeA Γ us = Γ := by
    intro us
    induction us with
    | nil => intro _; rfl
    | cons v us ih =>
      intro h
      show (wipeA Γ us).set v .no = Γ
      rw [ih fun j hj => h j (List.mem_cons_of_mem _ hj)]
      have hv := h v List.mem_cons_self
      obtain ⟨hlt, hg⟩ := List.getElem?_eq_some_iff.mp hv
      rw [← hg]
      exact List.set_getElem_self hlt
  intro L hD
  have hD0 : H0 L = none := F1.ex.free hD
  have hcD : Hc L = none := by
    show (if Z L then none else Hb L) = none
    split
    · rfl
    · exact hnew L hD
  have Fw : Fm X.K (upd Hb L (.lst [])) (wipe σ vs) Γ (upd H1 L (.lst [])) := by
    have := (Fb.lay (o := .lst []) hD).wipe vs
    rwa [hwA vs hw] at this
  have core0 : Core Z H0 (upd Hb L (.lst [])) := fun a o q n => by rw [upd_ne (ne_of_none q hD0)]; exact s0 a o q
  have same0 : Same Hc (upd Hb L (.lst [])) := fun a o q => by rw [upd_ne (ne_of_none q hcD)]; exact cb a o q
  refine ⟨fun i m H' => m = els.length - i ∧ i ≤ els.length ∧ ∃ (G : Hp) (ds : List D) (acc : List V), Same Hc G ∧ Core Z H0 G ∧ Fm X.K G (wipe σ vs) Γ H' ∧ G L = some (.lst acc) ∧ RpAll X.K G ds acc ∧ ds.length = i ∧ J G i ds, ⟨els.length, by simp, Nat.zero_le _, _, [], [], same0, core0, Fw, upd_same, rfl, rfl, hJ _ _ _ _ L hD0 (fun a o hne q => by rw [upd_ne hne]; exact s0 a o q) h0⟩, ?_⟩
  rintro i m H' ⟨rfl, hi, G, ds, acc, cg, core, F', hGD, hr, hdl, hj⟩
  by_cases hlt : i < els.length
  · refine .inr ⟨ok.go i H' hlt (cg.trans F'.ex), fun H2 => ∃ (G : Hp) (ds : List D) (acc : List V), Same Hc G ∧ Core Z H0 G ∧ Fm X.K G (wipe σ vs) Γ H2 ∧ G L = some (.lst acc) ∧ RpAll X.K G ds acc ∧ ds.length = i + 1 ∧ J G (i + 1) ds, fun H2 p => ⟨els.length - (i + 1), by omega, rfl, hlt, p⟩, fun x H'' hy => ?_⟩
    obtain ⟨e2, d, hd, hrd⟩ := ok.yld i x H' H'' hlt (cg.trans F'.ex) hy
    have hm : d ∈ els := List.mem_of_getElem? hd
    intro s1 H3 C1 cl1 fp1
    refine ht d hm s1 H3 C1 cl1 fp1 G Γ (wipe σ vs) H'' x _ (F'.same e2) hrd fun σ2 l2 w2 F2 => ⟨?_, ?_⟩
    · rw [w2 vs hjs]
      have ww : ∀ us : List Nat, (∀ j ∈ us, j ∈ vs) → wipe (wipe σ vs) us = wipe σ vs := by
        intro us
        induction us with
        | nil => intro _; rfl
        | cons w us ih =>
          intro hw
          show (wipe (wipe σ vs) us).set w none = wipe σ vs
          rw [ih fun j hj => hw j (List.mem_cons_of_mem _ hj)]
          have hw0 := hw w List.mem_cons_self
          have : ∀ ts : List Nat, w ∈ ts → (wipe σ ts).set w none = wipe σ ts := by
            intro ts
            induction ts with
            | nil => intro h; cases h
            | cons t ts ih2 =>
              intro h
              show ((wipe σ ts).set t none).set w none = (wipe σ ts).set t none
              by_cases htw : t = w
              · subst htw; rw [List.set_set]
              · rcases List.mem_cons.mp h with z | z
                · exact absurd z.symm htw
                · rw [List.set_comm _ _ htw, ih2 z]
          exact this vs hw0
      exact ww vs fun _ h => h
    · have hww : wipe σ2 vs = wipe σ vs := by
        rw [w2 vs hjs]
        have ww : ∀ us : List Nat, (∀ j ∈ us, j ∈ vs) → wipe (wipe σ vs) us = wipe σ vs := by
          intro us
          induction us with
          | nil => intro _; rfl
          | cons w us ih =>
            intro hw
            show (wipe (wipe σ vs) us).set w none = wipe σ vs
            rw [ih fun j hj => hw j (List.mem_cons_of_mem _ hj)]
            have hw0 := hw w List.mem_cons_self
            have : ∀ ts : List Nat, w ∈ ts → (wipe σ ts).set w none = wipe σ ts := by
              intro ts
              induction ts with
              | nil => intro h; cases h
              | cons t ts ih2 =>
                intro h
                show ((wipe σ ts).set t none).set w none = (wipe σ ts).set t none
                by_cases htw : t = w
                · subst htw; rw [List.set_set]
                · rcases List.mem_cons.mp h with z | z
                  · exact absurd z.symm htw
                  · rw [List.set_comm _ _ htw, ih2 z]
            exact this vs hw0
        exact ww vs fun _ h => h
      show teB X scope elt σ2 H'' _
      intro s5 H5 C5 cl5 fp5
      refine he i d hd G ds core hj s5 H5 C5 cl5 fp5 σ2 H'' _ F2 fun w H6 G6 ⟨c6, dv, r6, j6⟩ F6 => ?_
      have nzD : ¬ Z L := fun z => by
        obtain ⟨o, q, _⟩ := hZ L z
        rw [hD0] at q; cases q
      have hGD6 := c6 _ _ hGD nzD
      have tp6 : Tps X.K G G6 := fun a xs hx => by
        have zn := hZJ G i ds core hj
        rcases hx with (hx | ⟨o, hx⟩) | hx
        · exact .inl (.inl (c6 a _ hx fun z => by
            obtain ⟨o', q1, q2, q3⟩ := zn a z
            rw [hx] at q1
            exact q2 xs (Option.some.inj q1).symm))
        · exact .inl (.inr ⟨o, c6 a _ hx fun z => by
            obtain ⟨o', q1, q2, q3⟩ := zn a z
            rw [hx] at q1
            exact q3 o _ (Option.some.inj q1).symm⟩)
        · exact .inr hx
      refine ⟨acc, F6.ex _ _ hGD6, ?_, ?_⟩
      · rw [hr.length, hdl]
        exact Nat.lt_of_lt_of_le (Nat.lt_trans hlt hlen) (by decide)
      · have ts : Tps X.K G6 (upd G6 L (.lst (acc ++ [w]))) := lst_ts hGD6
        refine ⟨upd G6 L (.lst (acc ++ [w])), ds ++ [dv], acc ++ [w], fun a o q => ?_, fun a o q nz => ?_, ?_, upd_same, ((hr.mono tp6).mono ts).snoc (r6.mono ts), by rw [List.length_append, hdl]; rfl, hJ _ _ _ _ L hD0 (fun a o hne q => by rw [upd_ne hne]; exact q) j6⟩
        · rw [upd_ne (ne_of_none q hcD)]
          refine c6 a o (cg a o q) fun z => ?_
          have q' : (if Z a then none else Hb a) = some o := q
          rw [if_pos z] at q'; cases q'
        · rw [upd_ne (ne_of_none q hD0)]
          exact c6 a o (core a o q nz) nz
        · have F7 := F6.wipe vs
          rw [hww, hΓ d hm] at F7
          exact F7.relist hGD6 nb
  · have ei : i = els.length := by omega
    subst ei
    exact .inl ⟨ok.stop H' (cg.trans F'.ex), kq _ G H' ⟨L, ds, acc, rfl, hD0, core, hGD, hr, hj⟩ (F'.unwipe hw)⟩
end
end WB
namespace WB
open PySem PySem.Spec PyProof.Rows L2
section
variable {X : Cx} {H0 G : Hp} {Γ : List AV} {a b c e e1 e2 e3 elt tg iter o : Expr} {es : List Expr} {pos p1 spos np : Pos} {els : List D} {n : Str} {k : Nat} {ps : List Str} {sp : Sp} {sts : List Stmt} {E : Ends} {Ψ Φ : V → Hp → Prop} {i j : Int} {x1 : V}
/-- [f for .. in ..], the items changing things -/
theorem gy_lcS (C : Cok X k) {scope : Scope} (own : List (Str × Nat)) {js : List Nat} (u : D → List AV → List AV) (Z : Addr → Prop) (J : Hp → Nat → List D → Prop) (hi : GI X H0 Γ tg iter els) (hlen : els.length < 100000) (nb : noBw Γ = true) (hw : ∀ j ∈ own.map (·.2), Γ[j]? = some .no) (hΓ : ∀ d ∈ els, wipeA (u d Γ) (own.map (·.2)) = Γ)
    (hZ : ZNb H0 Z) (hJ : ∀ (G G2 : Hp) (i : Nat) (ds : List D) (L : Addr), H0 L = none → (∀ a o, a ≠ L → G a = some o → G2 a = some o) → J G i ds → J G2 i ds)
    (ht : ∀ d ∈ els, InBlk X scope fun Y => TgOk Y tg js d (u d)) (h0 : J H0 0 []) (hZJ : ∀ (G : Hp) (i : Nat) (ds : List D), Core Z H0 G → J G i ds → ZNb G Z)
    (he : ∀ (i : Nat) (d : D), els[i]? = some d → ∀ (G : Hp) (ds : List D), Core Z H0 G → J G i ds → InBlk X scope fun Y => GY Y G (u d Γ) elt (fun v G' => Core Z G G' ∧ ∃ dv, Rp X.K G' dv v ∧ J G' (i + 1) (ds ++ [dv])))
    (hjs : ∀ j ∈ js, j ∈ own.map (·.2) := by decide) (ok : BlkOk X.N X.env.scope scope own := by exact blkOk_by rfl) (hs : ∀ x, foldedSetIterable iter X.env x = pure x := by intro _; rfl) :
    GY X H0 Γ (.ListComp elt [⟨tg, iter, [], 0⟩] scope pos) (LcPost H0 X.K Z J els.length) := fun σ H Q F kq => by
  obtain ⟨wi, hpi, hread⟩ := hi
  refine er_of (pe_lc (g := tgB X scope tg) (tt := tYes) (te := teB X scope elt) C.hc C.nd hpi ok (fun s H C cl fp => pg_blk s H C cl fp) (fun _ _ _ _ _ => pts_nil) (fun s H C cl fp => pe_blk s H C cl fp) hs) ?_
  refine hread σ H _ F fun It H1 e1 hit => ?_
  exact lc_state Z J hjs hlen nb hw hΓ hZ hJ ht h0 hZJ he F e1 hit fun v G' H' p F' => kq v H' G' p F'
/-- y = [f for .. in ..], the items changing things -/
theorem gs_setLcS (C : Cok X k) {scope : Scope} (i : Nat) (own : List (Str × Nat)) {js : List Nat} (u : D → List AV → List AV) (Z : Addr → Prop) (J : Hp → Nat → List D → Prop) (hi : GI X H0 Γ tg iter els) (hlen : els.length < 100000) (nb : noBw Γ = true) (hw : ∀ j ∈ own.map (·.2), Γ[j]? = some .no) (hΓ : ∀ d ∈ els, wipeA (u d Γ) (own.map (·.2)) = Γ)
    (hZ : ZNb H0 Z) (hJ : ∀ (G G2 : Hp) (i : Nat) (ds : List D) (L : Addr), H0 L = none → (∀ a o, a ≠ L → G a = some o → G2 a = some o) → J G i ds → J G2 i ds)
    (ht : ∀ d ∈ els, InBlk X scope fun Y => TgOk Y tg js d (u d)) (h0 : J H0 0 []) (hZJ : ∀ (G : Hp) (i : Nat) (ds : List D), Core Z H0 G → J G i ds → ZNb G Z)
    (he : ∀ (i : Nat) (d : D), els[i]? = some d → ∀ (G : Hp) (ds : List D), Core Z H0 G → J G i ds → InBlk X scope fun Y => GY Y G (u d Γ) elt (fun v G' => Core Z G G' ∧ ∃ dv, Rp X.K G' dv v ∧ J G' (i + 1) (ds ++ [dv])))
    (h : ∀ v G', LcPost H0 X.K Z J els.length v G' → GS X G' (Γ.set i (.v v)) sts E) (hy : X.N[i]? = some n := by rfl) (hyl : X.env.scope.names.lookup n = some .local := by rfl)
    (hsw : swapsWith (.ListComp elt [⟨tg, iter, [], 0⟩] scope pos) (some (.Name n p1)) spos.line X.env = pure true := by exact sw_true rfl rfl rfl (by decide +kernel))
    (hjs : ∀ j ∈ js, j ∈ own.map (·.2) := by decide) (ok : BlkOk X.N X.env.scope scope own := by exact blkOk_by rfl) (hs : ∀ x, foldedSetIterable iter X.env x = pure x := by intro _; rfl) :
    GS X H0 Γ (.Assign [.Name n p1] (.ListComp elt [⟨tg, iter, [], 0⟩] scope pos) spos :: sts) E := fun σ H F => by
  obtain ⟨wi, hpi, hread⟩ := hi
  refine sr_cons (s1_of (ps_setLc (g := tgB X scope tg) (tt := tYes) (te := teB X scope elt) C.hc C.nd hy hyl hsw hpi ok (fun s H C cl fp => pg_blk s H C cl fp) (fun _ _ _ _ _ => pts_nil) (fun s H C cl fp => pe_blk s H C cl fp) hs) ?_)
  refine hread σ H _ F fun It H1 e1 hit => ?_
  exact lc_state Z J hjs hlen nb hw hΓ hZ hJ ht h0 hZJ he F e1 hit fun v G' H' p F' => h v G' p _ _ F'.set_v
/-- tuple(e), e a list, changing things -/
theorem gy_tupleS (he : GY X G Γ e Ψ) (h : ∀ v G', Ψ v G' → ∃ (l : Addr) (ws : List V) (ds : List D), v = .ref l ∧ G' l = some (.lst ws) ∧ RpAll X.K G' ds ws ∧ ∀ r G2, Same G' G2 → Rp X.K G2 (.tup ds) r → Φ r G2) (hm : X.mg "tuple" = none) (hg : Gl X "tuple" := by rfl) (hst : starEach [e] X.env = (false, eval e X.env) :: starEach [] X.env := by rfl) (hpl : (backTo pos (starEach [] X.env)).any (·.1) = false := by rfl) : GY X G Γ (.Call (.Name "tuple" np) [e] [] pos) Φ := fun σ H Q F kq => by
  refine er_of (pe_callTy call_tuple_of hg hm boot_tuple (pa_cons pe_self pa_nil hst) (by decide) (by decide) hst hpl) ?_
  refine he σ H _ F fun v H1 G' q F' => ?_
  obtain ⟨l, ws, ds, ev, hl, hr, hk⟩ := h v G' q
  subst ev
  have hr1 := hr.mono (Same.tup F'.ex)
  refine ⟨l, ws, rfl, .inl ⟨SqL.of (F'.ex _ _ hl), fun t ht => ?_⟩⟩
  have e4 : Same H1 (upd H1 t (.tup ws)) := fun b o q => by rw [upd_ne (ne_of_none q ht)]; exact q
  obtain ⟨G2, s0, s1, F2, hall, ts⟩ := (F'.same e4).full
  refine kq _ _ G2 (hk _ G2 s0 ⟨t, ws, rfl, SqT.of ?_, hr.mono (Same.tup s0)⟩) F2
  exact hall t _ upd_same fun ⟨j, zs, h3, h4⟩ => F'.own_ne ht j zs h3 h4
/-- a[b], b changing things -/
theorem gy_ixS {l : Addr} (ho : GV X G Γ a (.v (.ref l))) (hb : GY X G Γ b Ψ) (h : ∀ v G', Ψ v G' → ∃ (i : Int) (vs : List V) (w : V), v = .int i ∧ G' l = some (.lst vs) ∧ atI vs i = some w ∧ Φ w G') (hs : PlainIx b := by exact fun _ _ => rfl) : GY X G Γ (.Subscript a b pos) Φ := fun σ H Q F kq => by
  refine er_of (pe_ix ix_list pe_self pe_self hs) ?_
  refine ho σ H _ F fun w H1 e1 r1 => ?_
  have ew : w = .ref l := r1
  subst ew
  refine hb σ H1 _ (F.same e1) fun u H2 G' q F' => ?_
  obtain ⟨i, vs, x, eu, hl, hx, hΦ⟩ := h u G' q
  exact ⟨l, vs, i, x, rfl, eu, SqL.of (F'.ex _ _ hl), hx, kq x H2 G' hΦ F'⟩
/-- 1 + e, e changing things -/
theorem gy_addS (ha : GE X G Γ a (.int i)) (hb : GY X G Γ b Ψ) (h : ∀ v G', Ψ v G' → ∃ j : Int, v = .int j ∧ Φ (.int (i + j)) G') : GY X G Γ (.BinOp a .Add b pos) Φ := fun σ H Q F kq => by
  refine er_of (pe_op op_add pe_self pe_self) ?_
  refine ha σ H _ F fun v H1 e1 r1 => ?_
  refine hb σ H1 _ (F.same e1) fun u H2 G' q F' => ?_
  obtain ⟨j, eu, hΦ⟩ := h u G' q
  exact ⟨i, j, r1, eu, kq _ H2 G' hΦ F'⟩
/-- n(e1, e2), e2 changing things -/
theorem gy_cal2 (Cc : Cal X.prog X.w X.K X.mg X.base n ps k sp) (hr : Room k X.A) (h1 : GV X G Γ e1 (.v x1)) (h2 : GY X G Γ e2 Ψ)
    (hk : ∀ v G', Ψ v G' → ∃ (Z : Addr → Prop) (post : V → Hp → Prop), ZOk X G' Γ Z ∧ (∀ (H : Hp) (Q : VK), Same G' H → (∀ r G1 H', Core Z H G1 → Same G1 H' → post r G1 → Q r H') → sp [x1, v] H Q L2.E0) ∧ (∀ r H G1 G2, Tra Z H G1 G2 → post r G1 → post r G2) ∧ ∀ r G2, Core Z G' G2 → post r G2 → Φ r G2)
    (hg : Gl X n := by rfl) (hdb : (n == ("__debug__" : Str)) = false := by decide) (hst1 : starEach [e1, e2] X.env = (false, eval e1 X.env) :: starEach [e2] X.env := by rfl) (hst2 : starEach [e2] X.env = (false, eval e2 X.env) :: starEach [] X.env := by rfl) (hpl : (backTo pos (starEach [e2] X.env)).any (·.1) = false := by rfl) :
    GY X G Γ (.Call (.Name n np) [e1, e2] [] pos) Φ := fun σ H Q F kq => by
  obtain ⟨f, fd, Fn, hm, hk2, hb⟩ := Cc.ex
  refine er_of (pe_call Fn hr hg hm hk2 hb .nil pass0 (pa_cons pe_self (pa_cons pe_self pa_nil hst2) hst1) hdb hst1 hpl) ?_
  refine h1 σ H _ F fun v1 H1 s1 r1 => ?_
  have e1 : v1 = x1 := r1
  subst e1
  refine h2 σ H1 _ (F.same s1) fun v2 H2 G' q F' => ?_
  obtain ⟨Z, post, hZ, hsp, hst, hf⟩ := hk v2 G' q
  refine hsp H2 Q F'.ex fun r G1 H' c1 s2 hp => ?_
  obtain ⟨G2, d1, d2, F3, tr⟩ := F'.region (hZ σ H2 F') (c1.then s2)
  exact kq r H' G2 (hf r G2 d1 (hst r H2 G1 G2 (tr G1 c1 s2) hp)) F3
/-- len of a list that stands -/
theorem ge_lenR {l : Addr} {vs : List V} (ho : GV X G Γ o (.v (.ref l))) (hG : G l = some (.lst vs)) (hz : X.mg "len" = none) (hg : Gl X "len" := by rfl) (he : starEach [o] X.env = (false, eval o X.env) :: starEach [] X.env := by rfl) (hpl : (backTo pos (starEach [] X.env)).any (·.1) = false := by rfl) : GE X G Γ (.Call (.Name "len" np) [o] [] pos) (.int ((vs.length : Nat) : Int)) := fun σ H Q F kq => by
  refine er_of (pe_callB call_len_seq hg hz PySem.boot_len (pa_cons pe_self pa_nil he) (by decide) (by decide) he hpl) ?_
  refine ho σ H _ F fun v H1 e1 r1 => ?_
  have ev : v = .ref l := r1
  subst ev
  exact ⟨l, vs, rfl, .inl (SqL.of ((F.same e1).ex _ _ hG)), kq _ H1 e1 rfl⟩
end
/-! ### draws -/
section
variable {X : Cx} {G : Hp} {Γ : List AV} {o e : Expr} {pos np : Pos} {p c : Addr} {cs : List Int} {n many : Int}
theorem gy_draw (T : Tx X.K X.mg) (hr : Room 1 X.A) (ho : GV X G Γ o (.v (.ref p))) (he : GE X G Γ e (.int many)) (hp : PenAt G p c cs n) (hn : n ≤ 1000000) (m1 : 1 ≤ many) (m2 : many ≤ 1000000) (nb : noBw Γ = true)
    (hg : Gl X "_law_draw" := by rfl) (hst1 : starEach [o, e] X.env = (false, eval o X.env) :: starEach [e] X.env := by rfl) (hst2 : starEach [e] X.env = (false, eval e X.env) :: starEach [] X.env := by rfl) (hpl : (backTo pos (starEach [e] X.env)).any (·.1) = false := by rfl) :
    GY X G Γ (.Call (.Name "_law_draw" np) [o, e] [] pos) (fun r G' => Core (fun x => x = p) G G' ∧ ∃ i : Int, r = .int i ∧ 0 ≤ i ∧ i < many ∧ PenAt G' p c cs (n + 1)) := by
  refine GY.imp (gy_cal (Z := fun x => x = p) (as := [.v (.ref p), .d (.int many)]) (post := fun r _ G1 => PostD p c n many r G1) (c_law_draw T) hr (ga_cons ho (gac1 he hst2) hst1) (zok_nb hp.znb nb) (fun vs H Q s ⟨v1, r1, ev, e1, v2, r2, er, e2, er2⟩ hq => ?_) (fun v H G1 G2 t ⟨i, h1, h2, h3, h4⟩ => ⟨i, h1, h2, h3, h4.tra (Z := fun x => x = p) rfl t⟩) hg (by decide) hst1 hpl) fun r G' ⟨c1, H, s, i, h1, h2, h3, h4⟩ => ⟨c1, i, h1, h2, h3, hp.next c1 h4⟩
  subst ev; subst er; subst er2
  have e1' : v1 = .ref p := e1
  have e2' : v2 = .int many := e2
  subst e1'; subst e2'
  exact ⟨p, c, cs, n, many, rfl, hp.same s, hn, m1, m2, hq⟩
end
section
variable {P : Program} {w : World} {K : PySem.W.Frag} {mg : Str → Option Value} {base : Heap}
/-! ### a drawn stand -/
def PostDr (K : PySem.W.Frag) (R : List Nat) (p c : Addr) (n : Int) (r : V) (G1 : Hp) : Prop := ∃ v : List Int, Wd R v ∧ Rp K G1 (ti v) r ∧ PenN G1 p c (n + 60)
def spDrawn (K : PySem.W.Frag) : Sp := fun vs H Q _ => ∃ (R : List Nat) (p c : Addr) (cs : List Int) (n : Int) (lv : V), vs = [.ref p, lv] ∧ Rp K H (.tup (lockD R)) lv ∧ Ok24 R ∧ R.length ≤ 60 ∧ PenAt H p c cs n ∧ n ≤ 900000 ∧
  ∀ r G1 H', Core (fun x => x = p) H G1 → Same G1 H' → PostDr K R p c n r G1 → Q r H'
theorem sc_law_drawn : FnScope ["_law_pen_here", "_law_lock", "_law_bolt"] ["_law_pen_here", "_law_lock"] (defScope s_law_drawn) := ⟨rfl, rfl, rfl, by decide +kernel, rfl, by decide +kernel, by decide +kernel⟩
theorem c_law_drawn (T : Tx K mg) : Cal P w K mg base "_law_drawn" ["_law_pen_here", "_law_lock"] 2 (spDrawn K) := by
  refine cal_make (N := ["_law_pen_here", "_law_lock", "_law_bolt"]) (st := s_law_drawn) (k := 1) T.g_law_drawn T.f_law_drawn sc_law_drawn (fun _ _ _ _ _ _ us hl => match us, hl with | [_, _], _ => rfl) ?_ ?_
  · rintro vs H Q E ⟨R, p, c, cs, n, lv, rfl, _⟩; rfl
  · rintro cdv A outer s H vs Q E C ⟨R, p, c, cs, n, lv, rfl, hlv, ok, hR, hpen, hn, hq⟩
    refine (?_ : GS _ H ([.v (.ref p), .d (.tup (lockD R))] ++ [.no]) _ _) _ _ (fm_start (as := [.v (.ref p), .d (.tup (lockD R))]) ⟨_, _, rfl, rfl, _, _, rfl, hlv, rfl⟩ (Nat.le_of_ble_eq_true rfl))
    have ln : (lockD R).length = R.length := lockD_len R
    have hpH : H p ≠ none := fun z => by
      obtain ⟨t, l, q, _⟩ := hpen.pn
      rw [z] at q; cases q
    have hcH : H c ≠ none := fun z => by
      have q := hpen.cl
      rw [z] at q; cases q
    refine gs_retY (gy_tupleS (Φ := fun r G' => Core (fun x => x = p) H G' ∧ ∃ v : List Int, Wd R v ∧ Rp K G' (ti v) r ∧ PenAt G' p c cs (n + 60)) (gy_lcS C [("_law_bolt", 2)] (js := [2]) (fun d Γ => Γ.set 2 (.d d)) (fun x => x = p) (fun G i ds => PenAt G p c cs (n + (i : Nat)) ∧ ∃ v : List Int, ds = v.map D.int ∧ Wd (low R i) v ∧ i ≤ R.length) (gi_tup (ge_var (x := .tup (lockD R)) 1)) (by omega) rfl (fun j hj => by cases hj with | head => rfl | tail _ h => cases h) (fun d _ => rfl) hpen.znb ?_ ?_ ?_ ?_ ?_) (fun v G' ⟨L, ds, acc, ev, hL, core, hG, hr, hpn, w', eds, hw, _⟩ => ?_) T.z_tuple) fun r G1 H' ⟨core, v, hv, hr, hpn⟩ s1 => hq r G1 H' core s1 ⟨v, hv, hr, hpn.pn⟩
    · rintro G G2 i ds L hL st ⟨hp, hx⟩
      refine ⟨⟨?_, st _ _ (fun z => hcH (by rw [z]; exact hL)) hp.cl, hp.ne, hp.len⟩, hx⟩
      obtain ⟨t, l, q, q2⟩ := hp.pn
      exact ⟨t, l, st _ _ (fun z => hpH (by rw [z]; exact hL)) q, q2⟩
    · intro d hd s H C' cl fp
      exact tg_name C.blk 2
    · exact ⟨hpen.more (by omega), [], rfl, by rw [low_zero]; rfl, Nat.zero_le _⟩
    · rintro G i ds core ⟨hp, _⟩
      exact hp.znb
    · rintro i d hd G ds core ⟨hp, v, rfl, hv, hi⟩ s H1 C' cl fp
      have hil : i < R.length := by rw [← ln]; exact (List.getElem?_eq_some_iff.mp hd).1
      obtain ⟨m, hb, hlow⟩ := lock_at hil
      rw [hb] at hd
      cases hd
      have hm : 2 ≤ m ∧ m ≤ 4 := (hlow ▸ ok.low (i + 1) : Ok24 (m :: low R i)).hd
      refine GY.imp (gy_draw (many := (m : Int)) T (C.hr.mono (by decide)) (gv_var (p := .v (.ref p)) 0 rfl (fun q => by cases q)) (ge_ixT (ds := [.int m, .tup (gapsD (low R i) m)]) (d := .int m) (ge_var (x := boltD m (low R i)) 2) ge_int) hp (by omega) (by omega) (by omega) rfl) fun r G' ⟨c1, j, er, j0, j1, hp2⟩ => ⟨c1, .int j, er, ?_, v ++ [j], ?_, ?_, hil⟩
      · rw [show n + ((i + 1 : Nat) : Int) = n + (i : Nat) + 1 by omega]; exact hp2
      · rw [List.map_append]; rfl
      · rw [hlow]; exact ⟨v, j, rfl, hv, j0, by omega⟩
    · subst eds
      rw [ln] at hpn hw
      refine ⟨L, acc, _, ev, hG, hr, fun r G2 s2 r2 => ⟨core.then s2, w', by rw [low_all] at hw; exact hw, r2, (hpn.more (by omega)).same s2⟩⟩
end
end WB
set_option maxHeartbeats 0
namespace WB
open PySem PySem.Spec PyProof.Rows L2
/-- what is known of the class that refuses -/
def excB (K : PySem.W.Frag) (C : Addr) : Bool :=
  PySem.W.excIn K C He.veBase "ValueError.__new__" && (PySem.W.keepIn K (.ref C) && (decide (PySem.W.subIn K (.ref C) (.type "BaseException") = some true) && (decide (PySem.W.typeIn K (.ref C) = some (.type "type")) &&
  (He.eqO (PySem.W.findIn K (.ref C) "__getattribute__") (some (some (.builtin "BaseException.__getattribute__"))) && (He.eqO (PySem.W.findIn K (.ref C) "__getattr__") (some none) && (PySem.W.hasDictIn K C && (He.eqO (PySem.W.findIn K (.ref C) "__class__") (some (some (.builtin "object.__class__"))) &&
  (He.eqO (PySem.W.specialIn K (.builtin "object.__class__") "__get__") (some (some (.builtin "getset_descriptor.__get__"))) && (decide (PySem.W.takesIn K (.builtin "object.__class__") = some true) && (decide (PySem.W.mroIn K C (.type "object") = some true) && decide (PySem.W.kitOne K (.ref C) (.type "ValueError") = some true)))))))))))
abbrev AlE : Type := He.AlD × Bool
def obsE (K : PySem.W.Frag) : AlE := (He.obsD fas fns K, excB K (He.ga K "NoPlaces"))
def obsEG (g : Addr → Option Obj) : AlE := obsE (He.frG g (He.asD g 6))
def hkE : PySem.W.Hook where
  α := AlE
  obs := fun s => obsEG s.heap.get?
  val := fun _ => (He.valD fns, true)
  says := fun _ h => ∃ K : PySem.W.Frag, K.In h ∧ obsE K = (He.valD fns, true)
  of := fun _ _ e => ⟨_, He.frG_in, e⟩
  keeps := fun _ _ _ ⟨K, hK, c⟩ k => ⟨K, PySem.W.Frag.In.keeps hK k, c⟩
abbrev RR : PySem.W.OpenRow := PySem.W.OpenLaw.row PySem.Challenge.rw_waitbolts_k73_whole_stands_in_a_row
def obE (s : PySem.W.SharedT) : AlE := obsEG (HandSHeadRun.getT s)
theorem obE_eq (s : PySem.W.SharedT) : obE s = hkE.obs s.abs := by
  have e : HandSHeadRun.getT s = s.abs.heap.get? := funext (HandSHeadRun.getT_eq s)
  show obsEG (HandSHeadRun.getT s) = obsEG s.abs.heap.get?
  rw [e]
theorem runE (w : World) : HandSHeadRun.RunEq RR (PySem.W.view RR.prog [lawAt]) hkE obE 8000 names w := by
  intro os
  kernel_rfl
end WB
set_option maxHeartbeats 4000000
namespace WB
open PySem PySem.Spec PyProof.Rows L2
/-! ### the text, with the class that refuses -/
structure TxE (K : PySem.W.Frag) (mg : Str → Option Value) : Prop where
  T : Tx K mg
  ex : excB K (He.ga K "NoPlaces") = true
section
variable {K : PySem.W.Frag} {mg : Str → Option Value}
structure ExcFacts (K : PySem.W.Frag) (C : Addr) : Prop where
  own : PySem.W.excIn K C He.veBase "ValueError.__new__" = true
  kp : PySem.W.keepIn K (.ref C) = true
  sb : PySem.W.subIn K (.ref C) (.type "BaseException") = some true
  ty : PySem.W.typeIn K (.ref C) = some (.type "type")
  cc : ExcC K C
  ki : PySem.W.kitOne K (.ref C) (.type "ValueError") = some true
theorem excB_ok {C : Addr} (h : excB K C = true) : ExcFacts K C := by
  unfold excB at h
  obtain ⟨h1, h⟩ := He.ba h
  obtain ⟨h2, h⟩ := He.ba h
  obtain ⟨h3, h⟩ := He.ba h
  obtain ⟨h4, h⟩ := He.ba h
  obtain ⟨h5, h⟩ := He.ba h
  obtain ⟨h6, h⟩ := He.ba h
  obtain ⟨h7, h⟩ := He.ba h
  obtain ⟨h8, h⟩ := He.ba h
  obtain ⟨h9, h⟩ := He.ba h
  obtain ⟨h10, h⟩ := He.ba h
  obtain ⟨h11, h12⟩ := He.ba h
  exact ⟨h1, h2, of_decide_eq_true h3, of_decide_eq_true h4, ⟨He.eqO_ok h5, He.eqO_ok h6, of_decide_eq_true h3, h7, He.eqO_ok h8, He.eqO_ok h9, of_decide_eq_true h10, of_decide_eq_true h11⟩, of_decide_eq_true h12⟩
end
section
variable {X : Cx} {C : Addr} {bmB : List Value} {B newId initId : String}
/-- C() -/
theorem pmk_own0 {x : Str} {p pos : Pos} (F : ExcBaseFacts B newId initId bmB) (q : PySem.W.excIn X.K C bmB newId = true) (gC : X.mg x = some (.ref C)) (kC : PySem.W.keepIn X.K (.ref C) = true) (r : Raises X (.ref C)) (hg : Gl X x)
    (hdb : (x == ("__debug__" : Str)) = false := by decide) : PMk X (.Call (.Name x p) [] [] pos) (fun _ H Q => Q (.ref C) none H) := by
  intro pins s σ H Q I h
  refine wpAny_Call_Name_kw (ld_glob I hg gC ?_ hdb)
  refine PySem.W.callWith_K0 I.kIn kC ?_
  show wpAny _ _ (call (.ref C) []) _ _ _
  obtain ⟨bm, N, nm, qn, bs, hdct, sn, sub, ab, col, dd, k0, k1, k2, k3, k5, mN, hC, hN, hni, T⟩ := exc_obj I.kIn q
  refine wpAny_call_exc_subT F T hC hN hni (fun h' e hm => ?_) (by show 0 ≤ sizeLine; exact Nat.zero_le _)
  exact mk_of I hm r h (I.hok.gone hm.new)
end
/-! ### row_of, what it refuses -/
def BadA (a : AV) : Prop := (∃ x, a = .d x) ∨ ∃ xs : List D, a = .bw xs ∧ xs.length ≤ 1000 ∧ (xs.length = 0 ∨ 60 < xs.length ∨ (1 ≤ xs.length ∧ xs.length ≤ 60 ∧ ∃ x ∈ xs, fromB (.d x) 2 4 = false))
def spRowX (K : PySem.W.Frag) (C : Addr) : Sp := fun vs H _ E => ∃ a : AV, ArgsOk K H [a] vs ∧ BadA a ∧ ∀ H', Same H H' → E (.ref C) none H'
theorem all_ex {α : Type} {f : α → Bool} : ∀ {l : List α}, (∃ x ∈ l, f x = false) → (l.map f).all _root_.id = false
  | [], ⟨x, h, _⟩ => by cases h
  | y :: l, ⟨x, h, e⟩ => by
    rw [List.map_cons, List.all_cons]
    rcases List.mem_cons.mp h with z | z
    · rw [← z, e]; rfl
    · rw [all_ex ⟨x, z, e⟩]; exact Bool.and_false _
section
variable {P : Program} {w : World} {K : PySem.W.Frag} {mg : Str → Option Value} {base : Heap}
theorem ok_rowX (T : TxE K mg) : ∃ f fd, FnOk P w K mg base (L2.CX P w) 4 f fd ["places"] (spRowX K (He.ga K "NoPlaces")) ∧ mg "row_of" = some (.ref f) ∧ PySem.W.keepIn K (.ref f) = true ∧ Binds K fd ["places"] [] := by
  obtain ⟨fd, F⟩ := T.T.f_row_of
  have xf := excB_ok T.ex
  have gN := T.T.g_NoPlaces
  refine ⟨_, fd, fd_ok (CX := L2.CX P w) (q := 3) (N := ["places", "many", "lock", "ends", "here"]) F sc_row_of (fun vs H Q E ⟨a, h, _⟩ => h.length) (fun cdv A outer s H vs Q E hr ⟨a, ha, hbad, hq⟩ => ⟨_, pss_cons (ps_if (PT.nox pt_self) (pss_one (ps_raise rfl (takes_of rfl rfl rfl rfl) (pmk_own0 PySem.F.excBase_ValueError xf.own gN xf.kp (raises_own xf.sb xf.ty) rfl))) pss_nil) (pss_cons (ps_if (PT.nox pt_self) (pss_one (ps_raise rfl (takes_of rfl rfl rfl rfl) (pmk_own0 PySem.F.excBase_ValueError xf.own gN xf.kp (raises_own xf.sb xf.ty) rfl))) pss_nil) (PSs.nox pss_self)), ?_⟩), T.T.g_row_of, F.kp, F.bindsN fun _ _ _ _ _ _ us hl => match us, hl with | [_], _ => rfl⟩
  have C : Cok (cxOf (L2.CX P w) P w K mg base ["places", "many", "lock", "ends", "here"] "row_of" (defScope s_row_of) (He.ga K "row_of") cdv A outer s H E).nox 3 := ⟨PassesOwn.never, rfl, sc_row_of.nd, hr⟩
  have F0 := fm_start (N := ["places", "many", "lock", "ends", "here"]) ha (Nat.le_of_ble_eq_true rfl)
  rcases hbad with ⟨x, rfl⟩ | ⟨xs, rfl, hl, h⟩
  · refine (GW.t (k0 := !false || false) (gw_or (gt_not (gt_of (k := false) (gt_val (ge_isList (p := .d x) T.T (gd_var 0) tb_d)) rfl)) fun q => by cases q) : GT _ H ([.d x] ++ [.no, .no, .no, .no]) _ _) _ H _ F0 fun H1 e1 => ?_
    exact hq H1 e1
  · refine (GW.t (gw_or (gt_not (gt_of (k := true) (gt_val (ge_isList (p := .bw xs) T.T (gb_var 0) tb_bw)) rfl)) fun _ => gw_or1 (gt_not (gt_lele ge_int (ge_lenL (gb_var 0) T.T.z_len) (ge_glob T.T.i_MOST_BOLTS_made)))) : GT _ H ([.bw xs] ++ [.no, .no, .no, .no]) _ _) _ H _ F0 fun H1 e1 => ?_
    by_cases hb : 1 ≤ xs.length ∧ xs.length ≤ 60
    · have hx : ∃ x ∈ xs, fromB (.d x) 2 4 = false := by
        rcases h with h | h | h
        · omega
        · omega
        · exact h.2.2
      rw [decide_eq_true (show (1 : Int) ≤ (xs.length : Nat) by omega), decide_eq_true (show ((xs.length : Nat) : Int) ≤ 60 by omega)]
      refine (gt_not (gt_of (k := false) (gt_val (ge_all (bs := xs.map fun x => fromB (.d x) 2 4) ?_ T.T.z_all C.hc)) (all_ex hx)) : GT _ H ([.bw xs] ++ [.no, .no, .no, .no]) _ _) _ H1 _ (F0.same e1) fun H2 e2 => ?_
      · rw [List.map_map]
        refine GL.rd (gl_lc0 (els := xs) C [("many", 1)] (js := [1]) (fun d Γ => Γ.set 1 (.d d)) (D.bl ∘ fun x => fromB (.d x) 2 4) (gi_var 0) ?_ ?_ (by omega))
        · intro d hd s H C' cl fp
          exact tg_name C.blk 1
        · intro Hb s0 d hd s H C' cl fp
          exact ge_call (c_is_from T.T) (C.hr.mono (by decide)) (gac (ge_var 1) (gac ge_int (gac1 ge_int))) ⟨_, _, _, rfl, tb_d, rfl⟩
      · exact hq H2 (e1.trans e2)
    · have hfb : (decide ((1 : Int) ≤ (xs.length : Nat)) && decide (((xs.length : Nat) : Int) ≤ 60)) = false := by
        by_cases h1 : 1 ≤ xs.length
        · rw [decide_eq_false (show ¬ ((xs.length : Nat) : Int) ≤ 60 by omega)]; exact Bool.and_false _
        · rw [decide_eq_false (show ¬ (1 : Int) ≤ (xs.length : Nat) by omega)]; rfl
      rw [hfb]
      exact hq H1 e1
end
end WB
namespace WB
open PySem PySem.Spec PyProof.Rows L2
section
variable {P : Program} {w : World} {K : PySem.W.Frag} {mg : Str → Option Value} {base : Heap}
def spRef (K : PySem.W.Frag) : Sp := fun vs H Q _ => ∃ a : AV, ArgsOk K H [a] vs ∧ BadA a ∧ ∀ H', Same H H' → Q (.bl true) H'
theorem sc_refused : FnScope ["_law_places", "e"] ["_law_places"] (defScope s_law_is_refused) := ⟨rfl, rfl, rfl, by decide +kernel, rfl, by decide +kernel, by decide +kernel⟩
/-- what the suite does, the class being C -/
def tSuite (K : PySem.W.Frag) (C : Addr) : Addr → Value → Option Addr → TS := fun a cls d D σ H => cls = .ref C ∧ d = none ∧ tRet (tCB (rIsE K C a) (tCons (tVar 1) (tCons (tC (.ty "ValueError")) tNil))) D σ H
theorem ge_suite {X : Cx} {C a : Addr} {oe : Obj} {cls : Value} {d : Option Addr} {pn : List (Addr × Obj)} {st : Stmt} (h : cls = .ref C → d = none → PS (X.suite a ((a, oe) :: pn)) st (tRet (tCB (rIsE X.K C a) (tCons (tVar 1) (tCons (tC (.ty "ValueError")) tNil))))) : PSs (X.suite a ((a, oe) :: pn)) [st] (tSuite X.K C a cls d) := ⟨fun pins s σ H D I ⟨e1, e2, q⟩ => (pss_one (h e1 e2)).run pins s σ H D I q⟩
theorem c_refused (T : TxE K mg) : Cal P w K mg base "_law_is_refused" ["_law_places"] 6 (spRef K) := by
  obtain ⟨fd, F⟩ := T.T.f_law_is_refused
  have xf := excB_ok T.ex
  have gN := T.T.g_NoPlaces
  obtain ⟨fR, fdR, FR, mR, kR, bR⟩ := ok_rowX (P := P) (w := w) (base := base) T
  refine ⟨_, fd, fd_ok (CX := CX0) (q := 5) (N := ["_law_places", "e"]) F sc_refused (fun vs H Q E ⟨a, h, _⟩ => h.length) (fun cdv A outer s H vs Q E hr ⟨a, ha, hbad, hq⟩ => ⟨_, pss_cons (ps_try_as (i := 1) (tb := fun W => tDrop (tCallS (spRowX K (He.ga K "NoPlaces")) (WE W) (tCons (tVar 0) tNil))) (ts := tSuite K (He.ga K "NoPlaces")) (Wout := fun _ _ _ _ => False) rfl rfl sc_refused.nd rfl rfl ⟨rfl, by decide, .inl gN⟩ takes0
      (fun W pn xe tk _ => pss_one (ps_expr (by exact (pe_callS FR (hr.mono (by decide)) rfl mR kR bR (fun σ => passAt tk σ) (by exact (pa_cons (pv 0) pa_nil))))))
      (fun a oe cls d pn hz hf => ge_suite fun e1 e2 => by
        subst e1; subst e2
        exact ps_ret (pe_callB (call_isE xf.cc hz hf) rfl T.T.z_isinstance boot_isi (pa_cons (pv 1) (pa_cons (pe_bltn (v := .ty "ValueError") rfl T.T.z_ValueError boot_VE rfl (by decide)) pa_nil)) (by decide) (by decide)))) (PSs.nox pss_self), ?_⟩), T.T.g_law_is_refused, F.kp, F.bindsN fun _ _ _ _ _ _ us hl => match us, hl with | [_], _ => rfl⟩
  obtain ⟨v, r, ev, hv, er⟩ := ha
  subst er; subst ev
  refine ⟨v, rfl, a, ⟨v, [], rfl, hv, rfl⟩, hbad, fun H1 e1 => ?_⟩
  refine ⟨true, He.exm_ok (T.T.c.fact 93 (f := .exm "NoPlaces" "NoPlaces" true) rfl), fun _ b hb => ?_, fun q => Bool.noConfusion q⟩
  refine ⟨rfl, rfl, _, rfl, ?_⟩
  exact ⟨.ty "ValueError", .type "ValueError", true, rfl, fun u hu => hu, xf.ki, hq H1 e1⟩
end
end WB
namespace WB
open PySem PySem.Spec PyProof.Rows L2
section
variable {X : Cx} {G : Hp} {Γ : List AV} {e1 e2 e3 o e : Expr} {pos np : Pos} {p c : Addr} {cs : List Int} {n : Int} {i j : Int} {xs : List D}
/-- [list, i, j] -/
theorem gy_lst3 (h1 : GL X G Γ e1 xs) (h2 : GE X G Γ e2 (.int i)) (h3 : GE X G Γ e3 (.int j)) (hs1 : starEach [e1, e2, e3] X.env = (false, eval e1 X.env) :: starEach [e2, e3] X.env := by rfl) (hs2 : starEach [e2, e3] X.env = (false, eval e2 X.env) :: starEach [e3] X.env := by rfl) (hs3 : starEach [e3] X.env = (false, eval e3 X.env) :: starEach [] X.env := by rfl) :
    GY X G Γ (.List [e1, e2, e3] pos) (fun r G' => ∃ (p l : Addr) (ws : List V), r = .ref p ∧ G p = none ∧ G l = none ∧ l ≠ p ∧ Same G G' ∧ G' p = some (.lst [.ref l, .int i, .int j]) ∧ G' l = some (.lst ws) ∧ RpAll X.K G' xs ws) := fun σ H Q F kq => by
  refine er_of (pe_lst (pa_cons pe_self (pa_cons pe_self (pa_cons pe_self pa_nil hs3) hs2) hs1)) ?_
  refine h1 σ H _ F fun l ws H1 hl s1 hl1 r1 => ?_
  refine h2 σ H1 _ (F.same s1) fun v2 H2 s2 q2 => ?_
  have ev2 : v2 = .int i := q2
  subst ev2
  refine h3 σ H2 _ (F.same (s1.trans s2)) fun v3 H3 s3 q3 => ?_
  have ev3 : v3 = .int j := q3
  subst ev3
  refine ⟨Nat.le_of_lt (small1000 (show [V.ref l, V.int i, V.int j].length ≤ 1000 from Nat.le_of_ble_eq_true rfl)), fun p hp => ?_⟩
  have e4 : Same H3 (upd H3 p (.lst [.ref l, .int i, .int j])) := fun b o q => by rw [upd_ne (ne_of_none q hp)]; exact q
  have s04 := s1.trans (s2.trans (s3.trans e4))
  have hl3 := (s2.trans s3) _ _ hl1
  have hlp : l ≠ p := fun z => by rw [z, hp] at hl3; cases hl3
  have hpH : H p = none := (s1.trans (s2.trans s3)).free hp
  obtain ⟨G', g0, g1, F', hall, ts⟩ := (F.same s04).full
  refine kq _ _ G' ⟨p, l, ws, rfl, F.ex.free hpH, F.ex.free hl, hlp, g0, hall p _ upd_same (fun ⟨j, zs, h3, h4⟩ => F.own_ne hpH j zs h3 h4), hall l _ ?_ (fun ⟨j, zs, h3, h4⟩ => F.own_ne hl j zs h3 h4), ((r1.mono (Same.tup (s2.trans (s3.trans e4))))).mono ts⟩ F'
  rw [upd_ne hlp]; exact hl3
end
section
variable {P : Program} {w : World} {K : PySem.W.Frag} {mg : Str → Option Value} {base : Heap}
/-! ### the pen made, a thing picked -/
def spPen (K : PySem.W.Frag) : Sp := fun vs H Q _ => ∃ (a : Addr) (ns : List Int), vs = [.ref a] ∧ SqL K H a (ns.map V.int) ∧ ∀ r G1 H', Same H G1 → Same G1 H' → (∃ p c cs, r = .ref p ∧ H p = none ∧ H c = none ∧ PenAt G1 p c cs 0) → Q r H'
theorem sc_law_pen : FnScope ["_law_script"] ["_law_script"] (defScope s_law_pen) := ⟨rfl, rfl, rfl, by decide +kernel, rfl, by decide +kernel, by decide +kernel⟩
theorem c_law_pen (T : Tx K mg) : Cal P w K mg base "_law_pen" ["_law_script"] 1 (spPen K) := by
  refine cal_make (N := ["_law_script"]) (st := s_law_pen) (k := 0) T.g_law_pen T.f_law_pen sc_law_pen (fun _ _ _ _ _ _ us hl => match us, hl with | [_], _ => rfl) ?_ ?_
  · rintro vs H Q E ⟨a, ns, rfl, _⟩; rfl
  · rintro cdv A outer s H vs Q E C ⟨a, ns, rfl, hs, hq⟩
    refine (?_ : GS _ H ([.bw (ns.map D.int)] ++ []) _ _) _ _ (fm_start (as := [.bw (ns.map D.int)]) ⟨_, _, rfl, ⟨a, _, rfl, hs, RpAll.of_ints ns⟩, rfl⟩ (Nat.le_of_ble_eq_true rfl))
    refine gs_retY (gy_lst3 (xs := cutD (ns.map D.int) none (some 63)) (gl_list (GL.rd (gl_sl (gb_var 0) gp_none (gp_some ge_int))) T.z_list) ge_int ge_int) fun r G1 H' ⟨p, l, ws, er, hp, hl, hlp, s1, g1, g2, g3⟩ s2 => hq r G1 H' s1 s2 ⟨p, l, ns.take 63, er, hp, hl, ⟨0, 0, g1, Int.le_refl 0, Int.le_refl 0, Int.le_refl 0⟩, ?_, hlp, by rw [List.length_take]; omega⟩
    rw [show (63 : Int) = ((63 : Nat) : Int) from rfl, cut_take, ← List.map_take] at g3
    rw [RpAll.ints g3] at g2
    exact g2
def PostPk (p c : Addr) (n : Int) (bs : List V) (r : V) (G1 : Hp) : Prop := (∃ i : Nat, bs[i]? = some r) ∧ PenN G1 p c (n + 1)
def spPick : Sp := fun vs H Q _ => ∃ (p c : Addr) (cs : List Int) (n : Int) (l : Addr) (bs : List V), vs = [.ref p, .ref l] ∧ PenAt H p c cs n ∧ H l = some (.lst bs) ∧ l ≠ p ∧ 1 ≤ bs.length ∧ bs.length ≤ 1000 ∧ n ≤ 1000000 ∧ ∀ r G1 H', Core (fun x => x = p) H G1 → Same G1 H' → PostPk p c n bs r G1 → Q r H'
theorem sc_law_pick : FnScope ["_law_pen_here", "_law_bag"] ["_law_pen_here", "_law_bag"] (defScope s_law_pick) := ⟨rfl, rfl, rfl, by decide +kernel, rfl, by decide +kernel, by decide +kernel⟩
theorem c_law_pick (T : Tx K mg) : Cal P w K mg base "_law_pick" ["_law_pen_here", "_law_bag"] 2 spPick := by
  refine cal_make (N := ["_law_pen_here", "_law_bag"]) (st := s_law_pick) (k := 1) T.g_law_pick T.f_law_pick sc_law_pick (fun _ _ _ _ _ _ us hl => match us, hl with | [_, _], _ => rfl) ?_ ?_
  · rintro vs H Q E ⟨p, c, cs, n, l, bs, rfl, _⟩; rfl
  · rintro cdv A outer s H vs Q E C ⟨p, c, cs, n, l, bs, rfl, hpen, hl, hlp, b1, b2, hn, hq⟩
    refine (?_ : GS _ H ([.v (.ref p), .v (.ref l)] ++ []) _ _) _ _ (fm_start (as := [.v (.ref p), .v (.ref l)]) ⟨_, _, rfl, rfl, _, _, rfl, rfl, rfl⟩ (Nat.le_of_ble_eq_true rfl))
    refine gs_retY (gy_ixS (Φ := fun r G' => Core (fun x => x = p) H G' ∧ (∃ i : Nat, bs[i]? = some r) ∧ PenAt G' p c cs (n + 1)) (gv_var 1 rfl (fun q => by cases q)) (gy_draw (many := ((bs.length : Nat) : Int)) T C.hr (gv_var 0 rfl (fun q => by cases q)) (ge_lenR (gv_var 1 rfl (fun q => by cases q)) hl T.z_len) hpen hn (by omega) (by omega) rfl) fun v G' ⟨c1, i, ev, i0, i1, hp⟩ => ?_) fun r G1 H' ⟨c1, hi, hp⟩ s1 => hq r G1 H' c1 s1 ⟨hi, hp.pn⟩
    obtain ⟨jn, rfl⟩ : ∃ jn : Nat, i = (jn : Int) := ⟨i.toNat, by omega⟩
    have hj : jn < bs.length := by omega
    exact ⟨jn, bs, bs[jn], ev, c1 _ _ hl hlp, atI_nat (List.getElem?_eq_getElem hj), c1, ⟨jn, List.getElem?_eq_getElem hj⟩, hp⟩
end
section
variable {X : Cx} {G : Hp} {Γ : List AV} {o e : Expr} {pos np : Pos} {p c : Addr} {cs : List Int} {n : Int} {R : List Nat}
theorem gy_drawn (T : Tx X.K X.mg) (hr : Room 2 X.A) (ho : GV X G Γ o (.v (.ref p))) (he : GE X G Γ e (.tup (lockD R))) (ok : Ok24 R) (hR : R.length ≤ 60) (hp : PenAt G p c cs n) (hn : n ≤ 900000) (nb : noBw Γ = true)
    (hg : Gl X "_law_drawn" := by rfl) (hst1 : starEach [o, e] X.env = (false, eval o X.env) :: starEach [e] X.env := by rfl) (hst2 : starEach [e] X.env = (false, eval e X.env) :: starEach [] X.env := by rfl) (hpl : (backTo pos (starEach [e] X.env)).any (·.1) = false := by rfl) :
    GY X G Γ (.Call (.Name "_law_drawn" np) [o, e] [] pos) (fun r G' => Core (fun x => x = p) G G' ∧ ∃ v : List Int, Wd R v ∧ Rp X.K G' (ti v) r ∧ PenAt G' p c cs (n + 60)) := by
  refine GY.imp (gy_cal (Z := fun x => x = p) (as := [.v (.ref p), .d (.tup (lockD R))]) (post := fun r _ G1 => PostDr X.K R p c n r G1) (c_law_drawn T) hr (ga_cons ho (gac1 he hst2) hst1) (zok_nb hp.znb nb) (fun vs H Q s ⟨v1, r1, ev, e1, v2, r2, er, e2, er2⟩ hq => ?_) (fun v H G1 G2 t ⟨i, h1, h2, h3⟩ => ⟨i, h1, h2.mono t.tps, h3.tra (Z := fun x => x = p) rfl t⟩) hg (by decide) hst1 hpl) fun r G' ⟨c1, H, s, i, h1, h2, h3⟩ => ⟨c1, i, h1, h2, hp.next c1 h3⟩
  subst ev; subst er; subst er2
  have e1' : v1 = .ref p := e1
  subst e1'
  exact ⟨R, p, c, cs, n, v2, rfl, e2, ok, hR, hp.same s, hn, hq⟩
end
theorem exV_ends {R : List Nat} (ok : Ok24 R) : exV R (E0 R) (E1 R) = Nn R - 1 ∧ exV R (E1 R) (E0 R) = Nn R - 1 := by
  have h := Nn_pos ok
  unfold exV dst
  rw [pos_E0, pos_E1 ok]
  constructor
  · rw [if_pos (by omega)]; omega
  · split <;> omega
theorem sh_four (x y : List Int) (a b : Int) : Sh (.tup [ti x, ti y, .int a, .int b]) := sh_of (by
  show D.soks [ti x, ti y, .int a, .int b] = true
  rw [D.soks, D.soks, ti_sok, ti_sok]; rfl) (by
  show D.deps [ti x, ti y, .int a, .int b] + 1 ≤ 60
  rw [D.deps, D.deps, ti_dep, ti_dep]; exact Nat.le_of_ble_eq_true rfl)
theorem sh_two (x y : List Int) : Sh (.tup [ti x, ti y]) := sh_of (by
  show D.soks [ti x, ti y] = true
  rw [D.soks, D.soks, ti_sok, ti_sok]; rfl) (by
  show D.deps [ti x, ti y] + 1 ≤ 60
  rw [D.deps, D.deps, ti_dep, ti_dep]; exact Nat.le_of_ble_eq_true rfl)
section
variable {P : Program} {w : World} {K : PySem.W.Frag} {mg : Str → Option Value} {base : Heap}
def PostG (p c : Addr) (n : Int) (r : V) (G1 : Hp) : Prop := r = .bl true ∧ PenN G1 p c (n + 300)
def spGreat (K : PySem.W.Frag) : Sp := fun vs H Q _ => ∃ (R : List Nat) (p c : Addr) (cs : List Int) (n : Int), ArgsOk K H [.v (.ref p), .d (.tup (lockD R)), .d (ti (E0 R)), .d (ti (E1 R))] vs ∧ Ok24 R ∧ 1 ≤ R.length ∧ R.length ≤ 60 ∧ PenAt H p c cs n ∧ n ≤ 800000 ∧ ∀ r G1 H', Core (fun x => x = p) H G1 → Same G1 H' → PostG p c n r G1 → Q r H'
theorem sc_great : FnScope ["_law_pen_here", "_law_lock", "_law_one", "_law_other", "_law_many", "_law_weighed_so", "_law_turn", "_law_word"] ["_law_pen_here", "_law_lock", "_law_one", "_law_other"] (defScope s_law_is_great_row) := ⟨rfl, rfl, rfl, by decide +kernel, rfl, by decide +kernel, by decide +kernel⟩
theorem c_great (T : Tx K mg) : Cal P w K mg base "_law_is_great_row" ["_law_pen_here", "_law_lock", "_law_one", "_law_other"] 311 (spGreat K) := by
  refine cal_make (N := ["_law_pen_here", "_law_lock", "_law_one", "_law_other", "_law_many", "_law_weighed_so", "_law_turn", "_law_word"]) (st := s_law_is_great_row) (k := 310) T.g_law_is_great_row T.f_law_is_great_row sc_great (fun _ _ _ _ _ _ us hl => match us, hl with | [_, _, _, _], _ => rfl) ?_ ?_
  · rintro vs H Q E ⟨R, p, c, cs, n, h, _⟩; exact h.length
  · rintro cdv A outer s H vs Q E C ⟨R, p, c, cs, n, ha, ok, l1, hR, hpen, hn, hq⟩
    refine (?_ : GS _ H ([.v (.ref p), .d (.tup (lockD R)), .d (ti (E0 R)), .d (ti (E1 R))] ++ [.no, .no, .no, .no]) _ _) _ _ (fm_start ha (Nat.le_of_ble_eq_true rfl))
    obtain ⟨x1, x2⟩ := exV_ends ok
    have n0 : Nd R (E0 R) := Ends2.nd ok (.inl rfl)
    have n1 : Nd R (E1 R) := Ends2.nd ok (.inr rfl)
    refine gs_set C 4 (ge_sub (ge_call (c_law_all T) (C.hr.mono (by decide)) (gac1 (ge_var (x := .tup (lockD R)) 1)) ⟨R, rfl, ok, rfl⟩) ge_int) ?_
    refine gs_unless (GW.t (k0 := false || false) (gw_or (gt_of (gt_nei C (ge_call (c_least T) (C.hr.mono (by decide)) (gac (ge_var (x := .tup (lockD R)) 1) (gac1 (ge_tup (ds := [ti (E0 R), ti (E1 R)]) (gac (ge_var 2) (gac1 (ge_var 3)))))) ⟨R, E0 R, E1 R, rfl, l1, hR, ok, n0, .inr rfl, rfl⟩) (ge_var (x := .int (Nn R - 1)) 4)) (by rw [x1, decide_eq_true rfl]; rfl)) fun _ => gw_or1 (gt_of (gt_nei C (ge_call (c_least T) (C.hr.mono (by decide)) (gac (ge_var (x := .tup (lockD R)) 1) (gac1 (ge_tup (ds := [ti (E1 R), ti (E0 R)]) (gac (ge_var 3) (gac1 (ge_var 2)))))) ⟨R, E1 R, E0 R, rfl, l1, hR, ok, n1, .inl rfl, rfl⟩) (ge_var (x := .int (Nn R - 1)) 4)) (by rw [x2, decide_eq_true rfl]; rfl)))) ?_
    refine gs_set C 5 (d := tD (E0 R, E1 R, Nn R - 1)) (ge_of (ge_weighed (R := R) (x := E0 R) (y := E1 R) T (C.hr.mono (by decide)) (ge_var (x := .tup (lockD R)) 1) (ge_var (x := .tup (lockD R)) 1) (ge_tup (ds := [ti (E0 R), ti (E1 R)]) (gac (ge_var 2) (gac1 (ge_var 3)))) l1 hR ok n0 (.inr rfl)) (by rw [x1])) ?_
    refine gs_unless (gt_of (gt_ne' (x := tD (E0 R, E1 R, Nn R - 1)) (y := .tup [ti (E0 R), ti (E1 R), .int (Nn R - 1), .int (Nn R - 1)]) C (ge_var 5) (ge_tup (ds := [ti (E0 R), ti (E1 R), .int (Nn R - 1), .int (Nn R - 1)]) (gac (ge_var 2) (gac (ge_var 3) (gac (ge_var 4) (gac1 (ge_var 4)))))) (sh_four _ _ _ _) (sh_four _ _ _ _)) (by
      show (!D.eqv (tD (E0 R, E1 R, Nn R - 1)) (tD (E0 R, E1 R, Nn R - 1))) = false
      rw [D.eqv_self]; rfl)) ?_
    refine gs_forX (els := rng 0 ((5 : Int)).toNat) C (js := [6]) (fun d Γ => Γ.set 6 (.d d)) (fun x => x = p) (fun Hc i G Γ' => Γ' = [.v (.ref p), .d (.tup (lockD R)), .d (ti (E0 R)), .d (ti (E1 R)), .d (.int (Nn R - 1)), .d (tD (E0 R, E1 R, Nn R - 1)), .no, .no] ∧ Core (fun x => x = p) H G ∧ PenAt G p c cs (n + 60 * (i : Nat))) (gi_range1 ge_int T.z_range (by decide) (by decide)) ?_ (zok_nb hpen.znb rfl) ?_ ?_ ?_
    · intro i d hd
      exact tg_name C 6
    · intro Hc G core s1 s2 hz
      exact ⟨rfl, Core.of s1, (hpen.more (by omega)).same s1⟩
    · intro Hc core hz i d hd G Γ' cg ⟨eΓ, cH, hp⟩
      subst eΓ
      have hi : i < 5 := by
        have := (List.getElem?_eq_some_iff.mp hd).1
        rw [rng_len] at this
        exact this
      refine gs_setY C 7 (gy_drawn T (C.hr.mono (by decide)) (gv_var 0 rfl (fun q => by cases q)) (ge_var (x := .tup (lockD R)) 1) ok hR hp (by omega) rfl) fun v G2 ⟨c2, w', hw, hr, hp2⟩ => ⟨.d (ti w'), hr, ?_⟩
      refine gs_unless (gt_of (gt_nei C (ge_lenL (ds := stepsD R w') (GL.rd (gl_call (c_can_step T) (C.hr.mono (by decide)) (gac (ge_var (x := .tup (lockD R)) 1) (gac1 (ge_var (x := ti w') 7))) ⟨R, w', rfl, l1, hR, ok, hw, rfl⟩)) T.z_len) (ge_sub ge_int (ge_intb (ge_cmp (op_inT C.hu) (d_inT (x := ti w') (ys := [ti (E0 R), ti (E1 R)]) (ti_sh _) (sh_two _ _)) (gd_var (x := ti w') 7) (GE.val (ge_tup (ds := [ti (E0 R), ti (E1 R)]) (gac (ge_var 2) (gac1 (ge_var 3)))))) T.z_int))) ?_) ?_
      · rw [stepsD_count ok hw, List.any_cons, List.any_cons, List.any_nil, ti_eqv, ti_eqv]
        have hne := ends_ne ok l1
        by_cases h0 : w' = E0 R
        · rw [if_pos h0, if_neg (show ¬ w' = E1 R from fun z => hne (h0.symm.trans z)), decide_eq_true (show E0 R = w' from h0.symm)]; rfl
        · by_cases h1 : w' = E1 R
          · rw [if_neg h0, if_pos h1, decide_eq_true (show E1 R = w' from h1.symm), decide_eq_false (show ¬ E0 R = w' from fun z => h0 z.symm)]; rfl
          · rw [if_neg h0, if_neg h1, decide_eq_false (show ¬ E0 R = w' from fun z => h0 z.symm), decide_eq_false (show ¬ E1 R = w' from fun z => h1 z.symm)]; rfl
      · refine gs_nil fun σ H2 F => ⟨G2, _, fun y o q => c2 y o (cg _ _ q) fun z => (by rw [z, hz p rfl] at q; cases q), ⟨rfl, cH.trans c2, ?_⟩, F.weak ⟨.inr rfl, .inr rfl, .inr rfl, .inr rfl, .inr rfl, .inr rfl, .inl rfl, .inl rfl, trivial⟩⟩
        rw [show n + 60 * ((i + 1 : Nat) : Int) = n + 60 * (i : Nat) + 60 by omega]
        exact hp2
    · intro Hc core hz G Γ' cg ⟨eΓ, cH, hp⟩
      subst eΓ
      refine gs_retY (gy_of (ge_bl (i := true))) fun r G1 H' ⟨s1, r1⟩ s2 => hq r G1 H' (cH.then s1) s2 ⟨r1, ?_⟩
      have := (hp.same s1).pn
      rw [rng_len] at this
      exact this
end
end WB
namespace WB
open PySem PySem.Spec PyProof.Rows L2
/-! ### rules for the law's own text -/
theorem rpAll_rep {K : PySem.W.Frag} {H : Hp} {xs : List D} {vs : List V} (h : RpAll K H xs vs) : ∀ n : Nat, RpAll K H (List.replicate n xs).flatten (List.replicate n vs).flatten
  | 0 => rfl
  | n + 1 => by
    rw [List.replicate_succ, List.replicate_succ, List.flatten_cons, List.flatten_cons]
    exact RpAll.append (rpAll_rep h n) h
section
variable {X : Cx} {G H0 : Hp} {Γ : List AV} {a b c e e1 e2 e3 e4 e5 e6 iter tg o : Expr} {es : List Expr} {pos p1 p2 np : Pos} {i j : Int} {xs ys els : List D} {d d2 d3 d4 d5 d6 : D} {n : Str} {k : Nat} {sts sa body : List Stmt} {E : Ends} {Ψ Φ : V → Hp → Prop} {x1 : V}
/-- [..] * k -/
theorem gl_rep (ha : GL X G Γ a xs) (hb : GE X G Γ b (.int i)) (h0 : 0 ≤ i) (h1 : i ≤ 1000) (hl : xs.length ≤ 10) : GL X G Γ (.BinOp a .Mult b pos) (List.replicate i.toNat xs).flatten := fun σ H Q F kq => by
  refine er_of (pe_op op_rep pe_self pe_self) ?_
  refine ha σ H _ F fun l ws H1 hl1 s1 hw r1 => ?_
  refine hb σ H1 _ (F.same s1) fun v H2 s2 q2 => ?_
  have ev : v = .int i := q2
  subst ev
  have hln := r1.length
  refine ⟨l, i, ws, rfl, rfl, s2 _ _ hw, by omega, by omega, ?_, fun p hp => ?_⟩
  · rw [hln]
    have : xs.length * i.toNat ≤ 10 * 1000 := Nat.mul_le_mul hl (by omega)
    exact Nat.le_trans this (by decide)
  · have e4 : Same H2 (upd H2 p (.lst (List.replicate i.toNat ws).flatten)) := fun b o q => by rw [upd_ne (ne_of_none q hp)]; exact q
    exact kq p _ _ ((s1.trans s2).free hp) (s1.trans (s2.trans e4)) upd_same ((rpAll_rep r1 _).mono (Same.tup (s2.trans e4)))
/-- [e1, e2, e3], each changing things -/
theorem gy_lst3Y {Ψ1 : V → Hp → Prop} {Ψ2 : V → V → Hp → Prop} {Ψ3 : V → V → V → Hp → Prop} (h1 : GY X G Γ e1 Ψ1) (h2 : ∀ v1 G1, Ψ1 v1 G1 → GY X G1 Γ e2 (Ψ2 v1)) (h3 : ∀ v1 v2 G2, Ψ2 v1 v2 G2 → GY X G2 Γ e3 (Ψ3 v1 v2)) (hs1 : starEach [e1, e2, e3] X.env = (false, eval e1 X.env) :: starEach [e2, e3] X.env := by rfl) (hs2 : starEach [e2, e3] X.env = (false, eval e2 X.env) :: starEach [e3] X.env := by rfl) (hs3 : starEach [e3] X.env = (false, eval e3 X.env) :: starEach [] X.env := by rfl) :
    GY X G Γ (.List [e1, e2, e3] pos) (fun r G' => ∃ v1 v2 v3 G3 l, r = .ref l ∧ Ψ3 v1 v2 v3 G3 ∧ G3 l = none ∧ Same G3 G' ∧ G' l = some (.lst [v1, v2, v3])) := fun σ H Q F kq => by
  refine er_of (pe_lst (pa_cons pe_self (pa_cons pe_self (pa_cons pe_self pa_nil hs3) hs2) hs1)) ?_
  refine h1 σ H _ F fun v1 H1 G1 q1 F1 => ?_
  refine h2 v1 G1 q1 σ H1 _ F1 fun v2 H2 G2 q2 F2 => ?_
  refine h3 v1 v2 G2 q2 σ H2 _ F2 fun v3 H3 G3 q3 F3 => ?_
  refine ⟨Nat.le_of_lt (small1000 (show [v1, v2, v3].length ≤ 1000 from Nat.le_of_ble_eq_true rfl)), fun p hp => ?_⟩
  have e4 : Same H3 (upd H3 p (.lst [v1, v2, v3])) := fun b o q => by rw [upd_ne (ne_of_none q hp)]; exact q
  obtain ⟨G', g0, g1, F', hall, ts⟩ := (F3.same e4).full
  exact kq _ _ G' ⟨v1, v2, v3, G3, p, rfl, q3, F3.ex.free hp, g0, hall p _ upd_same fun ⟨j, zs, h3, h4⟩ => F3.own_ne hp j zs h3 h4⟩ F'
/-- for over a list that a state-changing expression gave; the body changes things -/
theorem gs_forY (C : Cok X k) {js : List Nat} (u : D → List AV → List AV) (Z : Addr → Prop) (J : Hp → Nat → Hp → List AV → Prop) (hi : GY X H0 Γ iter Ψ)
    (h : ∀ v G', Ψ v G' → ∃ (l : Addr) (vs : List V) (els : List D), v = .ref l ∧ G' l = some (.lst vs) ∧ RpAll X.K G' els vs ∧ ¬ Z l ∧ (∀ (i : Nat) (d : D), els[i]? = some d → TgOk X tg js d (u d)) ∧ ZNb G' Z ∧
      (∀ Hc G, Core Z G' Hc → Same G' G → Same Hc G → (∀ a, Z a → Hc a = none) → J Hc 0 G Γ) ∧
      (∀ Hc, Core Z G' Hc → (∀ a, Z a → Hc a = none) → ∀ (i : Nat) (d : D), els[i]? = some d → ∀ G Γ', Same Hc G → J Hc i G Γ' → GS X G (u d Γ') body (forE X Hc (J Hc (i + 1)) sts E)) ∧
      (∀ Hc, Core Z G' Hc → (∀ a, Z a → Hc a = none) → ∀ G Γ', Same Hc G → J Hc els.length G Γ' → GS X G Γ' sts E)) (nb : noBw Γ = true) (hs : ∀ x, foldedSetIterable iter X.env x = pure x := by intro _; rfl) : GS X H0 Γ (.For tg iter body [] pos :: sts) E := fun σ H F => by
  classical
  refine sr_cons (s1_of (ps_for C.hp C.hc (pi_list pe_self) pg_self pss_self hs) ?_)
  refine hi σ H _ F fun v H1 G' q F1 => ?_
  obtain ⟨l, vs, els, ev, hl, hr, nz, ht, hZ, h0, hb, hend⟩ := h v G' q
  refine ⟨l, ev, ⟨vs, SqL.of (F1.ex _ _ hl)⟩, ?_⟩
  obtain ⟨Hb, s0, sb, Fb, hall, hown, _⟩ := F1.rebase
  let Hc : Hp := fun a => if Z a then none else Hb a
  have cb : Same Hc Hb := fun a o e => by
    have e' : (if Z a then none else Hb a) = some o := e
    split at e'
    · cases e'
    · exact e'
  have core : Core Z G' Hc := fun a o e n => by
    show (if Z a then none else Hb a) = some o
    rw [if_neg n]; exact s0 a o e
  have cz : ∀ a, Z a → Hc a = none := fun a h => if_pos h
  have hcl : Hc l = some (.lst vs) := core l _ hl nz
  have tp : Tps X.K G' Hc := fun a xs hx => by
    rcases hx with (hx | ⟨o, hx⟩) | hx
    · exact .inl (.inl (core a _ hx fun z => by
        obtain ⟨o', q1, q2, q3⟩ := hZ a z
        rw [hx] at q1; exact q2 xs (Option.some.inj q1).symm))
    · exact .inl (.inr ⟨o, core a _ hx fun z => by
        obtain ⟨o', q1, q2, q3⟩ := hZ a z
        rw [hx] at q1; exact q3 o _ (Option.some.inj q1).symm⟩)
    · exact .inr hx
  have rc := hr.mono tp
  have hln := hr.length
  have ok : ItOk X.K Hc (Itl X.K l) els := by
    refine ⟨fun i H' hi e' => ⟨vs, vs[i]'(by omega), SqL.of (e' _ _ hcl), List.getElem?_eq_getElem (by omega)⟩, fun H' e' => ⟨vs, SqL.of (e' _ _ hcl), by omega⟩, fun i x H' H'' hi e' hy => ?_⟩
    obtain ⟨e3, hy⟩ := hy
    subst e3
    obtain ⟨d, hd, hrd⟩ := rc.get' (hy vs (SqL.of (e' _ _ hcl)))
    exact ⟨Same.refl _, d, hd, hrd.mono (Same.tup e')⟩
  refine ⟨fun i m σ' H' => m = els.length - i ∧ i ≤ els.length ∧ ∃ G Γ', Same Hc G ∧ J Hc i G Γ' ∧ Fm X.K G σ' Γ' H', ⟨els.length, by simp, Nat.zero_le _, Hb, Γ, cb, h0 Hc Hb core s0 cb cz, Fb⟩, ?_⟩
  rintro i m σ' H' ⟨rfl, hi, G, Γ', cg, j, F'⟩
  by_cases hlt : i < els.length
  · refine .inr ⟨ok.go i H' hlt (cg.trans F'.ex), fun σ2 H2 => ∃ G Γ', Same Hc G ∧ J Hc (i + 1) G Γ' ∧ Fm X.K G σ2 Γ' H2, fun σ2 H2 p => ⟨els.length - (i + 1), by omega, rfl, hlt, p⟩, fun x H'' hy => ?_⟩
    obtain ⟨e2, d, hd, hr'⟩ := ok.yld i x H' H'' hlt (cg.trans F'.ex) hy
    exact ht i d hd G Γ' σ' H'' x _ (F'.same e2) hr' fun σ2 _ _ F2 => hb Hc core cz i d hd G Γ' cg j σ2 H'' F2
  · have ei : i = els.length := by omega
    subst ei
    exact .inl ⟨ok.stop H' (cg.trans F'.ex), hend Hc core cz G Γ' cg j σ' H' F'⟩
/-- a, b = [..], e -/
theorem gs_parLD (C : Cok X k) (i j : Nat) {n1 n2 : Str} {q1 q2 q3 q4 : Pos} {k1 k2 : Nat} (ha : GL X G Γ a xs) (hb : GE X G Γ b d) (h : GS X G ((Γ.set i (.own xs)).set j (.d d)) sts E) (hi : X.N[i]? = some n1 := by rfl) (hj : X.N[j]? = some n2 := by rfl) (hij : i ≠ j := by decide)
    (hx : X.env.scope.names.lookup n1 = some .local := by rfl) (hy : X.env.scope.names.lookup n2 = some .local := by rfl) (hsa : starEach [a, b] X.env = (false, eval a X.env) :: starEach [b] X.env := by rfl) (hsb : starEach [b] X.env = (false, eval b X.env) :: starEach [] X.env := by rfl)
    (hw : swappedStores [.Tuple [.Name n1 q1, .Name n2 q2] k1 q3] (.Tuple [a, b] k2 q4) X.env = pure (some [n1, n2]) := by rfl)
    (hs : swapsWithSole [.Tuple [.Name n1 q1, .Name n2 q2] k1 q3] (.Tuple [a, b] k2 q4) pos.line X.env = pure false := by rfl) :
    GS X G Γ (.Assign [.Tuple [.Name n1 q1, .Name n2 q2] k1 q3] (.Tuple [a, b] k2 q4) pos :: sts) E := fun σ H F => by
  refine sr_cons (s1_of (ps_par C.hc C.nd hi hj hij hx hy (pa_cons pe_self (pa_cons pe_self pa_nil hsb) hsa) hw hs) ?_)
  refine ha σ H _ F fun l ws H1 hl s1 h1 r1 => ?_
  refine hb σ H1 _ (F.same s1) fun w H2 e2 r2 => ⟨.ref l, w, rfl, ?_⟩
  have F2 : Fm X.K G (σ.set i (some (.ref l))) (Γ.set i (.own xs)) H2 := F.set_own hl (s1.trans e2) (e2 _ _ h1) (r1.mono (Same.tup e2))
  exact h _ _ (F2.set_d r2)
/-- a, b = e, f, both changing things -/
theorem gs_parYY (C : Cok X k) (i j : Nat) {n1 n2 : Str} {q1 q2 q3 q4 : Pos} {k1 k2 : Nat} {Ψ2 : V → V → Hp → Prop} (ha : GY X G Γ a Ψ) (hb : ∀ v G', Ψ v G' → GY X G' Γ b (Ψ2 v)) (h : ∀ v w G', Ψ2 v w G' → ∃ d1 d2, Rp X.K G' d1 v ∧ Rp X.K G' d2 w ∧ GS X G' ((Γ.set i (.d d1)).set j (.d d2)) sts E) (hi : X.N[i]? = some n1 := by rfl) (hj : X.N[j]? = some n2 := by rfl) (hij : i ≠ j := by decide)
    (hx : X.env.scope.names.lookup n1 = some .local := by rfl) (hy : X.env.scope.names.lookup n2 = some .local := by rfl) (hsa : starEach [a, b] X.env = (false, eval a X.env) :: starEach [b] X.env := by rfl) (hsb : starEach [b] X.env = (false, eval b X.env) :: starEach [] X.env := by rfl)
    (hw : swappedStores [.Tuple [.Name n1 q1, .Name n2 q2] k1 q3] (.Tuple [a, b] k2 q4) X.env = pure (some [n1, n2]) := by rfl)
    (hs : swapsWithSole [.Tuple [.Name n1 q1, .Name n2 q2] k1 q3] (.Tuple [a, b] k2 q4) pos.line X.env = pure false := by rfl) :
    GS X G Γ (.Assign [.Tuple [.Name n1 q1, .Name n2 q2] k1 q3] (.Tuple [a, b] k2 q4) pos :: sts) E := fun σ H F => by
  refine sr_cons (s1_of (ps_par C.hc C.nd hi hj hij hx hy (pa_cons pe_self (pa_cons pe_self pa_nil hsb) hsa) hw hs) ?_)
  refine ha σ H _ F fun v H1 G' q F' => ?_
  refine hb v G' q σ H1 _ F' fun w H2 G2 q2 F2 => ⟨v, w, rfl, ?_⟩
  obtain ⟨d1, d2, r1, r2, hg⟩ := h v w G2 q2
  exact hg _ _ ((F2.set_d (r1.mono (Same.tup F2.ex))).set_d (r2.mono (Same.tup F2.ex)))
/-- not e, e changing things -/
theorem gty_notV (he : GY X G Γ e Ψ) (h : ∀ v G', Ψ v G' → v = .bl true) (ht : ∀ whole, isTrue e X.env whole = (do let v ← whole; standAt e.pos; holding [v] (truthy v)) := by intro _; rfl) : GTY X G Γ (.UnaryOp .Not e pos) (fun b0 G' => b0 = false ∧ ∃ v, Ψ v G') := fun σ H Q F kq => by
  refine tr_of (pt_not pt_self) ?_
  refine tr_of (pt_val pe_self ht) ?_
  refine he σ H _ F fun v H1 G' q F' => ?_
  have ev := h v G' q
  exact ⟨true, ev, kq false H1 G' ⟨rfl, v, q⟩ F'⟩
theorem gs_unlessY {Φ0 : Bool → Hp → Prop} (h : GTY X G Γ c Φ0) (hk : ∀ b0 G', Φ0 b0 G' → b0 = false ∧ GS X G' Γ sts E) : GS X G Γ (.If c sa [] pos :: sts) E := gs_ifY h fun k0 G' q => ⟨fun z => (by rw [(hk k0 G' q).1] at z; cases z), fun _ => gs_end (hk k0 G' q).2⟩
/-- _law_is_refused(e) -/
theorem ge_refused (T : TxE X.K X.mg) (hr : Room 6 X.A) {x : AV} (ha : GV X G Γ e x) (hb : BadA x) (hg : Gl X "_law_is_refused" := by rfl) (hst : starEach [e] X.env = (false, eval e X.env) :: starEach [] X.env := by rfl) (hpl : (backTo pos (starEach [] X.env)).any (·.1) = false := by rfl) : GE X G Γ (.Call (.Name "_law_is_refused" np) [e] [] pos) (.bl true) := fun σ H Q F kq => by
  obtain ⟨f, fd, Fn, hm, hk, hbd⟩ := (c_refused (P := X.prog) (w := X.w) (base := X.base) T).ex
  refine er_of (pe_call Fn hr hg hm hk hbd .nil pass0 (pa_cons pe_self pa_nil hst) (by decide) hst hpl) ?_
  refine ha σ H _ F fun v H1 e1 r1 => ?_
  exact ⟨x, ⟨v, [], rfl, r1, rfl⟩, hb, fun H2 e2 => kq _ H2 (e1.trans e2) rfl⟩
/-- .. e changing things -/
theorem gy_refused (T : TxE X.K X.mg) (hr : Room 6 X.A) (ha : GY X G Γ e Ψ) (hb : ∀ v G', Ψ v G' → ∃ x, ArgOk X.K G' x v ∧ BadA x) (hg : Gl X "_law_is_refused" := by rfl) (hst : starEach [e] X.env = (false, eval e X.env) :: starEach [] X.env := by rfl) (hpl : (backTo pos (starEach [] X.env)).any (·.1) = false := by rfl) : GY X G Γ (.Call (.Name "_law_is_refused" np) [e] [] pos) (fun r G' => r = .bl true ∧ ∃ v, Ψ v G') := fun σ H Q F kq => by
  obtain ⟨f, fd, Fn, hm, hk, hbd⟩ := (c_refused (P := X.prog) (w := X.w) (base := X.base) T).ex
  refine er_of (pe_call Fn hr hg hm hk hbd .nil pass0 (pa_cons pe_self pa_nil hst) (by decide) hst hpl) ?_
  refine ha σ H _ F fun v H1 G' q F' => ?_
  obtain ⟨x, r1, hx⟩ := hb v G' q
  exact ⟨x, ⟨v, [], rfl, r1.same F'.ex, rfl⟩, hx, fun H2 e2 => kq _ H2 G' ⟨rfl, v, q⟩ (F'.same e2)⟩
/-- [e1, .., e6]: two lists, data -/
theorem gy_lst6 (h1 : GL X G Γ e1 xs) (h2 : GL X G Γ e2 ys) (h3 : GE X G Γ e3 d3) (h4 : GE X G Γ e4 d4) (h5 : GE X G Γ e5 d5) (h6 : GE X G Γ e6 d6) (hs1 : starEach [e1, e2, e3, e4, e5, e6] X.env = (false, eval e1 X.env) :: starEach [e2, e3, e4, e5, e6] X.env := by rfl) (hs2 : starEach [e2, e3, e4, e5, e6] X.env = (false, eval e2 X.env) :: starEach [e3, e4, e5, e6] X.env := by rfl) (hs3 : starEach [e3, e4, e5, e6] X.env = (false, eval e3 X.env) :: starEach [e4, e5, e6] X.env := by rfl) (hs4 : starEach [e4, e5, e6] X.env = (false, eval e4 X.env) :: starEach [e5, e6] X.env := by rfl) (hs5 : starEach [e5, e6] X.env = (false, eval e5 X.env) :: starEach [e6] X.env := by rfl) (hs6 : starEach [e6] X.env = (false, eval e6 X.env) :: starEach [] X.env := by rfl) :
    GY X G Γ (.List [e1, e2, e3, e4, e5, e6] pos) (fun r G' => ∃ (p l1 l2 : Addr) (w1 w2 : List V) (v3 v4 v5 v6 : V), r = .ref p ∧ G p = none ∧ Same G G' ∧ G' p = some (.lst [.ref l1, .ref l2, v3, v4, v5, v6]) ∧ G' l1 = some (.lst w1) ∧ RpAll X.K G' xs w1 ∧ G' l2 = some (.lst w2) ∧ RpAll X.K G' ys w2 ∧ Rp X.K G' d3 v3 ∧ Rp X.K G' d4 v4 ∧ Rp X.K G' d5 v5 ∧ Rp X.K G' d6 v6 ∧ G l1 = none ∧ G l2 = none) := fun σ H Q F kq => by
  refine er_of (pe_lst (pa_cons pe_self (pa_cons pe_self (pa_cons pe_self (pa_cons pe_self (pa_cons pe_self (pa_cons pe_self pa_nil hs6) hs5) hs4) hs3) hs2) hs1)) ?_
  refine h1 σ H _ F fun l1 w1 H1 hl1 s1 g1 r1 => ?_
  refine h2 σ H1 _ (F.same s1) fun l2 w2 H2 hl2 s2 g2 r2 => ?_
  refine h3 σ H2 _ (F.same (s1.trans s2)) fun v3 H3 s3 r3 => ?_
  refine h4 σ H3 _ (F.same (s1.trans (s2.trans s3))) fun v4 H4 s4 r4 => ?_
  refine h5 σ H4 _ (F.same (s1.trans (s2.trans (s3.trans s4)))) fun v5 H5 s5 r5 => ?_
  refine h6 σ H5 _ (F.same (s1.trans (s2.trans (s3.trans (s4.trans s5))))) fun v6 H6 s6 r6 => ?_
  refine ⟨Nat.le_of_lt (small1000 (show [V.ref l1, V.ref l2, v3, v4, v5, v6].length ≤ 1000 from Nat.le_of_ble_eq_true rfl)), fun p hp => ?_⟩
  have e7 : Same H6 (upd H6 p (.lst [.ref l1, .ref l2, v3, v4, v5, v6])) := fun b o q => by rw [upd_ne (ne_of_none q hp)]; exact q
  have s67 := s6.trans e7
  have s57 := s5.trans s67
  have s47 := s4.trans s57
  have s37 := s3.trans s47
  have s27 := s2.trans s37
  have s17 := s1.trans s27
  have hpH : H p = none := (s1.trans (s2.trans (s3.trans (s4.trans (s5.trans s6))))).free hp
  have hl2H : H l2 = none := s1.free hl2
  obtain ⟨G', k0, k1, F', hall, ts⟩ := (F.same s17).full
  have no : ∀ {x : Addr}, H x = none → ¬ ownAt σ Γ x := fun hx ⟨j, zs, h3, h4⟩ => F.own_ne hx j zs h3 h4
  exact kq _ _ G' ⟨p, l1, l2, w1, w2, v3, v4, v5, v6, rfl, F.ex.free hpH, k0, hall p _ upd_same (no hpH), hall l1 _ (s27 _ _ g1) (no hl1), (r1.mono (Same.tup s27)).mono ts, hall l2 _ (s37 _ _ g2) (no hl2H), (r2.mono (Same.tup s37)).mono ts, (r3.mono (Same.tup s47)).mono ts, (r4.mono (Same.tup s57)).mono ts, (r5.mono (Same.tup s67)).mono ts, (r6.mono (Same.tup e7)).mono ts, F.ex.free hl1, F.ex.free hl2H⟩ F'
end
end WB
namespace WB
open PySem PySem.Spec PyProof.Rows L2
/-! ### the lock, bolt by bolt -/
def hdD : D → D
  | .tup (m :: _) => m
  | d => d
theorem lock_heads : ∀ R : List Nat, (lockD R).map hdD = R.reverse.map nD
  | [] => rfl
  | m :: rs => by
    rw [show lockD (m :: rs) = lockD rs ++ [boltD m rs] from rfl, List.map_append, lock_heads rs, List.reverse_cons, List.map_append]; rfl
theorem lock_mem : ∀ {R : List Nat} {d : D}, Ok24 R → d ∈ lockD R → ∃ (m : Nat) (rs : List Nat), d = boltD m rs ∧ Ok24 (m :: rs)
  | [], d, _, h => by cases h
  | m :: rs, d, ok, h => by
    rcases List.mem_append.mp (show d ∈ lockD rs ++ [boltD m rs] from h) with h | h
    · exact lock_mem ok.tl h
    · exact ⟨m, rs, List.mem_singleton.mp h, ok⟩
theorem sh_nats (ms : List Nat) : Sh (.tup (ms.map nD)) := by
  have : ms.map nD = (ms.map fun m : Nat => (m : Int)).map D.int := by rw [List.map_map]; rfl
  rw [this]; exact ti_sh _
theorem tps_pen {K : PySem.W.Frag} {G G2 : Hp} {p c : Addr} {cs : List Int} {n : Int} (h : PenAt G p c cs n) (core : Core (fun x => x = p) G G2) : Tps K G G2 := by
  obtain ⟨t, l, q, _⟩ := h.pn
  exact tps_d (fun ys e => by rw [q] at e; cases e) (fun ob ys e => by rw [q] at e; cases e) core
/-- the places that were drawn -/
structure Pl (K : PySem.W.Frag) (G : Hp) (L p : Addr) (ms : List Nat) : Prop where
  ex : ∃ acc, G L = some (.lst acc) ∧ RpAll K G (ms.map nD) acc
  ne : L ≠ p
theorem Pl.core {K : PySem.W.Frag} {G G2 : Hp} {L p c : Addr} {cs : List Int} {n : Int} {ms : List Nat} (h : Pl K G L p ms) (hp : PenAt G p c cs n) (core : Core (fun x => x = p) G G2) : Pl K G2 L p ms := by
  obtain ⟨acc, h1, h2⟩ := h.ex
  exact ⟨⟨acc, core _ _ h1 h.ne, h2.mono (tps_pen hp core)⟩, h.ne⟩
theorem Pl.same {K : PySem.W.Frag} {G G2 : Hp} {L p : Addr} {ms : List Nat} (h : Pl K G L p ms) (s : Same G G2) : Pl K G2 L p ms := by
  obtain ⟨acc, h1, h2⟩ := h.ex
  exact ⟨⟨acc, s _ _ h1, h2.mono (Same.tup s)⟩, h.ne⟩
section
variable {X : Cx} {G : Hp} {Γ : List AV} {o e : Expr} {pos np : Pos} {p c L : Addr} {cs : List Int} {n : Int} {ms : List Nat} {Ψ : V → Hp → Prop}
theorem Pl.rd (h : Pl X.K G L p ms) (ho : GV X G Γ o (.v (.ref L))) : GV X G Γ o (.bw (ms.map nD)) := by
  obtain ⟨acc, h1, h2⟩ := h.ex
  exact gb_fld ho h1 h2
/-- _law_pick(pen, e) -/
theorem gy_pick (T : Tx X.K X.mg) (hr : Room 2 X.A) (ho : GV X G Γ o (.v (.ref p))) (he : GY X G Γ e Ψ) (hk : ∀ v G1, Ψ v G1 → ∃ (l : Addr) (bs : List V), v = .ref l ∧ G1 l = some (.lst bs) ∧ l ≠ p ∧ 1 ≤ bs.length ∧ bs.length ≤ 1000 ∧ PenAt G1 p c cs n) (hn : n ≤ 1000000) (nb : noBw Γ = true)
    (hg : Gl X "_law_pick" := by rfl) (hst1 : starEach [o, e] X.env = (false, eval o X.env) :: starEach [e] X.env := by rfl) (hst2 : starEach [e] X.env = (false, eval e X.env) :: starEach [] X.env := by rfl) (hpl : (backTo pos (starEach [e] X.env)).any (·.1) = false := by rfl) :
    GY X G Γ (.Call (.Name "_law_pick" np) [o, e] [] pos) (fun r G' => ∃ (G1 : Hp) (l : Addr) (bs : List V), Ψ (.ref l) G1 ∧ G1 l = some (.lst bs) ∧ Core (fun x => x = p) G1 G' ∧ (∃ i : Nat, bs[i]? = some r) ∧ PenAt G' p c cs (n + 1)) := by
  refine gy_cal2 (c_law_pick T) hr ho he (fun v G1 q => ?_) hg (by decide) hst1 hst2 hpl
  obtain ⟨l, bs, ev, hl, hlp, b1, b2, hp⟩ := hk v G1 q
  subst ev
  refine ⟨fun x => x = p, fun r G2 => PostPk p c n bs r G2, zok_nb hp.znb nb, fun H Q s hq => ⟨p, c, cs, n, l, bs, rfl, hp.same s, s _ _ hl, hlp, b1, b2, hn, hq⟩, fun r H G1 G2 t ⟨h1, h2⟩ => ⟨h1, h2.tra (Z := fun x => x = p) rfl t⟩, fun r G2 c2 ⟨h1, h2⟩ => ⟨G1, l, bs, q, hl, c2, h1, hp.next c2 h2⟩⟩
theorem gy_great {R : List Nat} {e1 e2 e3 : Expr} (T : Tx X.K X.mg) (hr : Room 311 X.A) (ho : GV X G Γ o (.v (.ref p))) (h1 : GE X G Γ e1 (.tup (lockD R))) (h2 : GE X G Γ e2 (ti (E0 R))) (h3 : GE X G Γ e3 (ti (E1 R))) (ok : Ok24 R) (l1 : 1 ≤ R.length) (hR : R.length ≤ 60) (hp : PenAt G p c cs n) (hn : n ≤ 800000) (nb : noBw Γ = true)
    (hg : Gl X "_law_is_great_row" := by rfl) (hs1 : starEach [o, e1, e2, e3] X.env = (false, eval o X.env) :: starEach [e1, e2, e3] X.env := by rfl) (hs2 : starEach [e1, e2, e3] X.env = (false, eval e1 X.env) :: starEach [e2, e3] X.env := by rfl) (hs3 : starEach [e2, e3] X.env = (false, eval e2 X.env) :: starEach [e3] X.env := by rfl) (hs4 : starEach [e3] X.env = (false, eval e3 X.env) :: starEach [] X.env := by rfl) (hpl : (backTo pos (starEach [e1, e2, e3] X.env)).any (·.1) = false := by rfl) :
    GY X G Γ (.Call (.Name "_law_is_great_row" np) [o, e1, e2, e3] [] pos) (fun r G' => r = .bl true ∧ Core (fun x => x = p) G G' ∧ PenAt G' p c cs (n + 300)) := by
  refine GY.imp (gy_cal (Z := fun x => x = p) (as := [.v (.ref p), .d (.tup (lockD R)), .d (ti (E0 R)), .d (ti (E1 R))]) (post := fun r _ G1 => PostG p c n r G1) (c_great T) hr (ga_cons ho (gac h1 (gac h2 (gac1 h3 hs4) hs3) hs2) hs1) (zok_nb hp.znb nb) (fun vs H Q s ha hq => ⟨R, p, c, cs, n, ha, ok, l1, hR, hp.same s, hn, hq⟩) (fun v H G1 G2 t ⟨i, h⟩ => ⟨i, h.tra (Z := fun x => x = p) rfl t⟩) hg (by decide) hs1 hpl) fun r G' ⟨c1, H, s, i, h⟩ => ⟨i, c1, hp.next c1 h⟩
end
end WB
namespace WB
open PySem PySem.Spec PyProof.Rows L2
def bagD : List D := [.int 1, .int 5, .bl true, .non, .str "2", .tup [.int 2], .int (-1)]
theorem bag_bad : ∀ d ∈ bagD, fromB (.d d) 2 4 = false := by
  intro d hd
  have : d = .int 1 ∨ d = .int 5 ∨ d = .bl true ∨ d = .non ∨ d = .str "2" ∨ d = .tup [.int 2] ∨ d = .int (-1) := by simpa [bagD] using hd
  rcases this with rfl | rfl | rfl | rfl | rfl | rfl | rfl <;> rfl
section
variable {P : Program} {w : World} {K : PySem.W.Frag} {mg : Str → Option Value} {base : Heap}
def spLaw (K : PySem.W.Frag) : Sp := fun vs H Q _ => ∃ (a : Addr) (ns : List Int), vs = [.ref a] ∧ SqL K H a (ns.map V.int) ∧ ∀ H', Q (.bl true) H'
theorem sc_law : FnScope ["_law_script", "_law_pen_here", "_law_many", "_law_places", "_law_kept", "_law_told", "_law_lock", "_law_one", "_law_other", "_law_spot", "_law_odd", "_law_bad", "_law_k", "_law_bolt", "_law_gap"] ["_law_script"] (defScope s_law) := ⟨rfl, rfl, rfl, by decide +kernel, rfl, by decide +kernel, by decide +kernel⟩
theorem ok_law {f : Addr} {fd : FuncData} (T : TxE K mg) (F : FunD K "law" "law" (defArgs s_law) (defBody s_law) (defScope s_law) [] [] f fd) : FnOk P w K mg base CX0 312 f fd ["_law_script"] (spLaw K) := by
  refine fnx (N := ["_law_script", "_law_pen_here", "_law_many", "_law_places", "_law_kept", "_law_told", "_law_lock", "_law_one", "_law_other", "_law_spot", "_law_odd", "_law_bad", "_law_k", "_law_bolt", "_law_gap"]) (k := 311) F sc_law ?_ ?_
  · rintro vs H Q E ⟨a, ns, rfl, _⟩; rfl
  · rintro cdv A outer s H vs Q E C ⟨a, ns, rfl, hs, hq⟩
    refine (?_ : GS _ H ([.bw (ns.map D.int)] ++ [.no, .no, .no, .no, .no, .no, .no, .no, .no, .no, .no, .no, .no, .no]) _ _) _ _ (fm_start (as := [.bw (ns.map D.int)]) ⟨_, _, rfl, ⟨a, _, rfl, hs, RpAll.of_ints ns⟩, rfl⟩ (Nat.le_of_ble_eq_true rfl))
    have TT := T.T
    refine gs_setY C 1 (gy_cal (Z := NoZ) (as := [.bw (ns.map D.int)]) (post := fun r H G1 => ∃ p c cs, r = .ref p ∧ H p = none ∧ H c = none ∧ PenAt G1 p c cs 0) (c_law_pen TT) (C.hr.mono (by decide)) (ga1 (gb_var 0)) zok_no (fun vs H1 Q1 s1 ⟨v, r, ev, ⟨l, us, el, hsq, hra⟩, er⟩ hq1 => ?_) (fun v H1 G1 G2 t ⟨p, c, cs, h1, h2, h3, h4⟩ => ⟨p, c, cs, h1, h2, h3, ⟨?_, t _ _ h4.cl (.inr (.inr h3)), h4.ne, h4.len⟩⟩)) fun v G1 ⟨c1, H1, s1, p, c, cs, ev, hp0, hc0, hpen⟩ => ⟨.v (.ref p), ev, ?_⟩
    · subst ev; subst er; subst el
      rw [RpAll.ints hra] at hsq
      exact ⟨l, ns, rfl, hsq, fun r G1 H' s2 s3 hx => hq1 r G1 H' (Core.of s2) s3 hx⟩
    · obtain ⟨t1, l1, q1, q2⟩ := h4.pn
      exact ⟨t1, l1, t _ _ q1 (.inr (.inr h2)), q2⟩
    refine gs_weak (Γ' := [.no, .v (.ref p), .no, .no, .no, .no, .no, .no, .no, .no, .no, .no, .no, .no, .no]) ⟨.inl rfl, .inr rfl, .inr rfl, .inr rfl, .inr rfl, .inr rfl, .inr rfl, .inr rfl, .inr rfl, .inr rfl, .inr rfl, .inr rfl, .inr rfl, .inr rfl, .inr rfl, trivial⟩ ?_
    clear c1 s1 hp0 hc0 ev
    have dr : ∀ {Y : Cx} {G : Hp} {n : Int}, True := trivial
    refine gs_forY C (js := [2]) (fun d Γ => Γ.set 2 (.d d)) (fun x => x = p) (fun Hc i G Γ' => Γ' = [.no, .v (.ref p), .no, .no, .no, .no, .no, .no, .no, .no, .no, .no, .no, .no, .no] ∧ PenAt G p c cs (3 + 400 * (i : Nat)))
      (gy_lst3Y (Ψ1 := fun v G => (∃ m : Int, v = .int m ∧ 1 ≤ m ∧ m ≤ 60) ∧ PenAt G p c cs 1) (Ψ2 := fun v1 v G => (∃ m : Int, v1 = .int m ∧ 1 ≤ m ∧ m ≤ 60) ∧ (∃ m : Int, v = .int m ∧ 1 ≤ m ∧ m ≤ 60) ∧ PenAt G p c cs 2) (Ψ3 := fun v1 v2 v G => (∃ m : Int, v1 = .int m ∧ 1 ≤ m ∧ m ≤ 60) ∧ (∃ m : Int, v2 = .int m ∧ 1 ≤ m ∧ m ≤ 60) ∧ (∃ m : Int, v = .int m ∧ 1 ≤ m ∧ m ≤ 60) ∧ PenAt G p c cs 3)
        (gy_addS ge_int (gy_draw (many := 4) TT (C.hr.mono (by decide)) (gv_var 1 rfl (fun q => by cases q)) ge_int hpen (by decide) (by decide) (by decide) rfl) fun v G ⟨_, j, ev, j0, j1, hp⟩ => ⟨j, ev, ⟨1 + j, rfl, by omega, by omega⟩, hp⟩)
        (fun v1 G1 ⟨h1, hp1⟩ => gy_addS ge_int (gy_draw (many := 4) TT (C.hr.mono (by decide)) (gv_var 1 rfl (fun q => by cases q)) ge_int hp1 (by decide) (by decide) (by decide) rfl) fun v G ⟨_, j, ev, j0, j1, hp⟩ => ⟨j, ev, h1, ⟨1 + j, rfl, by omega, by omega⟩, hp⟩)
        (fun v1 v2 G2 ⟨h1, h2, hp2⟩ => gy_addS ge_int (gy_draw (many := 60) TT (C.hr.mono (by decide)) (gv_var 1 rfl (fun q => by cases q)) ge_int hp2 (by decide) (by decide) (by decide) rfl) fun v G ⟨_, j, ev, j0, j1, hp⟩ => ⟨j, ev, h1, h2, ⟨1 + j, rfl, by omega, by omega⟩, hp⟩))
      (fun v G' ⟨v1, v2, v3, G3, l, ev, ⟨⟨m1, e1, a1, b1⟩, ⟨m2, e2, a2, b2⟩, ⟨m3, e3, a3, b3⟩, hp3⟩, hl0, s3, hl⟩ => ⟨l, [v1, v2, v3], [.int m1, .int m2, .int m3], ev, hl, ⟨_, _, rfl, e1, _, _, rfl, e2, _, _, rfl, e3, rfl⟩, fun z => ?_, fun i d hd => tg_name C 2, (hp3.same s3).znb, fun Hc G core s4 s5 cz => ⟨rfl, (hp3.same s3).same s4⟩, fun Hc core cz i d hd G Γ' cg ⟨eΓ, hpG⟩ => ?_, fun Hc core cz G Γ' cg ⟨eΓ, hpG⟩ => ?_⟩) rfl
    · obtain ⟨t1, l1, q1, _⟩ := hp3.pn
      rw [z, q1] at hl0; cases hl0
    · subst eΓ
      have hi3 : i < 3 := (List.getElem?_eq_some_iff.mp hd).1
      obtain ⟨mn, rfl, mn1, mn2⟩ : ∃ mn : Nat, d = .int (mn : Nat) ∧ 1 ≤ mn ∧ mn ≤ 60 := by
        have hm : d = .int m1 ∨ d = .int m2 ∨ d = .int m3 := by
          have := List.mem_of_getElem? hd
          simpa using this
        rcases hm with rfl | rfl | rfl
        · exact ⟨m1.toNat, by rw [Int.toNat_of_nonneg (by omega)], by omega, by omega⟩
        · exact ⟨m2.toNat, by rw [Int.toNat_of_nonneg (by omega)], by omega, by omega⟩
        · exact ⟨m3.toNat, by rw [Int.toNat_of_nonneg (by omega)], by omega, by omega⟩
      clear hd hl hl0 hp3 s3 e1 e2 e3 a1 a2 a3 b1 b2 b3
      generalize hnn : (3 + 400 * ((i : Nat) : Int)) = nn at hpG
      have hGp : G p ≠ none := fun z => by
        obtain ⟨t1, l1, q1, _⟩ := hpG.pn
        rw [z] at q1; cases q1
      have hGc : G c ≠ none := fun z => by
        have q1 := hpG.cl
        rw [z] at q1; cases q1
      -- the places
      refine gs_setLcS C 3 [("_law_k", 12)] (js := [12]) (fun d Γ => Γ.set 12 (.d d)) (fun x => x = p) (fun G i ds => PenAt G p c cs (nn + (i : Nat)) ∧ ∃ ms : List Nat, ds = ms.map nD ∧ Ok24 ms ∧ ms.length = i) (gi_range1 (ge_var (x := .int (mn : Nat)) 2) TT.z_range (by omega) (by omega)) (by rw [rng_len]; omega) rfl (fun j hj => by cases hj with | head => rfl | tail _ h => cases h) (fun d _ => rfl) hpG.znb ?_ ?_ ?_ ?_ ?_ fun v G1 ⟨L, ds, acc, ev, hL, core1, hG1, hr1, hp1, ms, eds, ok, hml⟩ => ?_
      · rintro G1 G2 i ds L hL st ⟨hp, hx⟩
        refine ⟨⟨?_, st _ _ (fun z => hGc (by rw [z]; exact hL)) hp.cl, hp.ne, hp.len⟩, hx⟩
        obtain ⟨t, l, q, q2⟩ := hp.pn
        exact ⟨t, l, st _ _ (fun z => hGp (by rw [z]; exact hL)) q, q2⟩
      · intro d hd s H C' cl fp
        exact tg_name C.blk 12
      · exact ⟨hpG.more (by omega), [], rfl, fun x hx => (by cases hx), rfl⟩
      · rintro G1 i ds _ ⟨hp, _⟩
        exact hp.znb
      · rintro i d hd G1 ds _ ⟨hp, ms, rfl, ok, hml⟩ s H1 C' cl fp
        refine gy_addS ge_int (gy_draw (many := 3) TT (C.hr.mono (by decide)) (gv_var (p := .v (.ref p)) 1 rfl (fun q => by cases q)) ge_int hp (by
          have : i < (rng 0 ((mn : Nat) : Int).toNat).length := (List.getElem?_eq_some_iff.mp hd).1
          rw [rng_len] at this
          omega) (by decide) (by decide) rfl) fun v G2 ⟨c2, j, ev, j0, j1, hp2⟩ => ⟨j, ev, c2, nD (2 + j).toNat, ?_, ?_, ms ++ [(2 + j).toNat], ?_, ?_, ?_⟩
        · show V.int (2 + j) = V.int ((2 + j).toNat : Nat)
          rw [Int.toNat_of_nonneg (by omega)]
        · rw [show nn + ((i + 1 : Nat) : Int) = nn + (i : Nat) + 1 by omega]; exact hp2
        · rw [List.map_append]; rfl
        · intro x hx
          rcases List.mem_append.mp hx with h | h
          · exact ok x h
          · rw [List.mem_singleton.mp h]; omega
        · rw [List.length_append, hml]; rfl
      subst ev; subst eds
      rw [rng_len, Int.toNat_natCast] at hml hp1
      have hLp : L ≠ p := fun z => hGp (by rw [← z]; exact hL)
      have pl : Pl K G1 L p ms := ⟨⟨acc, hG1, hr1⟩, hLp⟩
      clear hG1 hr1
      generalize hR : ms.reverse = R
      have okR : Ok24 R := fun x hx => ok x (by rw [← hR, List.mem_reverse] at hx; exact hx)
      have hRl : R.length = mn := by rw [← hR, List.length_reverse, hml]
      have hRm : R.reverse = ms := by rw [← hR, List.reverse_reverse]
      -- kept, told
      refine gs_parLD C 4 5 (xs := ms.map nD) (d := .tup [.tup (lockD R), ti (E0 R), ti (E1 R)]) (gl_list (pl.rd (gv_var 3 rfl (fun q => by cases q))) TT.z_list) (ge_call (c_row_of TT) (C.hr.mono (by decide)) (ga1 (pl.rd (gv_var 3 rfl (fun q => by cases q)))) ⟨ms, rfl, by omega, by omega, ok, by rw [hR]⟩) ?_
      refine gs_unp (d := .tup [.tup (lockD R), ti (E0 R), ti (E1 R)]) C (ge_var 5) (tg_tup C (tgs_cons (tg_name C 6) (tgs_cons (tg_name C 7) (tgs_cons (tg_name C 8) tgs_nil)))) ?_
      refine gs_unless (GW.t (k0 := !true || (!true || false)) (gw_or (gt_not (gt_of (k := true) (gt_val (ge_isTup (p := .d (.tup [.tup (lockD R), ti (E0 R), ti (E1 R)])) TT (gd_var 5) tb_d)) rfl)) fun _ => gw_or (gt_of (gt_notN (ge_call (c_fault_of TT) (C.hr.mono (by decide)) (gac1 (ge_var (x := .tup (lockD R)) 6)) ⟨R, rfl, by omega, by omega, okR, rfl⟩)) rfl) fun _ => gw_or1 (gt_of (gt_cmp (op_neD C.h64) (d_neL (xs := ms.map nD) (ys := ms.map nD) (sh_nats ms) (sh_nats ms)) (pl.rd (gv_var 3 rfl (fun q => by cases q))) (go_var 4)) (by rw [D.eqv_self]; rfl)))) ?_
      refine gs_unless (gt_of (gt_cmp (op_neD C.h64) (d_neL (xs := (lockD R).map hdD) (ys := ms.map nD) (by rw [lock_heads]; exact sh_nats _) (sh_nats ms)) (GL.rd (gl_lc0 C [("_law_bolt", 13)] (js := [13]) (fun d Γ => Γ.set 13 (.d d)) hdD (gi_tup (ge_var (x := .tup (lockD R)) 6)) ?_ ?_ ?_)) (pl.rd (gv_var 3 rfl (fun q => by cases q)))) (by rw [lock_heads, hRm, D.eqv_self]; rfl)) ?_
      · intro d hd s H C' cl fp
        exact tg_name C.blk 13
      · intro Hb s0 d hd s H C' cl fp
        obtain ⟨m, rs, rfl, _⟩ := lock_mem okR hd
        exact ge_ixT (ds := [.int m, .tup (gapsD rs m)]) (ge_var (x := boltD m rs) 13) ge_int
      · rw [lockD_len]; omega
      refine gs_unless (gt_of (gt_neNil (xs := ((lockD R).filter fun _ => false).map fun d => d) C (GL.rd (gl_lc1 C [("_law_bolt", 13)] (js := [13]) (fun d Γ => Γ.set 13 (.d d)) (fun d => d) (fun _ => false) (gi_tup (ge_var (x := .tup (lockD R)) 6)) ?_ ?_ ?_ ?_)) ?_) ?_) ?_
      · intro d hd s H C' cl fp
        exact tg_name C.blk 13
      · intro Hb s0 d hd s H C' cl fp
        obtain ⟨m, rs, rfl, okm⟩ := lock_mem okR hd
        have hgl := gapsD_len rs m
        have hm := okm.hd
        refine gt_of (gt_neNil (xs := ((gapsD rs m).filter fun _ => false).map fun d => d) C.blk (GL.rd (gl_lc1 C.blk [("_law_gap", 14)] (js := [14]) (fun d Γ => Γ.set 14 (.d d)) (fun d => d) (fun _ => false) (gi_tup (ge_ixT (ds := [.int m, .tup (gapsD rs m)]) (d := .tup (gapsD rs m)) (ge_var (x := boltD m rs) 13) ge_int)) ?_ ?_ ?_ ?_)) ?_) ?_
        · intro d hd s H C' cl fp
          exact tg_name C.blk.blk 14
        · intro Hb2 s2 d hd s H C' cl fp
          obtain ⟨h', t', v', rfl, _⟩ := gapsD_mem okm hd
          exact gt_of (gt_nei C.blk.blk (ge_ixT (ds := [.int h', .int t', .int 1, .tup [ti v']]) (d := .int 1) (ge_var (x := gapD h' t' v') 14) ge_int) ge_int) rfl
        · intro Hb2 s2 d hd q
          cases q
        · omega
        · rw [filt_no]; exact ti_sh []
        · rw [filt_no]; rfl
      · intro Hb s0 d hd q
        cases q
      · rw [lockD_len]; omega
      · rw [filt_no]; exact ti_sh []
      · rw [filt_no]; rfl
      have w0 := wd_E0 okR
      have w1 := wd_E1 okR
      refine gs_unless (GW.t (k0 := !true || !true) (gw_or (gt_not (gt_val (k0 := true) (ge_call (c_law_is_word TT) (C.hr.mono (by decide)) (gac (ge_var (x := .tup (lockD R)) 6) (gac (ge_var (x := ti (E0 R)) 7) (gac1 (ge_var (x := .int (mn : Nat)) 2)))) ⟨R, R.length, E0 R, by rw [hRl], Nat.le_refl _, by omega, by rw [low_all]; exact w0, rfl⟩))) fun _ => gw_or1 (gt_not (gt_val (k0 := true) (ge_call (c_law_is_word TT) (C.hr.mono (by decide)) (gac (ge_var (x := .tup (lockD R)) 6) (gac (ge_var (x := ti (E1 R)) 8) (gac1 (ge_var (x := .int (mn : Nat)) 2)))) ⟨R, R.length, E1 R, by rw [hRl], Nat.le_refl _, by omega, by rw [low_all]; exact w1, rfl⟩))))) ?_
      refine gs_unless (gt_of (GW.t (gw_and (gt_le' (ge_call (c_law_all TT) (C.hr.mono (by decide)) (gac1 (ge_var (x := .tup (lockD R)) 6)) ⟨R, rfl, okR, rfl⟩) ge_int) fun hle => gw_and1 (gt_not (gt_val (k0 := true) (ge_call (c_law_is_row TT) (C.hr.mono (by decide)) (gac (ge_var (x := .tup (lockD R)) 6) (gac (ge_var (x := ti (E0 R)) 7) (gac1 (ge_var (x := ti (E1 R)) 8)))) ⟨R, rfl, by omega, by omega, okR, of_decide_eq_true hle, rfl⟩))))) (Bool.and_false _)) ?_
      refine gs_unlessY (gty_notV (gy_great (R := R) TT C.hr (gv_var 1 rfl (fun q => by cases q)) (ge_var (x := .tup (lockD R)) 6) (ge_var (x := ti (E0 R)) 7) (ge_var (x := ti (E1 R)) 8) okR (by omega) (by omega) hp1 (by omega) rfl) fun v G2 q => q.1) fun b0 G2 ⟨eb, v2, _, c2, hp2⟩ => ⟨eb, ?_⟩
      have pl2 := pl.core hp1 c2
      -- spot, odd
      refine gs_parYY C 9 10 (Ψ2 := fun v r G' => (∃ j : Int, v = .int j ∧ 0 ≤ j ∧ j < (mn : Nat)) ∧ Core (fun x => x = p) G2 G' ∧ (∃ d ∈ bagD, Rp K G' d r) ∧ PenAt G' p c cs (nn + (mn : Nat) + 302)) (gy_draw (many := (mn : Nat)) TT (C.hr.mono (by decide)) (gv_var 1 rfl (fun q => by cases q)) (ge_var (x := .int (mn : Nat)) 2) hp2 (by omega) (by omega) (by omega) rfl) (fun v G3 ⟨c3, j, ev, j0, j1, hp3⟩ => GY.imp (gy_pick TT (C.hr.mono (by decide)) (gv_var 1 rfl (fun q => by cases q)) (gy_list (xs := bagD) (gl_lst (ds := bagD) (gac ge_int (gac ge_int (gac ge_bl (gac ge_non (gac ge_str (gac (ge_tup (ds := [.int 2]) (gac1 ge_int)) (gac1 (ge_neg ge_int)))))))))) (fun v G4 ⟨l, us, ev, hl, s4, h4, hr4⟩ => ⟨l, us, ev, h4, fun z => ?_, by rw [hr4.length]; decide, by rw [hr4.length]; decide, hp3.same s4⟩) (by omega) rfl) fun r G5 ⟨G4, l, us, ⟨l', us', el, hl, s4, h4, hr4⟩, h4', c5, ⟨ix, hix⟩, hp5⟩ => ?_) fun v r G5 ⟨⟨j, ev, j0, j1⟩, c5, ⟨dd, hdd, hrd⟩, hp5⟩ => ⟨.int j, dd, ev, hrd, ?_⟩
      · obtain ⟨t1, l1, q1, _⟩ := hp3.pn
        rw [z, q1] at hl; cases hl
      · have ell : l = l' := by injection el
        subst ell
        rw [h4] at h4'
        have eus : us' = us := by injection (Option.some.inj h4')
        subst eus
        obtain ⟨dd, hdd, hrd⟩ := hr4.get' hix
        refine ⟨⟨j, ev, j0, j1⟩, (c3.then s4).trans c5, ⟨dd, List.mem_of_getElem? hdd, hrd.mono (tps_pen (hp3.same s4) c5)⟩, ?_⟩
        rw [show nn + (mn : Nat) + 302 = nn + (mn : Nat) + 300 + 1 + 1 by omega]
        exact hp5
      have pl5 := pl2.core hp2 c5
      obtain ⟨jn, rfl⟩ : ∃ jn : Nat, j = (jn : Int) := ⟨j.toNat, by omega⟩
      have hjn : jn < mn := by omega
      have hc1 : cutD (ms.map nD) none (some (jn : Int)) = (ms.map nD).take jn := cut_take _ _
      have hc2 : cutD (ms.map nD) (some ((jn : Int) + 1)) none = (ms.map nD).drop (jn + 1) := cut_drop _ (jn + 1)
      have ht1 : ((ms.map nD).take jn).length = jn := by rw [List.length_take, List.length_map, hml]; omega
      have ht2 : ((ms.map nD).drop (jn + 1)).length = mn - (jn + 1) := by rw [List.length_drop, List.length_map, hml]
      -- bad
      refine gs_setL C 11 (xs := (ms.map nD).take jn ++ [dd] ++ (ms.map nD).drop (jn + 1)) (gl_cat (gl_cat (by rw [← hc1]; exact gl_sl (pl5.rd (gv_var 3 rfl (fun q => by cases q))) gp_none (gp_some (ge_var (x := .int (jn : Nat)) 9))) (gl_lst (ds := [dd]) (gac1 (ge_var 10))) (by rw [ht1, List.length_singleton]; omega)) (by rw [← hc2]; exact gl_sl (pl5.rd (gv_var 3 rfl (fun q => by cases q))) (gp_some (ge_add (ge_var (x := .int (jn : Nat)) 9) ge_int)) gp_none) (by rw [List.length_append, ht1, ht2, List.length_singleton]; omega)) ?_
      have hbl : ((ms.map nD).take jn ++ [dd] ++ (ms.map nD).drop (jn + 1)).length = mn := by rw [List.length_append, List.length_append, ht1, ht2, List.length_singleton]; omega
      have hbad : BadA (.bw ((ms.map nD).take jn ++ [dd] ++ (ms.map nD).drop (jn + 1))) := .inr ⟨_, rfl, by omega, .inr (.inr ⟨by omega, by omega, dd, by simp, bag_bad dd hdd⟩)⟩
      refine gs_unless (gt_not (gt_val (k0 := true) (ge_refused T (C.hr.mono (by decide)) (go_var 11) hbad))) ?_
      -- the last refusal
      refine gs_unlessY (gty_notV (gy_refused T (C.hr.mono (by decide)) (gy_pick TT (C.hr.mono (by decide)) (gv_var 1 rfl (fun q => by cases q)) (gy_lst6 (xs := []) (ys := (List.replicate ((61 : Int)).toNat [D.int 2]).flatten) (d3 := .tup (ms.map nD)) (d4 := .non) (d5 := .int 5) (d6 := .str "22") (gl_lst (ds := []) ga_nil) (gl_rep (gl_lst (ds := [.int 2]) (gac1 ge_int)) ge_int (by decide) (by decide) (Nat.le_of_ble_eq_true rfl)) (ge_tuple (pl5.rd (gv_var 3 rfl (fun q => by cases q))) TT.z_tuple) ge_non ge_int ge_str) (fun v G6 ⟨l, l1, l2, u1, u2, v3, v4, v5, v6, ev, hl, s6, h6, _⟩ => ⟨l, _, ev, h6, fun z => ?_, Nat.le_of_ble_eq_true rfl, Nat.le_of_ble_eq_true rfl, hp5.same s6⟩) (by omega) rfl) (fun r G7 ⟨G6, l, us, ⟨l', l1, l2, u1, u2, v3, v4, v5, v6, el, hl, s6, h6, g1, q1, g2, q2, r3, r4, r5, r6, n1, n2⟩, h6', c7, ⟨ix, hix⟩, hp7⟩ => ?_)) fun v G7 q => q.1) fun b0 G7 ⟨eb7, v7, _, v8, G6, l, us, ⟨l', l1, l2, u1, u2, v3, v4, v5, v6, el, hl, s6, _⟩, h6', c7, _, hp7⟩ => ⟨eb7, ?_⟩
      · obtain ⟨t1, l3, q3, _⟩ := hp5.pn
        rw [z, q3] at hl; cases hl
      · have ell : l = l' := by injection el
        subst ell
        rw [h6] at h6'
        have eus : [V.ref l1, .ref l2, v3, v4, v5, v6] = us := by injection (Option.some.inj h6')
        subst eus
        have tp : Tps K G6 G7 := tps_pen (hp5.same s6) c7
        have hG5p : G5 p ≠ none := fun z => by
          obtain ⟨t1, l3, q3, _⟩ := hp5.pn
          rw [z] at q3; cases q3
        have ne1 : l1 ≠ p := fun z => hG5p (by rw [← z]; exact n1)
        have ne2 : l2 ≠ p := fun z => hG5p (by rw [← z]; exact n2)
        match ix, hix with
        | 0, hix =>
          have e := Option.some.inj hix
          subst e
          exact ⟨.bw [], ⟨l1, u1, rfl, SqL.of (c7 _ _ g1 ne1), q1.mono tp⟩, .inr ⟨_, rfl, Nat.zero_le _, .inl rfl⟩⟩
        | 1, hix =>
          have e := Option.some.inj hix
          subst e
          exact ⟨.bw _, ⟨l2, u2, rfl, SqL.of (c7 _ _ g2 ne2), q2.mono tp⟩, .inr ⟨_, rfl, by decide, .inr (.inl (by decide))⟩⟩
        | 2, hix =>
          have e := Option.some.inj hix
          subst e
          exact ⟨.d (.tup (ms.map nD)), Rp.mono tp r3, .inl ⟨_, rfl⟩⟩
        | 3, hix =>
          have e := Option.some.inj hix
          subst e
          exact ⟨.d (.non), Rp.mono tp r4, .inl ⟨_, rfl⟩⟩
        | 4, hix =>
          have e := Option.some.inj hix
          subst e
          exact ⟨.d (.int 5), Rp.mono tp r5, .inl ⟨_, rfl⟩⟩
        | 5, hix =>
          have e := Option.some.inj hix
          subst e
          exact ⟨.d (.str "22"), Rp.mono tp r6, .inl ⟨_, rfl⟩⟩
        | ix + 6, hix => simp at hix
      · have cAll : Core (fun x => x = p) G G7 := core1.trans (c2.trans (c5.trans ((Core.of s6).trans c7)))
        refine gs_nil fun σ H2 F => ⟨G7, _, fun y o q => cAll y o (cg _ _ q) fun z => (by rw [z, cz p rfl] at q; cases q), ⟨rfl, hp7.more (by omega)⟩, F.weak ⟨.inr rfl, .inr rfl, .inl rfl, .inl rfl, .inl rfl, .inl rfl, .inl rfl, .inl rfl, .inl rfl, .inl rfl, .inl rfl, .inl rfl, .inr rfl, .inr rfl, .inr rfl, trivial⟩⟩
    · subst eΓ
      exact gs_retY (gy_of (ge_bl (i := true))) fun r G9 H' ⟨_, r1⟩ _ => by
        have er : r = .bl true := r1
        rw [er]; exact hq H'
end
end WB
set_option maxHeartbeats 0
namespace WB
open PySem PySem.Spec PyProof.Rows L2
/-! ### the end -/
theorem facts {P : Program} {w : World} {K : PySem.W.Frag} {h : Heap} {mg : Str → Option Value} {f : Addr} (X : K.In h) (G : h.Ns mainGlobals mg) (hfa : mg ("law" : Str) = some (.ref f)) (c : obsE K = (He.valD fns, true)) :
    ∃ fd : FuncData, (∀ (s : Shared) (v : Value), BindsTo s fd ⟨[v], []⟩ [("_law_script", v)]) ∧ ∀ base : Heap, K.In base → base.Ns mainGlobals mg → L2.FnOk P w K mg base CX0 231 f fd ["_law_script"] (spLaw K) := by
  have c1 : He.SaysD fas fns K := congrArg Prod.fst c
  have c2 : excB K (He.ga K "NoPlaces") = true := congrArg Prod.snd c
  have T : Tx K mg := ⟨c1, h, X, G⟩
  obtain ⟨fd, F⟩ := T.f_law
  have e := hfa.symm.trans T.g_law
  cases e
  have b := FunD.bindsA (ps := ["_law_script"]) F fun _ _ _ _ _ _ us hl => match us, hl with | [_], _ => rfl
  exact ⟨fd, fun s v => b s [v] rfl, fun base _ _ => (ok_law ⟨T, c2⟩ F).kit (by decide) (by decide)⟩
end WB
open PySem PySem.W PySem.Calls PyProof.Rows
theorem PySem.Challenge.cw_waitbolts_k73_whole_stands_in_a_row_holds : PySem.Challenge.rw_waitbolts_k73_whole_stands_in_a_row.Holds := by
  w_on; o_law
  refine HandSHeadRun.head_any (r := OpenLaw.row PySem.Challenge.rw_waitbolts_k73_whole_stands_in_a_row) (q := view (OpenLaw.row PySem.Challenge.rw_waitbolts_k73_whole_stands_in_a_row).prog [WB.lawAt]) (H := WB.hkE) (ob := WB.obE) (M := 8000) (loose := WB.names) (d := HandSHeadRun.topDef (OpenLaw.row PySem.Challenge.rw_waitbolts_k73_whole_stands_in_a_row).prog WB.lawAt) (kwd := []) WB.obE_eq
    (by kernel_rfl) (fun s => by kernel_rfl) WB.runE (by kernel_rfl) (by kernel_rfl) (by kernel_rfl) (by rfl) (by first | assumption | decide +kernel) (by decide +kernel) ⟨rfl, rfl, rfl, rfl, rfl, by decide +kernel⟩ ?hw ?hc
  case hw => w_witness2
  case hc =>
    refine L2.walk_ofE (l := PySem.Challenge.rw_waitbolts_k73_whole_stands_in_a_row) (n := 63) (k := 231) (x := "_law_script") (CX := L2.CX0) rfl (by decide) (by kernel_rfl) ⟨rfl, by decide, by decide⟩ ?F (fun _ _ _ _ z => z)
    intro w mg fa h Y G hmg0
    obtain ⟨K, KX, c⟩ := Y
    have hmg : mg ("law" : PySem.Str) = some (.ref fa) := by
      have e : (HandSHeadRun.topDef (OpenLaw.row PySem.Challenge.rw_waitbolts_k73_whole_stands_in_a_row).prog WB.lawAt).name = ("law" : PySem.Str) := by kernel_rfl
      rw [← e]
      exact hmg0
    obtain ⟨fd, hb, hF⟩ := WB.facts (P := (PySem.Challenge.rw_waitbolts_k73_whole_stands_in_a_row).prog) (w := w) KX G hmg c
    exact ⟨K, fd, WB.spLaw K, KX, hb, fun H a ns hl _ hS => ⟨a, ns, rfl, hS, fun _ => rfl⟩, hF⟩
