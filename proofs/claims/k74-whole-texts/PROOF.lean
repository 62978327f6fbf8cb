import PyProof.Rows.All
import Wide.All
import OpenK.AllK
import Wide.FinOn
import KE.KStateDown
import Lean
import HandS.ForMost
import HandS.ForExc
import HandS.Defaults
import HandS.Head0
import HandS.Head1
import HandS.Head2
import HandS.HeadEnd
import HandS.HeadHook1
import HandS.HeadHook2
import HandS.HeadHook3
import HandS.HeadHook4
import HandS.EndTab
import HandS.HeadWalk
import PySem.Challenge.RW_holeform_k74_whole_texts_answered
import HandS.Nested
import HandS.NestedK
import HandS.CallLocal
import HandS.Codes
import HandS.Style
import HandS.SetKeys
import HandS.Strs
import HandS.Flow
import HandS.Wide
import HandS.Deep
import HandS.More
import HandS.Conv
import HandS.Iter
import HandS.Walk
import HandS.TupAny
import HandS.RevTup
import HandS.Rev
import KE.GoesEnum
import KE.GoesMore
import HandS.SetFor
import PyProof.DictUpdate
import HandS.Zip
import PyProof.ListRange
import KE.KRevIter
import HandS.Base
import HandS.Call
import HandS.List
section
set_option Elab.async false
set_option linter.all false
set_option maxRecDepth 100000
set_option maxHeartbeats 4000000
/-! enumerate(t), t a tuple -/
namespace HW
open PySem PySem.Spec PyProof.Rows L2
set_option maxHeartbeats 8000000 in
theorem made_enum1 {v : Value} {o : Obj} {Hq : Heap → Prop} (B : Begins v o Hq) :
    Meets (Builtin.«enumerate.__new__» ⟨[.type "enumerate", v], []⟩) (fun _ R sh => Hq sh.heap ∧
      R (.ok (.ret (.ref (sh.heap.push o).objs.size))) { sh with heap := (sh.heap.push o).push { cls := .type "enumerate", data := .fields #[.none, .bool false, .ref sh.heap.objs.size, rawInt 0, .none, .none] } }) :=
  .of_wp fun prog w A R sh h => by
    obtain ⟨hh, gg, dd, tt, oo⟩ := sh
    obtain ⟨b1, b2⟩ := h
    have hsub := sub_enumerate
    have bi : ∀ {A' : Around} {E : Value → Shared → Prop} {Q : Value → Shared → Prop}, Q (.ref hh.objs.size) ⟨hh.push o, gg, dd, tt, oo⟩ → wpAny (model prog w) A' (pyIter v) Q E ⟨hh, gg, dd, tt, oo⟩ :=
      fun q => B.iter prog w _ _ ⟨hh, gg, dd, tt, oo⟩ _ b1 q
    wp_walk using bi
    refine wpAny_stack_any fun stk => wpAny_pure ?_
    split
    · rename_i cc _ _ _ _ _
      cases (cc == Value.type "enumerate")
      · wp_walk using bi
        exact ⟨_, rfl, b2⟩
      · wp_walk using bi
        exact ⟨_, rfl, b2⟩
    · wp_walk using bi
      exact ⟨_, rfl, b2⟩
theorem call_enum1 {prog : Program} {w : World} {A : Around} {E : Value → Shared → Prop} {sh : Shared} {v : Value} {o : Obj} {Hq : Heap → Prop} {Q : Value → Shared → Prop} (B : Begins v o Hq) (b1 : Hq sh.heap)
    (h : ∀ h', IsEnum h' (sh.heap.objs.size + 1) sh.heap.objs.size 0 .none → h'.get? sh.heap.objs.size = some o → h'.objs.size = sh.heap.objs.size + 2 →
      (∀ b ob, sh.heap.get? b = some ob → h'.get? b = some ob) → Q (.ref (sh.heap.objs.size + 1)) { sh with heap := h' }) :
    wpAny (model prog w) A (call (.type "enumerate") [v]) Q E sh := by
  refine callType_new F.called_enumerate (by decide) (F.typeCall_enumerate_1 _) (F.newCall_enumerate_1 _) (fun ob => F.args_object_init_2 ob _) F.entry_enumerate_new (made_enum1 B) ⟨b1, ?_⟩
  have z1 : (sh.heap.push o).objs.size = sh.heap.objs.size + 1 := Heap.size_push ..
  show _ ∧ _
  rw [z1]
  have en : IsEnum ((sh.heap.push o).push { cls := .type "enumerate", data := .fields #[.none, .bool false, .ref sh.heap.objs.size, rawInt 0, .none, .none] }) (sh.heap.objs.size + 1) sh.heap.objs.size 0 .none := by
    have z2 := Heap.get?_push_size (sh.heap.push o) (o := { cls := .type "enumerate", data := .fields #[.none, .bool false, .ref sh.heap.objs.size, rawInt 0, .none, .none] }) rfl
    rw [z1] at z2
    exact z2
  exact ⟨⟨_, en, rfl⟩, h _ en (Heap.get?_push_of_some _ (Heap.get?_push_size _ B.free)) (by rw [Heap.size_push, z1]) fun b ob x => Heap.get?_push_of_some _ (Heap.get?_push_of_some _ x)⟩
/-- the tuple at a at each turn, its items with their numbers in new pairs -/
def ItEt (K : PySem.W.Frag) (a : Addr) : It :=
  ⟨fun i H => ∃ (xs : List V) (x : V), SqT K H a xs ∧ xs[i]? = some x, fun i H v H' => ∃ p x, v = .ref p ∧ H p = none ∧ H' = upd H p (.tup [.int (i : Nat), x]) ∧ ∀ xs, SqT K H a xs → xs[i]? = some x, fun i H => ∃ xs : List V, SqT K H a xs ∧ xs.length = i⟩
theorem turn_enumT {P : Program} {w : World} {K : PySem.W.Frag} {elts : List Expr} {kk : Nat} {tpos : Pos} (a e it : Addr) :
    Turn P w K (.Tuple elts kk tpos) (ItEt K a) [e, it] e (fun i h => (∃ old, IsEnum h e it ((i : Nat) : Int) old) ∧ h.IsTupleIter it a i ∧ e ≠ it ∧ e ≠ a ∧ a ≠ it) where
  mem := by simp
  obj := fun i h st b hb => by
    obtain ⟨⟨old, he⟩, ⟨o, ho, hc, hd⟩, _⟩ := st
    rcases (show b = e ∨ b = it by simpa using hb) with z | z
    · subst z
      exact ⟨_, he, fun v q => nomatch q⟩
    · subst z
      exact ⟨o, ho, fun v q => by rw [hd] at q; cases q⟩
  keep := fun i h h' st k => let ⟨⟨old, he⟩, hi, n⟩ := st; ⟨⟨old, k e (by simp) _ he⟩, hi.at fun o q => k it (by simp) o q, n⟩
  item := by
    intro X e1 e2 e3 hc i pins sh σ H E I hf st hg
    subst e1 e2 e3
    obtain ⟨⟨old, he⟩, hit, n1, n2, n3⟩ := st
    obtain ⟨xs, x, hq, hx⟩ := hg
    obtain ⟨its, rv, tp, _⟩ := I.tuple hq
    obtain ⟨u, hu, ru⟩ := rv.get hx
    have le : e < sh.heap.objs.size := Heap.lt_size he
    have li : it < sh.heap.objs.size := by obtain ⟨_, q, _⟩ := hit; exact Heap.lt_size q
    have hin : i < its.toArray.size := by
      have := (List.getElem?_eq_some_iff.mp hu).1
      simpa using this
    refine wpAny_pyNext_enum_itemD (Draws.tuple (show X.A.in1.handled = none from I.ok.hd hc) it a n3 its.toArray) he ⟨hit, show sh.heap.IsTuple a its.toArray from tp⟩ hin n1 (by simp [n1, n2]) fun y h1 tk hy out st1 mk sz kp => ?_
    have ey : y = u := by
      have q1 : its.toArray[i]? = some u := by simpa using hu
      have q2 : its.toArray[i]? = some y := hy
      rw [q1] at q2
      exact (Option.some.inj q2).symm
    subst ey
    refine ⟨_, rfl, wpAny_letOwnedTupleGo_enum (s := { sh with heap := h1, toks := tk + 1 }) out fun h2 he2 sb => ?_⟩
    have mk2 : h2.get? sh.heap.objs.size = some { cls := .type "tuple", data := .seq #[.int i tk, y] } := (sb.2 _ (Nat.ne_of_gt le)).trans mk
    have new : ObjOk X.prog X.w (upd H sh.heap.objs.size (.tup [.int (i : Nat), x])) h2 sh.heap.objs.size (.tup [.int (i : Nat), x]) :=
      ⟨by show 2 ≤ sizeLine; decide, [.int i tk, y], .cons ⟨_, rfl⟩ (.cons ru .nil), ⟨_, mk2, rfl, _, rfl⟩⟩
    have I1 : Inv X pins σ (upd H sh.heap.objs.size (.tup [.int (i : Nat), x])) { sh with heap := h2, toks := tk + 1 } :=
      I.turnedNew (ch := [e, it]) (fun b ob hb q => (sb.2 b (fun z => hb (by simp [z]))).trans (kp b ob (fun z => hb (by simp [z])) (fun z => hb (by simp [z])) q)) hf (Nat.le_refl _) new
    refine ⟨.ref sh.heap.objs.size, _, I1, rfl, ⟨_, x, rfl, I.hok.fresh (Nat.le_refl _), rfl, fun ys hy => by rw [I.tuple_inj hy hq]; exact hx⟩, ⟨⟨y, ?_⟩, st1.1.at fun o q => (sb.2 it (Ne.symm n1)).trans q, n1, n2, n3⟩, fun b hb => ?_⟩
    · rw [show ((i + 1 : Nat) : Int) = (i : Int) + 1 by omega]
      exact he2
    · have lb : b < sh.heap.objs.size := by
        rcases (show b = e ∨ b = it by simpa using hb) with z | z
        · exact z ▸ le
        · exact z ▸ li
      rw [upd_ne (Nat.ne_of_lt lb)]
      exact (hf b hb).1
  done := by
    intro X e1 e2 e3 hc i pins sh σ H E I hf st hg
    subst e1 e2 e3
    obtain ⟨⟨old, he⟩, hit, n1, n2, n3⟩ := st
    obtain ⟨xs, hq, hx⟩ := hg
    obtain ⟨its, rv, tp, _⟩ := I.tuple hq
    obtain ⟨f0, f1, f2, f3, f4, f5⟩ := hf it (by simp)
    have hl := rv.length
    have hi : i = its.toArray.size := by
      rw [List.size_toArray]; omega
    subst hi
    exact wpAny_pyNext_enum_endD (Draws.tuple (show X.A.in1.handled = none from I.ok.hd hc) it a n3 its.toArray) he ⟨hit, show sh.heap.IsTuple a its.toArray from tp⟩ fun h1 eb => ⟨rfl, I.turned (t' := sh.toks) (fun b o hb q => eb b o hb q) f0 f1 f3 f4 f5⟩
  self := fun A i s Q E st h => let ⟨⟨_, he⟩, _⟩ := st; wpAny_pyIter_enum he h
def iEnumT (K : PySem.W.Frag) (ta : TA) : TI := fun σ H R => ta σ H fun vs H1 => ∃ a xs, vs = [.ref a] ∧ SqT K H1 a xs ∧ R (ItEt K a) H1
theorem pi_enumT {X : Cx} {e : Expr} {ta : TA} {p pos tpos : Pos} {elts : List Expr} {kk : Nat} (hg : Gl X "enumerate") (hm : X.mg "enumerate" = none) (ha : PA X [e] ta) (hs : starEach [e] X.env = [(false, eval e X.env)] := by rfl) :
    PI X (.Tuple elts kk tpos) (.Call (.Name "enumerate" p) [e] [] pos) (iEnumT X.K ta) := by
  refine ⟨fun pins sh σ H R I h => ?_⟩
  refine Call_ (ld_blt I hg hm boot_enumerate (PyProof.Rows.callWith_type1 (thn (ha.run pos pins sh σ H _ I h) fun us s1 ⟨vs, H1, I1, r1, q1⟩ => ?_) hs rfl))
  obtain ⟨a, xs, ex, hq, q⟩ := q1
  subst ex
  cases r1 with
  | cons r rr =>
    cases rr
    cases r
    obtain ⟨its, rv, tp, _⟩ := I1.tuple hq
    have la : a < s1.heap.objs.size := by
      obtain ⟨o, q1, _⟩ := tp
      exact Heap.lt_size q1
    refine call_enum1 (begins_tuple a its.toArray) (show s1.heap.IsTuple a its.toArray from tp) fun h' he hit hsz hk => wpAny_pyIter_enum he ?_
    have I2 : Inv X pins σ H1 { s1 with heap := h' } := I1.kept (t' := s1.toks) hk
    refine ⟨s1.heap.objs.size + 1, [s1.heap.objs.size + 1, s1.heap.objs.size], _, _, H1, rfl, I2, turn_enumT a (s1.heap.objs.size + 1) s1.heap.objs.size,
      ⟨⟨.none, he⟩, ⟨_, hit, rfl, rfl⟩, Nat.succ_ne_self _, Nat.ne_of_gt (Nat.lt_succ_of_lt la), Nat.ne_of_lt la⟩, fun b hb => ?_, q⟩
    have hle : s1.heap.objs.size ≤ b := by
      rcases (show b = s1.heap.objs.size + 1 ∨ b = s1.heap.objs.size by simpa using hb) with z | z
      · rw [z]; exact Nat.le_add_right _ _
      · rw [z]; exact Nat.le_refl _
    exact I1.fpOk hle (I1.hok.fresh hle)
theorem walk_enumT {K : PySem.W.Frag} {a : Addr} {xs : List V} : Walk (ItEt K a) xs.length (fun H => SqT K H a xs) (YPair (fun i => some (.int (i : Nat))) (fun i => xs[i]?)) :=
  ⟨fun i _ hi q => ⟨xs, xs[i], q, by simp [hi]⟩, fun _ q => ⟨xs, q, rfl⟩, fun i H v H' _ q y => let ⟨p, x, h1, h2, h3, h4⟩ := y; ⟨p, .int (i : Nat), x, h1, h2, h3, rfl, h4 xs q⟩⟩
end HW
end
section
set_option Elab.async false
set_option linter.all false
set_option maxRecDepth 100000
set_option maxHeartbeats 0

namespace HW
open PySem PySem.Spec PyProof.Rows L2
def top (i : Nat) : Stmt := PySem.Challenge.pw_holeform_k74_whole_texts_answered.main.body.getD i (.Pass ⟨0, 0, 0, 0⟩)
abbrev s_inner_terms : Stmt := top 15
abbrev s_with_names : Stmt := top 16
abbrev s_raised : Stmt := top 17
abbrev s_put_in : Stmt := top 18
abbrev s_holes_of : Stmt := top 19
abbrev s_plain_signs : Stmt := top 20
abbrev s_filled_within : Stmt := top 22
abbrev s_filled : Stmt := top 23
abbrev s_behind : Stmt := top 24
abbrev s_told_names : Stmt := top 26
abbrev s_is_straight : Stmt := top 27
abbrev s_outer_names : Stmt := top 28
abbrev s_counted_anew : Stmt := top 29
abbrev s_closed_over : Stmt := top 30
abbrev s_alike_heads : Stmt := top 34
abbrev s_leaves_of : Stmt := top 35
abbrev s_fault_in : Stmt := top 36
abbrev s_fault_of : Stmt := top 37
abbrev s_kept_of : Stmt := top 38
abbrev s_too_much_told : Stmt := top 39
abbrev s_Solver_init : Stmt := inClass (top 40) 0
abbrev s_Solver_new_word : Stmt := inClass (top 40) 1
abbrev s_Solver_fill : Stmt := inClass (top 40) 2
abbrev s_Solver_tell_less : Stmt := inClass (top 40) 3
abbrev s_Solver_go_on : Stmt := inClass (top 40) 4
abbrev s_Solver_turn : Stmt := inClass (top 40) 5
abbrev s_solved_apart : Stmt := top 41
abbrev s_solved : Stmt := top 42
abbrev s_Board_init : Stmt := inClass (top 44) 0
abbrev s_Board_tell : Stmt := inClass (top 44) 1
abbrev s_Board_back : Stmt := inClass (top 44) 2
abbrev s_Board_pairs : Stmt := inClass (top 44) 3
abbrev s_Board_outcome : Stmt := inClass (top 44) 4
abbrev s_Board_filling_for : Stmt := inClass (top 44) 5
abbrev s_Board_fill : Stmt := inClass (top 44) 6
abbrev s_Board_stands : Stmt := inClass (top 44) 7
abbrev s_word_by : Stmt := top 51
abbrev s_first_words : Stmt := top 52
abbrev s_shown_part : Stmt := top 54
abbrev s_shown_in : Stmt := top 55
abbrev s_shown : Stmt := top 56
abbrev s_words_of : Stmt := top 66
abbrev s_word_at : Stmt := top 67
abbrev s_is_lettered : Stmt := top 68
abbrev s_look_for : Stmt := top 69
abbrev s_bound_words : Stmt := top 70
abbrev s_part_from : Stmt := top 71
abbrev s_row_from : Stmt := top 72
abbrev s_hole_from : Stmt := top 73
abbrev s_term_from : Stmt := top 74
abbrev s_look_at_holes : Stmt := top 75
abbrev s_read : Stmt := top 76
abbrev s_parted : Stmt := top 93
abbrev s_pair_of : Stmt := top 95
abbrev s_look_alike : Stmt := top 96
abbrev s_Desk_init : Stmt := inClass (top 97) 0
abbrev s_Desk_say : Stmt := inClass (top 97) 1
abbrev s_Desk_alone : Stmt := inClass (top 97) 2
abbrev s_Desk_known : Stmt := inClass (top 97) 3
abbrev s_Desk_pair : Stmt := inClass (top 97) 5
abbrev s_Desk_fill : Stmt := inClass (top 97) 6
abbrev s_law_cell_at : Stmt := top 99
abbrev s_law_mix : Stmt := top 100
abbrev s_law_words : Stmt := top 101
abbrev s_law_free : Stmt := top 102
abbrev s_law_leaf : Stmt := top 103
abbrev s_law_straight : Stmt := top 104
abbrev s_law_few : Stmt := top 105
abbrev s_law_pair : Stmt := top 106
abbrev s_law_told : Stmt := top 107
abbrev s_law_filled_alike : Stmt := top 108
abbrev s_law_shut : Stmt := top 109
abbrev s_law : Stmt := top 110
def d_inner_terms : He.DefD := ⟨("inner_terms", none), "inner_terms", "inner_terms", defArgs s_inner_terms, defBody s_inner_terms, defScope s_inner_terms, [], []⟩
def d_with_names : He.DefD := ⟨("with_names", none), "with_names", "with_names", defArgs s_with_names, defBody s_with_names, defScope s_with_names, [.int 0], []⟩
def d_raised : He.DefD := ⟨("raised", none), "raised", "raised", defArgs s_raised, defBody s_raised, defScope s_raised, [.int 0], []⟩
def d_put_in : He.DefD := ⟨("put_in", none), "put_in", "put_in", defArgs s_put_in, defBody s_put_in, defScope s_put_in, [], []⟩
def d_holes_of : He.DefD := ⟨("holes_of", none), "holes_of", "holes_of", defArgs s_holes_of, defBody s_holes_of, defScope s_holes_of, [], []⟩
def d_plain_signs : He.DefD := ⟨("plain_signs", none), "plain_signs", "plain_signs", defArgs s_plain_signs, defBody s_plain_signs, defScope s_plain_signs, [], []⟩
def d_filled_within : He.DefD := ⟨("filled_within", none), "filled_within", "filled_within", defArgs s_filled_within, defBody s_filled_within, defScope s_filled_within, [], []⟩
def d_filled : He.DefD := ⟨("filled", none), "filled", "filled", defArgs s_filled, defBody s_filled, defScope s_filled, [], []⟩
def d_behind : He.DefD := ⟨("behind", none), "behind", "behind", defArgs s_behind, defBody s_behind, defScope s_behind, [], []⟩
def d_told_names : He.DefD := ⟨("told_names", none), "told_names", "told_names", defArgs s_told_names, defBody s_told_names, defScope s_told_names, [], []⟩
def d_is_straight : He.DefD := ⟨("is_straight", none), "is_straight", "is_straight", defArgs s_is_straight, defBody s_is_straight, defScope s_is_straight, [], []⟩
def d_outer_names : He.DefD := ⟨("outer_names", none), "outer_names", "outer_names", defArgs s_outer_names, defBody s_outer_names, defScope s_outer_names, [], []⟩
def d_counted_anew : He.DefD := ⟨("counted_anew", none), "counted_anew", "counted_anew", defArgs s_counted_anew, defBody s_counted_anew, defScope s_counted_anew, [], []⟩
def d_closed_over : He.DefD := ⟨("closed_over", none), "closed_over", "closed_over", defArgs s_closed_over, defBody s_closed_over, defScope s_closed_over, [], []⟩
def d_alike_heads : He.DefD := ⟨("alike_heads", none), "alike_heads", "alike_heads", defArgs s_alike_heads, defBody s_alike_heads, defScope s_alike_heads, [], []⟩
def d_leaves_of : He.DefD := ⟨("leaves_of", none), "leaves_of", "leaves_of", defArgs s_leaves_of, defBody s_leaves_of, defScope s_leaves_of, [], []⟩
def d_fault_in : He.DefD := ⟨("fault_in", none), "fault_in", "fault_in", defArgs s_fault_in, defBody s_fault_in, defScope s_fault_in, [], []⟩
def d_fault_of : He.DefD := ⟨("fault_of", none), "fault_of", "fault_of", defArgs s_fault_of, defBody s_fault_of, defScope s_fault_of, [], []⟩
def d_kept_of : He.DefD := ⟨("kept_of", none), "kept_of", "kept_of", defArgs s_kept_of, defBody s_kept_of, defScope s_kept_of, [], []⟩
def d_too_much_told : He.DefD := ⟨("too_much_told", none), "too_much_told", "too_much_told", defArgs s_too_much_told, defBody s_too_much_told, defScope s_too_much_told, [], []⟩
def d_Solver_init : He.DefD := ⟨("Solver", some "__init__"), "__init__", "Solver.__init__", defArgs s_Solver_init, defBody s_Solver_init, defScope s_Solver_init, [], []⟩
def d_Solver_new_word : He.DefD := ⟨("Solver", some "new_word"), "new_word", "Solver.new_word", defArgs s_Solver_new_word, defBody s_Solver_new_word, defScope s_Solver_new_word, [], []⟩
def d_Solver_fill : He.DefD := ⟨("Solver", some "fill"), "fill", "Solver.fill", defArgs s_Solver_fill, defBody s_Solver_fill, defScope s_Solver_fill, [], []⟩
def d_Solver_tell_less : He.DefD := ⟨("Solver", some "tell_less"), "tell_less", "Solver.tell_less", defArgs s_Solver_tell_less, defBody s_Solver_tell_less, defScope s_Solver_tell_less, [], []⟩
def d_Solver_go_on : He.DefD := ⟨("Solver", some "go_on"), "go_on", "Solver.go_on", defArgs s_Solver_go_on, defBody s_Solver_go_on, defScope s_Solver_go_on, [], []⟩
def d_Solver_turn : He.DefD := ⟨("Solver", some "turn"), "turn", "Solver.turn", defArgs s_Solver_turn, defBody s_Solver_turn, defScope s_Solver_turn, [], []⟩
def d_solved_apart : He.DefD := ⟨("solved_apart", none), "solved_apart", "solved_apart", defArgs s_solved_apart, defBody s_solved_apart, defScope s_solved_apart, [], []⟩
def d_solved : He.DefD := ⟨("solved", none), "solved", "solved", defArgs s_solved, defBody s_solved, defScope s_solved, [], []⟩
def d_Board_init : He.DefD := ⟨("Board", some "__init__"), "__init__", "Board.__init__", defArgs s_Board_init, defBody s_Board_init, defScope s_Board_init, [], []⟩
def d_Board_tell : He.DefD := ⟨("Board", some "tell"), "tell", "Board.tell", defArgs s_Board_tell, defBody s_Board_tell, defScope s_Board_tell, [], []⟩
def d_Board_back : He.DefD := ⟨("Board", some "back"), "back", "Board.back", defArgs s_Board_back, defBody s_Board_back, defScope s_Board_back, [], []⟩
def d_Board_pairs : He.DefD := ⟨("Board", some "pairs"), "pairs", "Board.pairs", defArgs s_Board_pairs, defBody s_Board_pairs, defScope s_Board_pairs, [], []⟩
def d_Board_outcome : He.DefD := ⟨("Board", some "outcome"), "outcome", "Board.outcome", defArgs s_Board_outcome, defBody s_Board_outcome, defScope s_Board_outcome, [], []⟩
def d_Board_filling_for : He.DefD := ⟨("Board", some "filling_for"), "filling_for", "Board.filling_for", defArgs s_Board_filling_for, defBody s_Board_filling_for, defScope s_Board_filling_for, [], []⟩
def d_Board_fill : He.DefD := ⟨("Board", some "fill"), "fill", "Board.fill", defArgs s_Board_fill, defBody s_Board_fill, defScope s_Board_fill, [], []⟩
def d_Board_stands : He.DefD := ⟨("Board", some "stands"), "stands", "Board.stands", defArgs s_Board_stands, defBody s_Board_stands, defScope s_Board_stands, [], []⟩
def d_word_by : He.DefD := ⟨("word_by", none), "word_by", "word_by", defArgs s_word_by, defBody s_word_by, defScope s_word_by, [], []⟩
def d_first_words : He.DefD := ⟨("first_words", none), "first_words", "first_words", defArgs s_first_words, defBody s_first_words, defScope s_first_words, [], []⟩
def d_shown_part : He.DefD := ⟨("shown_part", none), "shown_part", "shown_part", defArgs s_shown_part, defBody s_shown_part, defScope s_shown_part, [], []⟩
def d_shown_in : He.DefD := ⟨("shown_in", none), "shown_in", "shown_in", defArgs s_shown_in, defBody s_shown_in, defScope s_shown_in, [], []⟩
def d_shown : He.DefD := ⟨("shown", none), "shown", "shown", defArgs s_shown, defBody s_shown, defScope s_shown, [.int 0], []⟩
def d_words_of : He.DefD := ⟨("words_of", none), "words_of", "words_of", defArgs s_words_of, defBody s_words_of, defScope s_words_of, [], []⟩
def d_word_at : He.DefD := ⟨("word_at", none), "word_at", "word_at", defArgs s_word_at, defBody s_word_at, defScope s_word_at, [], []⟩
def d_is_lettered : He.DefD := ⟨("is_lettered", none), "is_lettered", "is_lettered", defArgs s_is_lettered, defBody s_is_lettered, defScope s_is_lettered, [], []⟩
def d_look_for : He.DefD := ⟨("look_for", none), "look_for", "look_for", defArgs s_look_for, defBody s_look_for, defScope s_look_for, [], []⟩
def d_bound_words : He.DefD := ⟨("bound_words", none), "bound_words", "bound_words", defArgs s_bound_words, defBody s_bound_words, defScope s_bound_words, [], []⟩
def d_part_from : He.DefD := ⟨("part_from", none), "part_from", "part_from", defArgs s_part_from, defBody s_part_from, defScope s_part_from, [], []⟩
def d_row_from : He.DefD := ⟨("row_from", none), "row_from", "row_from", defArgs s_row_from, defBody s_row_from, defScope s_row_from, [], []⟩
def d_hole_from : He.DefD := ⟨("hole_from", none), "hole_from", "hole_from", defArgs s_hole_from, defBody s_hole_from, defScope s_hole_from, [], []⟩
def d_term_from : He.DefD := ⟨("term_from", none), "term_from", "term_from", defArgs s_term_from, defBody s_term_from, defScope s_term_from, [], []⟩
def d_look_at_holes : He.DefD := ⟨("look_at_holes", none), "look_at_holes", "look_at_holes", defArgs s_look_at_holes, defBody s_look_at_holes, defScope s_look_at_holes, [], []⟩
def d_read : He.DefD := ⟨("read", none), "read", "read", defArgs s_read, defBody s_read, defScope s_read, [.non], []⟩
def d_parted : He.DefD := ⟨("parted", none), "parted", "parted", defArgs s_parted, defBody s_parted, defScope s_parted, [], []⟩
def d_pair_of : He.DefD := ⟨("pair_of", none), "pair_of", "pair_of", defArgs s_pair_of, defBody s_pair_of, defScope s_pair_of, [], []⟩
def d_look_alike : He.DefD := ⟨("look_alike", none), "look_alike", "look_alike", defArgs s_look_alike, defBody s_look_alike, defScope s_look_alike, [], []⟩
def d_Desk_init : He.DefD := ⟨("Desk", some "__init__"), "__init__", "Desk.__init__", defArgs s_Desk_init, defBody s_Desk_init, defScope s_Desk_init, [], []⟩
def d_Desk_say : He.DefD := ⟨("Desk", some "say"), "say", "Desk.say", defArgs s_Desk_say, defBody s_Desk_say, defScope s_Desk_say, [], []⟩
def d_Desk_alone : He.DefD := ⟨("Desk", some "alone"), "alone", "Desk.alone", defArgs s_Desk_alone, defBody s_Desk_alone, defScope s_Desk_alone, [], []⟩
def d_Desk_known : He.DefD := ⟨("Desk", some "known"), "known", "Desk.known", defArgs s_Desk_known, defBody s_Desk_known, defScope s_Desk_known, [], []⟩
def d_Desk_pair : He.DefD := ⟨("Desk", some "pair"), "pair", "Desk.pair", defArgs s_Desk_pair, defBody s_Desk_pair, defScope s_Desk_pair, [], []⟩
def d_Desk_fill : He.DefD := ⟨("Desk", some "fill"), "fill", "Desk.fill", defArgs s_Desk_fill, defBody s_Desk_fill, defScope s_Desk_fill, [], []⟩
def d_law_cell_at : He.DefD := ⟨("_law_cell_at", none), "_law_cell_at", "_law_cell_at", defArgs s_law_cell_at, defBody s_law_cell_at, defScope s_law_cell_at, [], []⟩
def d_law_mix : He.DefD := ⟨("_law_mix", none), "_law_mix", "_law_mix", defArgs s_law_mix, defBody s_law_mix, defScope s_law_mix, [], []⟩
def d_law_words : He.DefD := ⟨("_law_words", none), "_law_words", "_law_words", defArgs s_law_words, defBody s_law_words, defScope s_law_words, [], []⟩
def d_law_free : He.DefD := ⟨("_law_free", none), "_law_free", "_law_free", defArgs s_law_free, defBody s_law_free, defScope s_law_free, [], []⟩
def d_law_leaf : He.DefD := ⟨("_law_leaf", none), "_law_leaf", "_law_leaf", defArgs s_law_leaf, defBody s_law_leaf, defScope s_law_leaf, [], []⟩
def d_law_straight : He.DefD := ⟨("_law_straight", none), "_law_straight", "_law_straight", defArgs s_law_straight, defBody s_law_straight, defScope s_law_straight, [], []⟩
def d_law_few : He.DefD := ⟨("_law_few", none), "_law_few", "_law_few", defArgs s_law_few, defBody s_law_few, defScope s_law_few, [], []⟩
def d_law_pair : He.DefD := ⟨("_law_pair", none), "_law_pair", "_law_pair", defArgs s_law_pair, defBody s_law_pair, defScope s_law_pair, [], []⟩
def d_law_told : He.DefD := ⟨("_law_told", none), "_law_told", "_law_told", defArgs s_law_told, defBody s_law_told, defScope s_law_told, [], []⟩
def d_law_filled_alike : He.DefD := ⟨("_law_filled_alike", none), "_law_filled_alike", "_law_filled_alike", defArgs s_law_filled_alike, defBody s_law_filled_alike, defScope s_law_filled_alike, [], []⟩
def d_law_shut : He.DefD := ⟨("_law_shut", none), "_law_shut", "_law_shut", defArgs s_law_shut, defBody s_law_shut, defScope s_law_shut, [], []⟩
def d_law : He.DefD := ⟨("law", none), "law", "law", defArgs s_law, defBody s_law, defScope s_law, [], []⟩
def fn : List He.DefD := [d_inner_terms, d_with_names, d_raised, d_put_in, d_holes_of, d_plain_signs, d_filled_within, d_filled, d_behind, d_told_names, d_is_straight, d_outer_names, d_counted_anew, d_closed_over, d_alike_heads, d_leaves_of, d_fault_in, d_fault_of, d_kept_of, d_too_much_told, d_Solver_init, d_Solver_new_word, d_Solver_fill, d_Solver_tell_less, d_Solver_go_on, d_Solver_turn, d_solved_apart, d_solved, d_Board_init, d_Board_tell, d_Board_back, d_Board_pairs, d_Board_outcome, d_Board_filling_for, d_Board_fill, d_Board_stands, d_word_by, d_first_words, d_shown_part, d_shown_in, d_shown, d_words_of, d_word_at, d_is_lettered, d_look_for, d_bound_words, d_part_from, d_row_from, d_hole_from, d_term_from, d_look_at_holes, d_read, d_parted, d_pair_of, d_look_alike, d_Desk_init, d_Desk_say, d_Desk_alone, d_Desk_known, d_Desk_pair, d_Desk_fill, d_law_cell_at, d_law_mix, d_law_words, d_law_free, d_law_leaf, d_law_straight, d_law_few, d_law_pair, d_law_told, d_law_filled_alike, d_law_shut, d_law]
def fa0 : List He.Fa := [.glo "inner_terms", .glo "with_names", .glo "raised", .glo "put_in", .glo "holes_of", .glo "plain_signs", .glo "filled_within", .glo "filled", .glo "behind", .glo "told_names", .glo "is_straight", .glo "outer_names", .glo "counted_anew", .glo "closed_over", .glo "alike_heads", .glo "leaves_of", .glo "fault_in", .glo "fault_of", .glo "kept_of", .glo "too_much_told", .glo "solved_apart", .glo "solved", .glo "word_by", .glo "first_words", .glo "shown_part", .glo "shown_in", .glo "shown", .glo "words_of", .glo "word_at", .glo "is_lettered", .glo "look_for", .glo "bound_words", .glo "part_from", .glo "row_from", .glo "hole_from", .glo "term_from", .glo "look_at_holes", .glo "read", .glo "parted", .glo "pair_of"]
def fa1 : List He.Fa := [.glo "look_alike", .glo "_law_cell_at", .glo "_law_mix", .glo "_law_words", .glo "_law_free", .glo "_law_leaf", .glo "_law_straight", .glo "_law_few", .glo "_law_pair", .glo "_law_told", .glo "_law_filled_alike", .glo "_law_shut", .glo "law", .glo "Solver", .glo "Board", .glo "Desk", .glo "Clash", .glo "NoText", .free "len", .free "isinstance", .free "list", .free "tuple", .free "range", .free "enumerate", .free "sorted", .free "set", .free "dict", .free "sum", .free "min", .free "max", .free "any", .free "all", .free "divmod", .free "reversed", .free "str", .free "int", .free "bool", .str "LETTERS_solving" "abcdefghijklmnopqrstuvwxyz", .str "LETTERS_showing" "abcdefghijklmnopqrstuvwxyz", .str "LETTERS_reading" "abcdefghijklmnopqrstuvwxyz"]
def fa2 : List He.Fa := [.str "MARKS" "()[],.?", .int "NEW_LETTERS" 6, .int "LONGEST" 8, .cls "Solver", .mkr "Solver", .noat "Solver" "sides", .noat "Solver" "others", .noat "Solver" "own", .noat "Solver" "made", .noat "Solver" "so_far", .meth "Solver" "new_word", .meth "Solver" "fill", .meth "Solver" "tell_less", .meth "Solver" "go_on", .meth "Solver" "turn", .cls "Board", .mkr "Board", .noat "Board" "told_pairs", .meth "Board" "tell", .meth "Board" "back", .meth "Board" "pairs", .meth "Board" "outcome", .meth "Board" "filling_for", .meth "Board" "fill", .meth "Board" "stands", .cls "Desk", .mkr "Desk", .noat "Desk" "board", .noat "Desk" "rules", .meth "Desk" "say", .meth "Desk" "alone", .meth "Desk" "known", .meth "Desk" "pair", .meth "Desk" "fill", .exc "Clash", .exm "Clash" "Clash" true, .glo "ALONE"]
def fa : List He.Fa := fa0 ++ (fa1 ++ (fa2))
def names0 : List PySem.Str := ["HoleError", "NoText", "NotStraight", "NoPair", "Clash", "NoRule", "NoRow", "LETTERS_terms", "MOST_LETTERS", "is_count", "is_word", "is_part", "is_term", "inner_terms", "with_names", "raised", "put_in", "holes_of", "plain_signs", "filled_within"]
def names1 : List PySem.Str := ["filled", "behind", "told_names", "is_straight", "outer_names", "counted_anew", "closed_over", "LETTERS_solving", "NEW_LETTERS", "alike_heads", "leaves_of", "fault_in", "fault_of", "kept_of", "too_much_told", "Solver", "solved_apart", "solved", "Board", "places"]
def names2 : List PySem.Str := ["at", "changed", "LETTERS_showing", "word_by", "first_words", "names_for", "shown_part", "shown_in", "shown", "lifted", "new_words", "overlap_at", "overlaps", "LETTERS_reading", "MARKS", "LONGEST", "words_of", "word_at", "is_lettered", "look_for"]
def names3 : List PySem.Str := ["bound_words", "part_from", "row_from", "hole_from", "term_from", "look_at_holes", "read", "hole_matches", "matches", "matched", "holes_alike", "is_rule", "stepped", "steps_at", "steps", "first_step", "walk", "meet", "MOST_STEPS", "ALONE"]
def names4 : List PySem.Str := ["parted", "names_of", "pair_of", "look_alike", "Desk", "_law_cell_at", "_law_mix", "_law_words", "_law_free", "_law_leaf", "_law_straight", "_law_few", "_law_pair", "_law_told", "_law_filled_alike", "_law_shut"]
def names : List PySem.Str := names0 ++ (names1 ++ (names2 ++ (names3 ++ (names4))))
def tf : List He.Defn := [("raised", none), ("put_in", none)]
def exT (K : PySem.W.Frag) : Bool := He.tupB K "ALONE" [.str "back", .str "overlaps", .str "meet"] && decide ((He.cT K ("raised", none)).2 ≠ (He.cT K ("put_in", none)).2)

/-! ### a hook whose part of the heap is a written list of addresses -/
def obA (as : List Addr) (fa : List He.Fa) (fn : List He.DefD) (tf : List He.Defn) (ex : PySem.W.Frag → Bool) (g : Addr → Option Obj) : He.AlX :=
  (He.obsT fa fn [] (He.frT g as), ex (He.frT g as) && He.tabsB g tf (He.frT g as))
theorem obA_says {as : List Addr} {fa : List He.Fa} {fn : List He.DefD} {tf : List He.Defn} {ex : PySem.W.Frag → Bool} {w : World} {hp : Heap}
    (hq : obA as fa fn tf ex hp.get? = He.valX fn [] w) : He.SaysX fa fn [] tf ex w hp (He.frT hp.get? as) := by
  have q1 : He.obsT fa fn [] (He.frT hp.get? as) = He.valT fn [] w := congrArg Prod.fst hq
  have q2 : (ex (He.frT hp.get? as) && He.tabsB hp.get? tf (He.frT hp.get? as)) = true := congrArg Prod.snd hq
  have q3 := Bool.and_eq_true_iff.mp q2
  have q4 : ∀ d ∈ tf, PySem.W.codeHdIn (He.frT hp.get? as) (He.cT (He.frT hp.get? as) d).1 (He.cT (He.frT hp.get? as) d).2 = true ∧
      ∃ ob, hp.get? (He.cT (He.frT hp.get? as) d).2 = some ob ∧ He.emptyTab ob = true := fun d hd => by
    have q5 := Bool.and_eq_true_iff.mp (List.all_eq_true.mp q3.2 d hd)
    refine ⟨q5.1, ?_⟩
    have q6 := q5.2
    cases hg : hp.get? (He.cT (He.frT hp.get? as) d).2 with
    | none => rw [hg] at q6; cases q6
    | some ob => rw [hg] at q6; exact ⟨ob, rfl, q6⟩
  exact ⟨q1, q3.1, fun d hd => (q4 d hd).1, fun d hd => (let ⟨_, ob, h1, h2⟩ := q4 d hd; He.frT_none h1 h2),
    fun d hd => (let ⟨_, ob, h1, h2⟩ := q4 d hd; by rw [h1, He.emptyTab_eq h2])⟩
def hkA (as : List Addr) (fa : List He.Fa) (fn : List He.DefD) (tf : List He.Defn) (ex : PySem.W.Frag → Bool) : PySem.W.Hook :=
  { α := He.AlX, obs := fun sh => obA as fa fn tf ex sh.heap.get?, val := fun wd => He.valX fn [] wd
    says := fun wd hp => ∃ K : PySem.W.Frag, K.In hp ∧ He.SaysX fa fn [] tf ex wd hp K
    of := fun _ _ hq => ⟨_, He.frT_in, obA_says hq⟩
    keeps := fun _ _ _ ⟨K, h1, h2⟩ kp => ⟨K, PySem.W.Frag.In.keeps h1 kp, ⟨h2.t, h2.more, h2.hd, h2.out, fun d hd => kp _ _ (h2.empty d hd)⟩⟩ }
theorem obA_eq {as : List Addr} {fa : List He.Fa} {fn : List He.DefD} {tf : List He.Defn} {ex : PySem.W.Frag → Bool} {g : Addr → Option Obj} {sh : Shared}
    (hq : ∀ a, g a = sh.heap.get? a) : obA as fa fn tf ex g = (hkA as fa fn tf ex).obs sh := by
  have hg : g = sh.heap.get? := funext hq
  rw [hg] <;> rfl

def ads0 : List Addr := [3, 6, 4, 24, 37, 49, 61, 73, 85, 97, 106, 111, 118, 124, 129, 135, 143, 150, 157, 164, 169, 176, 183, 190, 195, 202, 207, 214, 219, 226, 233, 240, 247, 254, 300, 311, 318, 384, 393, 400, 407, 414, 421, 429, 436, 441, 449, 454, 461, 468]
def ads1 : List Addr := [475, 480, 487, 494, 501, 508, 515, 522, 529, 536, 543, 551, 558, 565, 572, 577, 584, 591, 598, 605, 612, 619, 624, 625, 632, 637, 644, 651, 715, 726, 733, 738, 745, 752, 757, 764, 771, 778, 785, 792, 797, 0, 23, 36, 48, 60, 72, 84, 96, 105]
def ads2 : List Addr := [110, 117, 123, 119, 128, 134, 130, 142, 136, 149, 156, 163, 168, 175, 182, 189, 194, 201, 206, 213, 218, 225, 232, 239, 246, 253, 299, 310, 317, 383, 392, 399, 406, 413, 420, 428, 422, 435, 440, 448, 442, 453, 460, 467, 474, 479, 486, 493, 500, 507]
def ads3 : List Addr := [514, 521, 528, 535, 542, 550, 544, 557, 564, 571, 576, 583, 590, 597, 604, 611, 618, 623, 631, 636, 643, 650, 714, 725, 732, 737, 744, 751, 756, 763, 770, 777, 784, 791, 796, 22, 25, 35, 47, 59, 71, 83, 95, 100, 101, 102, 103, 104, 107, 108]
def ads4 : List Addr := [109, 112, 113, 114, 115, 116, 120, 121, 122, 125, 126, 127, 131, 132, 133, 137, 138, 139, 140, 141, 144, 145, 146, 147, 148, 151, 152, 153, 154, 155, 158, 159, 160, 161, 162, 165, 166, 167, 170, 171, 172, 173, 174, 177, 178, 179, 180, 181, 184, 185]
def ads5 : List Addr := [186, 187, 188, 191, 192, 193, 196, 197, 198, 199, 200, 203, 204, 205, 208, 209, 210, 211, 212, 215, 216, 217, 220, 221, 222, 223, 224, 227, 228, 229, 230, 231, 234, 235, 236, 237, 238, 241, 242, 243, 244, 245, 248, 249, 250, 251, 252, 268, 275, 280]
def ads6 : List Addr := [285, 290, 297, 298, 301, 302, 305, 306, 307, 308, 309, 312, 313, 314, 315, 316, 332, 339, 346, 353, 360, 367, 374, 381, 382, 385, 386, 389, 390, 391, 394, 395, 396, 397, 398, 401, 402, 403, 404, 405, 408, 409, 410, 411, 412, 415, 416, 417, 418, 419]
def ads7 : List Addr := [423, 424, 425, 426, 427, 430, 431, 432, 433, 434, 437, 438, 439, 443, 444, 445, 446, 447, 450, 451, 452, 455, 456, 457, 458, 459, 462, 463, 464, 465, 466, 469, 470, 471, 472, 473, 476, 477, 478, 481, 482, 483, 484, 485, 488, 489, 490, 491, 492, 495]
def ads8 : List Addr := [496, 497, 498, 499, 502, 503, 504, 505, 506, 509, 510, 511, 512, 513, 516, 517, 518, 519, 520, 523, 524, 525, 526, 527, 530, 531, 532, 533, 534, 537, 538, 539, 540, 541, 545, 546, 547, 548, 549, 552, 553, 554, 555, 556, 559, 560, 561, 562, 563, 566]
def ads9 : List Addr := [567, 568, 569, 570, 573, 574, 575, 578, 579, 580, 581, 582, 585, 586, 587, 588, 589, 592, 593, 594, 595, 596, 599, 600, 601, 602, 603, 606, 607, 608, 609, 610, 613, 614, 615, 616, 617, 620, 621, 622, 626, 627, 628, 629, 630, 633, 634, 635, 638, 639]
def ads10 : List Addr := [640, 641, 642, 645, 646, 647, 648, 649, 665, 672, 677, 684, 691, 698, 705, 712, 713, 716, 717, 720, 721, 722, 723, 724, 727, 728, 729, 730, 731, 734, 735, 736, 739, 740, 741, 742, 743, 746, 747, 748, 749, 750, 753, 754, 755, 758, 759, 760, 761, 762]
def ads11 : List Addr := [765, 766, 767, 768, 769, 772, 773, 774, 775, 776, 779, 780, 781, 782, 783, 786, 787, 788, 789, 790, 793, 794, 795, 267, 274, 279, 284, 289, 296, 331, 338, 345, 352, 359, 366, 373, 380, 664, 671, 676, 683, 690, 697, 704, 711, 262, 263, 264, 265, 266]
def ads12 : List Addr := [269, 270, 271, 272, 273, 276, 277, 278, 281, 282, 283, 286, 287, 288, 291, 292, 293, 294, 295, 326, 327, 328, 329, 330, 333, 334, 335, 336, 337, 340, 341, 342, 343, 344, 347, 348, 349, 350, 351, 354, 355, 356, 357, 358, 361, 362, 363, 364, 365, 368]
def ads13 : List Addr := [369, 370, 371, 372, 375, 376, 377, 378, 379, 659, 660, 661, 662, 663, 666, 667, 668, 669, 670, 673, 674, 675, 678, 679, 680, 681, 682, 685, 686, 687, 688, 689, 692, 693, 694, 695, 696, 699, 700, 701, 702, 703, 706, 707, 708, 709, 710]
def ads : List Addr := ads0 ++ (ads1 ++ (ads2 ++ (ads3 ++ (ads4 ++ (ads5 ++ (ads6 ++ (ads7 ++ (ads8 ++ (ads9 ++ (ads10 ++ (ads11 ++ (ads12 ++ (ads13)))))))))))))
abbrev R : PySem.W.OpenRow := PySem.W.OpenLaw.row PySem.Challenge.rw_holeform_k74_whole_texts_answered
abbrev hk : PySem.W.Hook := hkA ads fa fn tf exT
def ob (s : PySem.W.SharedT) : He.AlX := obA ads fa fn tf exT (HandSHeadRun.getT s)
theorem ob_eq (s : PySem.W.SharedT) : ob s = hk.obs s.abs := obA_eq (HandSHeadRun.getT_eq s)
theorem run (w : World) : HandSHeadRun.RunEq R (PySem.W.view R.prog [110]) hk ob 6000 names w := by
  intro os
  kernel_rfl
end HW
end
section
set_option Elab.async false
set_option linter.all false
set_option maxRecDepth 100000
set_option maxHeartbeats 4000000
namespace HW
open PySem PySem.Spec PyProof.Rows L2 NdefX LamX
/-! ### cells of a function, tracked while another def runs with it -/
def drp (cs : List Addr) (H : Hp) : Hp := fun b => if b ∈ cs then none else H b
def tck (cs : List Addr) (h : Heap) (H : Hp) : Hp := fun b => if b ∈ cs then (h.get? b).map (fun o => HO.frz o (.own 0)) else H b
def put (cs : List Addr) (H0 H : Hp) : Hp := fun b => if b ∈ cs then H0 b else H b
theorem drp_in {cs : List Addr} {H : Hp} {b : Addr} (h : b ∈ cs) : drp cs H b = none := if_pos h
theorem drp_out {cs : List Addr} {H : Hp} {b : Addr} (h : b ∉ cs) : drp cs H b = H b := if_neg h
theorem tck_out {cs : List Addr} {g : Heap} {H : Hp} {b : Addr} (h : b ∉ cs) : tck cs g H b = H b := if_neg h
theorem put_in' {cs : List Addr} {H0 H : Hp} {b : Addr} (h : b ∈ cs) : put cs H0 H b = H0 b := if_pos h
theorem put_out {cs : List Addr} {H0 H : Hp} {b : Addr} (h : b ∉ cs) : put cs H0 H b = H b := if_neg h
/-- at c: a cell known to the object -/
def Fz (H : Hp) (c : Addr) : Prop := ∃ o v, H c = some (.frz o (.own 0)) ∧ o.data = .cell v
def FzV (H : Hp) (c : Addr) (v : V) : Prop := ∃ o u, H c = some (.frz o (.own 0)) ∧ o.data = .cell (some u) ∧ RelV v u
structure CellsT (cl : List (Str × Addr)) (fr : List Str) (ws : List (Option V)) (H : Hp) : Prop where
  len : ws.length = fr.length
  all : ∀ y c, cl.lookup y = some c → Fz H c
  inj : ∀ x y c, cl.lookup x = some c → cl.lookup y = some c → x = y
  has : ∀ (i : Nat) (y : Str), fr[i]? = some y → ∃ c, cl.lookup y = some c ∧ ∀ v, ws[i]? = some (some v) → FzV H c v
def csOf (cl : List (Str × Addr)) : List Addr := cl.filterMap fun p => cl.lookup p.1
theorem mem_cs {cl : List (Str × Addr)} {c : Addr} (h : c ∈ csOf cl) : ∃ y, cl.lookup y = some c := by
  obtain ⟨p, _, e⟩ := List.mem_filterMap.mp h
  exact ⟨p.1, e⟩
theorem cs_mem {cl : List (Str × Addr)} {y : Str} {c : Addr} (h : cl.lookup y = some c) : c ∈ csOf cl := List.mem_filterMap.mpr ⟨(y, c), PySem.mem_of_lookup h, h⟩
section
variable {P : Program} {w : World} {H H' H0 : Hp} {h h' : Heap} {cs fs : List Addr}
theorem hok_drp (ok : HOk P w H h) (hc : ∀ c ∈ cs, ∀ o, H c = some o → ∃ ob u, o = .frz ob u) : HOk P w (drp cs H) h := fun a o e => by
  have na : a ∉ cs := fun z => by rw [drp_in z] at e; cases e
  rw [drp_out na] at e
  refine (ok a o e).stay (fun b u _ q => q) (fun b q => ?_) fun b xs q => ?_
  · rw [drp_out fun z => (let ⟨_, _, z2⟩ := hc b z _ q; by cases z2)]; exact q
  · rw [drp_out fun z => (let ⟨_, _, z2⟩ := hc b z _ q; by cases z2)]; exact q
theorem hok_put (ok : HOk P w H' h') (hn : ∀ c ∈ cs, H' c = none) (hf : ∀ c ∈ cs, ∃ ob, H0 c = some (.frz ob (.own 0)) ∧ h'.get? c = some ob) : HOk P w (put cs H0 H') h' := fun a o e => by
  have st : ∀ b u, H' b = some u → b ∉ cs := fun b u q z => by rw [hn b z] at q; cases q
  by_cases na : a ∈ cs
  · obtain ⟨ob, e1, e2⟩ := hf a na
    rw [put_in' na, e1] at e
    cases e
    exact ⟨e2, ob, e2⟩
  · rw [put_out na] at e
    refine (ok a o e).stay (fun b u _ q => q) (fun b q => ?_) fun b xs q => ?_
    · rw [put_out (st b _ q)]; exact q
    · rw [put_out (st b _ q)]; exact q
theorem hok_tck (ok : HOk P w H h) (hn : ∀ c ∈ cs, H c = none) (hf : ∀ c ∈ cs, ∃ ob, h.get? c = some ob) : HOk P w (tck cs h H) h := by
  have e : tck cs h H = put cs (tck cs h H) H := by
    funext b
    unfold put tck
    by_cases q : b ∈ cs
    · simp only [if_pos q]
    · simp only [if_neg q]
  rw [e]
  refine hok_put ok hn fun c hc => ?_
  obtain ⟨ob, q⟩ := hf c hc
  refine ⟨ob, ?_, q⟩
  unfold tck
  rw [if_pos hc, q] <;> rfl
end
section
variable {P : Program} {w : World} {K : PySem.W.Frag} {mg : Str → Option Value} {base : Heap} {X : Cx} {CX : CXT} {F : NF} {ps fr : List Str} {k j : Nat} {sp : List (Option V) → Sp} {E : XK}
theorem cellsAt_drp {cl : List (Str × Addr)} {ws : List (Option V)} {H : Hp} {h : Heap} (ok : HOk P w H h) (C : CellsT cl fr ws H) : CellsAt cl fr ws h (drp (csOf cl) H) := by
  refine ⟨C.len, fun y c e => ⟨drp_in (cs_mem e), ?_⟩, C.inj, fun i y e => ?_⟩
  · obtain ⟨o, v, h1, h2⟩ := C.all y c e
    exact ⟨v, o, (ok c _ h1).1, h2⟩
  · obtain ⟨c, h1, h2⟩ := C.has i y e
    refine ⟨c, h1, fun v hv => ?_⟩
    obtain ⟨o, u, h3, h4, h5⟩ := h2 v hv
    exact ⟨u, h5, o, (ok c _ h3).1, h4⟩
/-- a function whose cells are tracked is called: it sees the heap without them, they stand again behind it -/
theorem run_clo {pins : List (Addr × Obj)} {σ : L2.St} {H : Hp} {s : Shared} {Q : VK} {f : Addr} {us : List Value} {vs : List V} {ws : List (Option V)} (Fn : NOk X.prog X.w X.K X.mg X.base CX0 k f F ps fr sp) (hr : Room j X.A) (hk : k ≤ j)
    (I : Inv X pins σ H s) (hf : H f = some (FnO f F)) (hc : H F.c = some (CodeO F.c F.qual)) (C : CellsT F.cl fr ws H) (r : Vals vs us) (q : sp ws vs (drp (csOf F.cl) H) (fun v H2 => (∀ c ∈ csOf F.cl, H2 c = none) → Q v (put (csOf F.cl) H H2)) E0) :
    wpAny (model X.prog X.w) X.A (call (.ref f) us) (EP X pins σ Q) X.xe s := by
  have e0 := I.env0
  have fz : ∀ c ∈ csOf F.cl, Fz H c := fun c hc => (let ⟨y, e⟩ := mem_cs hc; C.all y c e)
  have frz : ∀ c ∈ csOf F.cl, ∀ o, H c = some o → ∃ ob u, o = .frz ob u := fun c hc o e => by
    obtain ⟨ob, v, h1, _⟩ := fz c hc
    rw [h1] at e
    cases e
    exact ⟨_, _, rfl⟩
  have nf : f ∉ csOf F.cl := fun z => by
    obtain ⟨ob, u, e⟩ := frz f z _ hf
    unfold FnO at e
    cases e
  have nc : F.c ∉ csOf F.cl := fun z => by
    obtain ⟨ob, u, e⟩ := frz F.c z _ hc
    unfold CodeO at e
    cases e
  have sub : ∀ b, H b = none → drp (csOf F.cl) H b = none := fun b e => by
    by_cases z : b ∈ csOf F.cl
    · exact drp_in z
    · rw [drp_out z]; exact e
  have e1 : Env0 X.prog X.w X.K X.mg X.base X.A X.stack s (drp (csOf F.cl) H) :=
    ⟨e0.frames, e0.mod, fun b o e => ⟨(e0.bs b o e).1, sub b (e0.bs b o e).2⟩, e0.bsz, e0.funs, fun b hb => sub b (e0.frf b hb), hok_drp e0.hok frz, e0.bare⟩
  refine wpAny_call (codeAny_mono (Fn.run X.A X.stack s _ us vs ws _ E0 (hr.mono hk) e1 (by rw [drp_out nf]; exact hf) (by rw [drp_out nc]; exact hc) (cellsAt_drp e0.hok C) r q) fun r s' hq => ?_)
  cases r with
  | error e => exact False.elim hq
  | ok fl =>
    cases fl with
    | next => exact False.elim hq
    | brk => exact False.elim hq
    | cont => exact False.elim hq
    | ret u =>
      obtain ⟨v, H2, os, bare, un, hok, rv, qv⟩ := hq
      have cellN : ∀ c ∈ csOf F.cl, H2 c = none := fun c hc => by
        obtain ⟨ob, v, h1, _⟩ := fz c hc
        exact un.free c ob ((e0.hok c _ h1).1) (drp_in hc) (by simp)
      have cellK : ∀ c ∈ csOf F.cl, ∃ ob, H c = some (.frz ob (.own 0)) ∧ s'.heap.get? c = some ob := fun c hc => by
        obtain ⟨ob, v, h1, _⟩ := fz c hc
        refine ⟨ob, h1, un.keep c ob ((e0.hok c _ h1).1) (drp_in hc) (fun z => ?_) (by simp)⟩
        have := e0.frf c z
        rw [h1] at this
        cases this
      refine I.after ⟨v, put (csOf F.cl) H H2, os, bare, ?_, hok_put hok cellN cellK, rv, qv cellN⟩
      have out : ∀ b, H b = none → b ∉ csOf F.cl := fun b e z => by
        obtain ⟨ob, v, h1, _⟩ := fz b z
        rw [e] at h1
        cases h1
      have out2 : ∀ b o, H b = some o → (∀ ob u, o ≠ .frz ob u) → b ∉ csOf F.cl := fun b o e n z => by
        obtain ⟨ob, u, e2⟩ := frz b z o e
        exact n ob u e2
      refine ⟨fun b o e n hb hx => un.keep b o e (sub b n) hb hx, fun b o e n hb hx => un.slot b o e (sub b n) hb hx, fun b o e n hx => ?_, un.there, fun b xs e => ?_, fun b o u e => ?_, fun b ps e => ?_⟩
      · rw [put_out (out b n)]; exact un.free b o e (sub b n) hx
      · have nb := out2 b _ e (fun _ _ z => by cases z)
        rw [put_out nb]; exact un.tups b xs (by rw [drp_out nb]; exact e)
      · by_cases z : b ∈ csOf F.cl
        · rw [put_in' z]; exact e
        · rw [put_out z]; exact un.frzs b o u (by rw [drp_out z]; exact e)
      · have nb := out2 b _ e (fun _ _ z => by cases z)
        obtain ⟨more, z⟩ := un.tbls b ps (by rw [drp_out nb]; exact e)
        exact ⟨more, by rw [put_out nb]; exact z⟩
/-- a def is called while the cells of a function made here are tracked -/
theorem run_trk {pins : List (Addr × Obj)} {σ : L2.St} {H : Hp} {s : Shared} {Q : VK} {f : Addr} {fd : FuncData} {us : List Value} {vs : List V} {ds : List Value} {dvs : List V} {qs : List Str} {sq : Sp} {cl : List (Str × Addr)} {js : List Nat}
    (Fn : FnOk X.prog X.w X.K X.mg X.base CX0 k f fd qs sq) (hr : Room k X.A) (hb : Binds X.K fd qs ds) (hd : Vals dvs ds) (hfn : ∀ x, X.fn x = true) (cp : Caps X cl fr js)
    (I : Inv X pins σ H s) (r : Vals vs us) (q : ∀ H1, CellsT cl fr (js.map (slotAt σ)) H1 → (∀ b, b ∉ csOf cl → H1 b = H b) → (∀ c ∈ csOf cl, H c = none) → sq (vs ++ dvs) H1 (fun v H2 => (∀ c ∈ csOf cl, ∃ ob, H2 c = some (.frz ob (.own 0))) → Q v (drp (csOf cl) H2)) E0) :
    wpAny (model X.prog X.w) X.A (call (.ref f) us) (EP X pins σ Q) X.xe s := by
  have e0 := I.env0
  have CA := cells_of I cp
  have inC : ∀ c ∈ csOf cl, ∃ y, X.env.cells.lookup y = some c := fun c hc => (let ⟨y, e⟩ := mem_cs hc; ⟨y, cp.sub y c e⟩)
  have nH : ∀ c ∈ csOf cl, H c = none := fun c hc => (let ⟨y, e⟩ := mem_cs hc; (CA.all y c e).1)
  have obj : ∀ c ∈ csOf cl, ∃ ob v, s.heap.get? c = some ob ∧ ob.data = .cell v := fun c hc => by
    obtain ⟨y, e⟩ := mem_cs hc
    obtain ⟨v, ob, h1, h2⟩ := (CA.all y c e).2
    exact ⟨ob, v, h1, h2⟩
  have hi : ∀ c ∈ csOf cl, X.s_0.heap.objs.size ≤ c := fun c hc => (let ⟨y, e⟩ := inC c hc; I.ok.cab y c (hfn y) e)
  have nfr : ∀ b ∈ frs X.stack, b ∉ csOf cl := fun b hb hc => by
    have low : ∀ {l : List Env}, X.s_0.heap.FunFrames X.base l → b ∈ frs l → b < X.s_0.heap.objs.size := fun {l} => by
      induction l with
      | nil => intro _ z; exact absurd (show b ∈ ([] : List Addr) from z) (by simp)
      | cons en rest ih =>
        intro g z
        obtain ⟨_, ⟨L, o, g1, _, g2, _⟩, g3⟩ := g
        unfold frs at z
        rw [List.filterMap_cons, g1] at z
        rcases List.mem_cons.mp z with z | z
        · rw [z]; exact Heap.lt_size g2
        · exact ih g3 z
    rcases I.ok.stk with e | ⟨e, e2⟩
    · rw [e] at hb
      exact absurd (hi b hc) (Nat.not_le.mpr (low I.ok.funs hb))
    · rw [e] at hb
      unfold frs at hb
      rw [List.filterMap_cons, e2] at hb
      rcases List.mem_cons.mp hb with z | z
      · obtain ⟨y, ey⟩ := inC b hc
        exact I.cne y b ey z
      · exact absurd (hi b hc) (Nat.not_le.mpr (low I.ok.funs z))
  have HN : ∀ b, b ∉ csOf cl → H b = none → tck (csOf cl) s.heap H b = none := fun b nb e => by rw [tck_out nb]; exact e
  have tat : ∀ c ∈ csOf cl, ∃ ob v, tck (csOf cl) s.heap H c = some (.frz ob (.own 0)) ∧ s.heap.get? c = some ob ∧ ob.data = .cell v := fun c hc => by
    obtain ⟨ob, v, h1, h2⟩ := obj c hc
    refine ⟨ob, v, ?_, h1, h2⟩
    unfold tck
    rw [if_pos hc, h1] <;> rfl
  have e1 : Env0 X.prog X.w X.K X.mg X.base X.A X.stack s (tck (csOf cl) s.heap H) :=
    ⟨e0.frames, e0.mod, fun b o e => ⟨(e0.bs b o e).1, HN b (fun hc => absurd (Nat.lt_of_lt_of_le (Heap.lt_size e) I.ok.bsz) (Nat.not_lt.mpr (hi b hc))) (e0.bs b o e).2⟩, e0.bsz, e0.funs, fun b hb => HN b (nfr b hb) (e0.frf b hb),
      hok_tck e0.hok nH fun c hc => (let ⟨ob, _, h1, _⟩ := obj c hc; ⟨ob, h1⟩), e0.bare⟩
  have CT : CellsT cl fr (js.map (slotAt σ)) (tck (csOf cl) s.heap H) := by
    refine ⟨CA.len, fun y c e => ?_, CA.inj, fun i y e => ?_⟩
    · obtain ⟨ob, v, h1, h2, h3⟩ := tat c (cs_mem e)
      exact ⟨ob, v, h1, h3⟩
    · obtain ⟨c, h1, h2⟩ := CA.has i y e
      refine ⟨c, h1, fun v hv => ?_⟩
      obtain ⟨u, ru, ob, g1, g2⟩ := h2 v hv
      obtain ⟨ob', v', h3, h4, h5⟩ := tat c (cs_mem h1)
      rw [g1] at h4
      cases h4
      exact ⟨ob, u, h3, g2, ru⟩
  have hs := q _ CT (fun b nb => tck_out nb) nH
  have hl : (us ++ ds).length = qs.length := by
    rw [← (Vals.append r hd).length]; exact Fn.len _ _ _ _ hs
  refine wpAny_call (codeAny_mono (Fn.run X.A X.stack s _ ⟨us, []⟩ (us ++ ds) (vs ++ dvs) _ E0 hr e1 (hb s us I.kIn hl) (Vals.append r hd) hs) fun r s' hq => ?_)
  cases r with
  | error e => exact False.elim hq
  | ok fl =>
    cases fl with
    | next => exact False.elim hq
    | brk => exact False.elim hq
    | cont => exact False.elim hq
    | ret u =>
      obtain ⟨v, H2, os, bare, un, hok, rv, qv⟩ := hq
      have same : ∀ c ∈ csOf cl, ∃ ob, s.heap.get? c = some ob ∧ s'.heap.get? c = some ob ∧ H2 c = some (.frz ob (.own 0)) := fun c hc => by
        obtain ⟨ob, v, h1, h2, h3⟩ := tat c hc
        have h4 := un.frzs c ob _ h1
        exact ⟨ob, h2, (hok c _ h4).1, h4⟩
      refine I.after ⟨v, drp (csOf cl) H2, os, bare, ?_, hok_drp hok fun c hc o e => ?_, rv, qv fun c hc => (let ⟨ob, _, _, z⟩ := same c hc; ⟨ob, z⟩)⟩
      · have sm : ∀ b u, H b = some u → b ∉ csOf cl := fun b u e z => by rw [nH b z] at e; cases e
        refine ⟨fun b o e n hb hx => ?_, fun b o e n hb hx => ?_, fun b o e n hx => ?_, un.there, fun b xs e => ?_, fun b o u e => ?_, fun b ps e => ?_⟩
        · by_cases z : b ∈ csOf cl
          · obtain ⟨ob, h1, h2, _⟩ := same b z
            rw [e] at h1
            cases h1
            exact h2
          · exact un.keep b o e (HN b z n) hb hx
        · exact un.slot b o e (HN b (nfr b hb) n) hb hx
        · by_cases z : b ∈ csOf cl
          · exact drp_in z
          · rw [drp_out z]; exact un.free b o e (HN b z n) hx
        · rw [drp_out (sm b _ e)]; exact un.tups b xs (by rw [tck_out (sm b _ e)]; exact e)
        · rw [drp_out (sm b _ e)]; exact un.frzs b o u (by rw [tck_out (sm b _ e)]; exact e)
        · obtain ⟨more, z⟩ := un.tbls b ps (by rw [tck_out (sm b _ e)]; exact e)
          exact ⟨more, by rw [drp_out (sm b _ e)]; exact z⟩
      · obtain ⟨ob, _, _, h4⟩ := same c hc
        rw [h4] at e
        cases e
        exact ⟨_, _, rfl⟩
end
end HW
end
section
set_option linter.all false
namespace HF
mutual
inductive T (W : Type) where
  | name (k : Nat)
  | sign (w : W) (ps : Ts W)
  | hole (w : W) (ns : List Nat)
inductive Ts (W : Type) where
  | nil
  | cons (m : Nat) (t : T W) (r : Ts W)
end
section
variable {W : Type}
def lift (ρ : Nat → Nat) (c k : Nat) : Nat := if k < c then k else ρ (k - c) + c
def sel (ns : List Nat) (x : Nat) : Nat := ns.getD (ns.length - 1 - x) 0
mutual
def ren (ρ : Nat → Nat) (c : Nat) : T W → T W
  | .name k => .name (lift ρ c k)
  | .sign w ps => .sign w (renL ρ c ps)
  | .hole w ns => .hole w (ns.map (lift ρ c))
def renL (ρ : Nat → Nat) (c : Nat) : Ts W → Ts W
  | .nil => .nil
  | .cons m t r => .cons m (ren ρ (c + m) t) (renL ρ c r)
end
mutual
def fil (σ : W → Option (T W)) : T W → T W
  | .name k => .name k
  | .sign w ps => .sign w (filL σ ps)
  | .hole w ns => match σ w with
    | none => .hole w ns
    | some u => ren (sel ns) 0 u
def filL (σ : W → Option (T W)) : Ts W → Ts W
  | .nil => .nil
  | .cons m t r => .cons m (fil σ t) (filL σ r)
end
/-! the outer name x stands in t, c names being bound round it -/
mutual
def fr (x : Nat) : Nat → T W → Prop
  | c, .name k => k = x + c
  | c, .sign _ ps => frL x c ps
  | c, .hole _ ns => x + c ∈ ns
def frL (x : Nat) : Nat → Ts W → Prop
  | _, .nil => False
  | c, .cons m t r => fr x (c + m) t ∨ frL x c r
end
/-! its holes, each with how many names it is told -/
mutual
def hs : T W → List (W × Nat)
  | .name _ => []
  | .sign _ ps => hsL ps
  | .hole w ns => [(w, ns.length)]
def hsL : Ts W → List (W × Nat)
  | .nil => []
  | .cons _ t r => hs t ++ hsL r
end
mutual
def strt : T W → Prop
  | .name _ => True
  | .sign _ ps => strtL ps
  | .hole _ ns => ns.Nodup
def strtL : Ts W → Prop
  | .nil => True
  | .cons _ t r => strt t ∧ strtL r
end
mutual
def sz : T W → Nat
  | .name _ => 1
  | .sign _ ps => 1 + szL ps
  | .hole _ _ => 1
def szL : Ts W → Nat
  | .nil => 0
  | .cons _ t r => sz t + szL r
end
def cls (n : Nat) (t : T W) : Prop := ∀ x, fr x 0 t → x < n

theorem lift_lift (ρ ρ' : Nat → Nat) (c k : Nat) : lift ρ c (lift ρ' c k) = lift (fun x => ρ (ρ' x)) c k := by
  unfold lift
  by_cases h : k < c
  · simp [h]
  · simp only [h, if_false]
    have : ¬ (ρ' (k - c) + c < c) := by omega
    simp [this]
mutual
theorem ren_ren (ρ ρ' : Nat → Nat) : ∀ (c : Nat) (t : T W), ren ρ c (ren ρ' c t) = ren (fun x => ρ (ρ' x)) c t
  | c, .name k => by simp only [ren, lift_lift]
  | c, .sign w ps => by simp only [ren, renL_renL ρ ρ' c ps]
  | c, .hole w ns => by
    simp only [ren, List.map_map]
    congr 1
    apply List.map_congr_left
    intro a _
    exact lift_lift ρ ρ' c a
theorem renL_renL (ρ ρ' : Nat → Nat) : ∀ (c : Nat) (t : Ts W), renL ρ c (renL ρ' c t) = renL (fun x => ρ (ρ' x)) c t
  | c, .nil => rfl
  | c, .cons m t r => by simp only [renL, ren_ren ρ ρ' (c + m) t, renL_renL ρ ρ' c r]
end
theorem lift_add (ρ : Nat → Nat) (c d k : Nat) : lift ρ (c + d) k = lift (lift ρ c) d k := by
  unfold lift
  by_cases h : k < d
  · have h2 : k < c + d := by omega
    simp [h, h2]
  · by_cases h2 : k < c + d
    · have h3 : k - d < c := by omega
      simp only [h, h2, h3, if_true, if_false]; omega
    · have h3 : ¬ k - d < c := by omega
      simp only [h, h2, h3, if_false]
      have : k - (c + d) = k - d - c := by omega
      rw [this]; omega
mutual
theorem ren_lift (ρ : Nat → Nat) : ∀ (c d : Nat) (t : T W), ren ρ (c + d) t = ren (lift ρ c) d t
  | c, d, .name k => by simp only [ren, lift_add]
  | c, d, .sign w ps => by simp only [ren, renL_lift ρ c d ps]
  | c, d, .hole w ns => by
    simp only [ren]
    congr 1
    exact List.map_congr_left fun a _ => lift_add ρ c d a
theorem renL_lift (ρ : Nat → Nat) : ∀ (c d : Nat) (t : Ts W), renL ρ (c + d) t = renL (lift ρ c) d t
  | c, d, .nil => rfl
  | c, d, .cons m t r => by
    simp only [renL, renL_lift ρ c d r]
    rw [Nat.add_assoc, ren_lift ρ c (d + m) t]
end
theorem lift_congr {ρ ρ' : Nat → Nat} {c k : Nat} (h : ∀ x, k = x + c → ρ x = ρ' x) : lift ρ c k = lift ρ' c k := by
  unfold lift
  by_cases h2 : k < c
  · simp [h2]
  · simp only [h2, if_false]
    rw [h (k - c) (by omega)]
mutual
theorem ren_congr {ρ ρ' : Nat → Nat} : ∀ {c : Nat} {t : T W}, (∀ x, fr x c t → ρ x = ρ' x) → ren ρ c t = ren ρ' c t
  | c, .name k, h => by simp only [ren]; rw [lift_congr fun x e => h x e]
  | c, .sign w ps, h => by simp only [ren]; rw [renL_congr fun x e => h x e]
  | c, .hole w ns, h => by
    simp only [ren]
    congr 1
    exact List.map_congr_left fun a ha => lift_congr fun x e => h x (by show x + c ∈ ns; rw [← e]; exact ha)
theorem renL_congr {ρ ρ' : Nat → Nat} : ∀ {c : Nat} {t : Ts W}, (∀ x, frL x c t → ρ x = ρ' x) → renL ρ c t = renL ρ' c t
  | c, .nil, h => rfl
  | c, .cons m t r, h => by
    simp only [renL]
    rw [ren_congr (t := t) fun x e => h x (Or.inl e), renL_congr (t := r) fun x e => h x (Or.inr e)]
end
theorem lift_id (c k : Nat) : lift (fun x => x) c k = k := by
  unfold lift
  by_cases h : k < c
  · simp [h]
  · simp only [h, if_false]; omega
mutual
theorem ren_id' : ∀ (c : Nat) (t : T W), ren (fun x => x) c t = t
  | c, .name k => by simp only [ren, lift_id]
  | c, .sign w ps => by simp only [ren, renL_id' c ps]
  | c, .hole w ns => by
    simp only [ren]
    congr 1
    have : ns.map (lift (fun x => x) c) = ns.map id := List.map_congr_left fun a _ => lift_id c a
    rw [this, List.map_id]
theorem renL_id' : ∀ (c : Nat) (t : Ts W), renL (fun x => x) c t = t
  | c, .nil => rfl
  | c, .cons m t r => by simp only [renL, ren_id' (c + m) t, renL_id' c r]
end
theorem ren_id {ρ : Nat → Nat} {c : Nat} {t : T W} (h : ∀ x, fr x c t → ρ x = x) : ren ρ c t = t := by
  rw [ren_congr (ρ' := fun x => x) h, ren_id']
theorem lift_eq {ρ : Nat → Nat} {c k y : Nat} : lift ρ c k = y + c ↔ ∃ x, k = x + c ∧ ρ x = y := by
  unfold lift
  by_cases h : k < c
  · simp only [h, if_true]
    constructor
    · intro e; omega
    · rintro ⟨x, e, _⟩; omega
  · simp only [h, if_false]
    constructor
    · intro e; exact ⟨k - c, by omega, by omega⟩
    · rintro ⟨x, e, e2⟩
      have : k - c = x := by omega
      rw [this, e2]
mutual
theorem fr_ren {ρ : Nat → Nat} {y : Nat} : ∀ {c : Nat} {t : T W}, fr y c (ren ρ c t) ↔ ∃ x, fr x c t ∧ ρ x = y
  | c, .name k => by simp only [ren, fr]; exact lift_eq
  | c, .sign w ps => by simp only [ren, fr]; exact frL_ren
  | c, .hole w ns => by
    simp only [ren, fr, List.mem_map]
    constructor
    · rintro ⟨a, ha, e⟩
      obtain ⟨x, e1, e2⟩ := lift_eq.mp e
      exact ⟨x, by rw [← e1]; exact ha, e2⟩
    · rintro ⟨x, hx, e⟩
      exact ⟨x + c, hx, lift_eq.mpr ⟨x, rfl, e⟩⟩
theorem frL_ren {ρ : Nat → Nat} {y : Nat} : ∀ {c : Nat} {t : Ts W}, frL y c (renL ρ c t) ↔ ∃ x, frL x c t ∧ ρ x = y
  | c, .nil => by simp [renL, frL]
  | c, .cons m t r => by
    simp only [renL, frL, frL_ren (t := r)]
    constructor
    · rintro (h | ⟨x, h, e⟩)
      · obtain ⟨x, h1, e⟩ := fr_ren.mp h
        exact ⟨x, Or.inl h1, e⟩
      · exact ⟨x, Or.inr h, e⟩
    · rintro ⟨x, h | h, e⟩
      · exact Or.inl (fr_ren.mpr ⟨x, h, e⟩)
      · exact Or.inr ⟨x, h, e⟩
end
mutual
theorem ren_inj {ρ ρ' : Nat → Nat} : ∀ {c : Nat} {t : T W}, ren ρ c t = ren ρ' c t → ∀ x, fr x c t → ρ x = ρ' x
  | c, .name k, h, x, e => by
    have e : k = x + c := e
    have h : lift ρ c k = lift ρ' c k := by simpa [ren] using h
    have h1 : lift ρ c k = ρ x + c := lift_eq.mpr ⟨x, e, rfl⟩
    have h2 : lift ρ' c k = ρ' x + c := lift_eq.mpr ⟨x, e, rfl⟩
    omega
  | c, .sign w ps, h, x, e => renL_inj (t := ps) (by simpa [ren] using h) x e
  | c, .hole w ns, h, x, e => by
    have h : ns.map (lift ρ c) = ns.map (lift ρ' c) := by simpa [ren] using h
    have e : x + c ∈ ns := e
    have h3 := List.map_inj_left.mp h _ e
    have h1 : lift ρ c (x + c) = ρ x + c := lift_eq.mpr ⟨x, rfl, rfl⟩
    have h2 : lift ρ' c (x + c) = ρ' x + c := lift_eq.mpr ⟨x, rfl, rfl⟩
    omega
theorem renL_inj {ρ ρ' : Nat → Nat} : ∀ {c : Nat} {t : Ts W}, renL ρ c t = renL ρ' c t → ∀ x, frL x c t → ρ x = ρ' x
  | c, .nil, h, x, e => e.elim
  | c, .cons m t r, h, x, e => by
    simp only [renL, Ts.cons.injEq, true_and] at h
    rcases e with e | e
    · exact ren_inj h.1 x e
    · exact renL_inj h.2 x e
end
mutual
theorem hs_ren (ρ : Nat → Nat) : ∀ (c : Nat) (t : T W), hs (ren ρ c t) = hs t
  | c, .name k => rfl
  | c, .sign w ps => by simp only [ren, hs, hsL_ren ρ c ps]
  | c, .hole w ns => by simp [ren, hs]
theorem hsL_ren (ρ : Nat → Nat) : ∀ (c : Nat) (t : Ts W), hsL (renL ρ c t) = hsL t
  | c, .nil => rfl
  | c, .cons m t r => by simp only [renL, hsL, hs_ren ρ (c + m) t, hsL_ren ρ c r]
end
mutual
theorem sz_ren (ρ : Nat → Nat) : ∀ (c : Nat) (t : T W), sz (ren ρ c t) = sz t
  | c, .name k => rfl
  | c, .sign w ps => by simp only [ren, sz, szL_ren ρ c ps]
  | c, .hole w ns => rfl
theorem szL_ren (ρ : Nat → Nat) : ∀ (c : Nat) (t : Ts W), szL (renL ρ c t) = szL t
  | c, .nil => rfl
  | c, .cons m t r => by simp only [renL, szL, sz_ren ρ (c + m) t, szL_ren ρ c r]
end
theorem sel_map {f : Nat → Nat} {ns : List Nat} {x : Nat} (h : x < ns.length) : sel (ns.map f) x = f (sel ns x) := by
  unfold sel
  have h2 : ns.length - 1 - x < ns.length := by omega
  rw [List.length_map, List.getD_eq_getElem?_getD, List.getD_eq_getElem?_getD, List.getElem?_map, List.getElem?_eq_getElem h2]
  rfl
theorem sel_mem {ns : List Nat} {x : Nat} (h : x < ns.length) : sel ns x ∈ ns := by
  unfold sel
  have h2 : ns.length - 1 - x < ns.length := by omega
  rw [List.getD_eq_getElem?_getD, List.getElem?_eq_getElem h2]
  exact List.getElem_mem h2
theorem sel_inj {ns : List Nat} (nd : ns.Nodup) {x y : Nat} (hx : x < ns.length) (hy : y < ns.length) (e : sel ns x = sel ns y) : x = y := by
  unfold sel at e
  have h2 : ns.length - 1 - x < ns.length := by omega
  have h3 : ns.length - 1 - y < ns.length := by omega
  rw [List.getD_eq_getElem?_getD, List.getElem?_eq_getElem h2, List.getD_eq_getElem?_getD, List.getElem?_eq_getElem h3] at e
  have := (List.getElem_inj nd).mp e
  omega
/-- what a filling fills a told hole with is closed in as many names -/
def okF (σ : W → Option (T W)) (l : List (W × Nat)) : Prop := ∀ w m, (w, m) ∈ l → ∀ u, σ w = some u → cls m u
theorem okF.mono {σ : W → Option (T W)} {l l' : List (W × Nat)} (h : okF σ l) (s : ∀ p ∈ l', p ∈ l) : okF σ l' := fun w m hm => h w m (s _ hm)
mutual
theorem fil_ren {σ : W → Option (T W)} (ρ : Nat → Nat) : ∀ (c : Nat) (t : T W), okF σ (hs t) → fil σ (ren ρ c t) = ren ρ c (fil σ t)
  | c, .name k, _ => rfl
  | c, .sign w ps, h => by simp only [ren, fil, filL_ren ρ c ps h]
  | c, .hole w ns, h => by
    simp only [ren, fil]
    cases e : σ w with
    | none => simp [ren]
    | some u =>
      simp only
      have hc : cls ns.length u := h w ns.length (by simp [hs]) u e
      have : ren ρ c (ren (sel ns) 0 u) = ren (lift ρ c) 0 (ren (sel ns) 0 u) := by
        have := ren_lift ρ c 0 (ren (sel ns) 0 u)
        simpa using this
      rw [this, ren_ren]
      exact ren_congr fun x hx => sel_map (hc x hx)
theorem filL_ren {σ : W → Option (T W)} (ρ : Nat → Nat) : ∀ (c : Nat) (t : Ts W), okF σ (hsL t) → filL σ (renL ρ c t) = renL ρ c (filL σ t)
  | c, .nil, _ => rfl
  | c, .cons m t r, h => by
    simp only [renL, filL]
    rw [fil_ren ρ (c + m) t (h.mono fun p hp => by simp [hsL, hp]), filL_ren ρ c r (h.mono fun p hp => by simp [hsL, hp])]
end
def beh (σ τ : W → Option (T W)) (w : W) : Option (T W) := match σ w with
  | some u => some (fil τ u)
  | none => τ w
mutual
theorem fil_fil {σ τ : W → Option (T W)} : ∀ (t : T W), (∀ w m u, (w, m) ∈ hs t → σ w = some u → okF τ (hs u)) → fil τ (fil σ t) = fil (beh σ τ) t
  | .name k, _ => rfl
  | .sign w ps, h => by simp only [fil, filL_filL ps h]
  | .hole w ns, h => by
    simp only [fil]
    cases e : σ w with
    | none => simp only [fil, beh, e]
    | some u =>
      simp only [beh, e]
      exact fil_ren _ 0 u (h w ns.length u (by simp [hs]) e)
theorem filL_filL {σ τ : W → Option (T W)} : ∀ (t : Ts W), (∀ w m u, (w, m) ∈ hsL t → σ w = some u → okF τ (hs u)) → filL τ (filL σ t) = filL (beh σ τ) t
  | .nil, _ => rfl
  | .cons m t r, h => by
    simp only [filL]
    rw [fil_fil t fun w m u hm => h w m u (by simp [hsL, hm]), filL_filL r fun w m u hm => h w m u (by simp [hsL, hm])]
end
mutual
theorem fil_congr {σ τ : W → Option (T W)} : ∀ (t : T W), (∀ w m, (w, m) ∈ hs t → σ w = τ w) → fil σ t = fil τ t
  | .name k, _ => rfl
  | .sign w ps, h => by simp only [fil, filL_congr ps h]
  | .hole w ns, h => by simp only [fil]; rw [h w ns.length (by simp [hs])]
theorem filL_congr {σ τ : W → Option (T W)} : ∀ (t : Ts W), (∀ w m, (w, m) ∈ hsL t → σ w = τ w) → filL σ t = filL τ t
  | .nil, _ => rfl
  | .cons m t r, h => by
    simp only [filL]
    rw [fil_congr t fun w m hm => h w m (by simp [hsL, hm]), filL_congr r fun w m hm => h w m (by simp [hsL, hm])]
end
mutual
theorem mem_hs_fil {σ : W → Option (T W)} {p : W × Nat} : ∀ {t : T W}, p ∈ hs (fil σ t) → (p ∈ hs t ∧ σ p.1 = none) ∨ ∃ w m u, (w, m) ∈ hs t ∧ σ w = some u ∧ p ∈ hs u
  | .name k, h => by simp [fil, hs] at h
  | .sign w ps, h => mem_hsL_fil (t := ps) (by simpa [fil, hs] using h)
  | .hole w ns, h => by
    simp only [fil] at h
    cases e : σ w with
    | none =>
      rw [e] at h
      simp only [hs, List.mem_singleton] at h
      subst h
      exact Or.inl ⟨by simp [hs], e⟩
    | some u =>
      rw [e] at h
      simp only [hs_ren] at h
      exact Or.inr ⟨w, ns.length, u, by simp [hs], e, h⟩
theorem mem_hsL_fil {σ : W → Option (T W)} {p : W × Nat} : ∀ {t : Ts W}, p ∈ hsL (filL σ t) → (p ∈ hsL t ∧ σ p.1 = none) ∨ ∃ w m u, (w, m) ∈ hsL t ∧ σ w = some u ∧ p ∈ hs u
  | .nil, h => by simp [filL, hsL] at h
  | .cons m t r, h => by
    simp only [filL, hsL, List.mem_append] at h
    rcases h with h | h
    · rcases mem_hs_fil h with ⟨a, b⟩ | ⟨w, m, u, a, b, c⟩
      · exact Or.inl ⟨by simp [hsL, a], b⟩
      · exact Or.inr ⟨w, m, u, by simp [hsL, a], b, c⟩
    · rcases mem_hsL_fil h with ⟨a, b⟩ | ⟨w, m, u, a, b, c⟩
      · exact Or.inl ⟨by simp [hsL, a], b⟩
      · exact Or.inr ⟨w, m, u, by simp [hsL, a], b, c⟩
end
end
end HF
end
section
set_option linter.all false
namespace HF
section
variable {W : Type}
/-! ### fillings kept closed, straight -/
mutual
theorem fr_fil {σ : W → Option (T W)} {y : Nat} : ∀ {c : Nat} {t : T W}, okF σ (hs t) → fr y c (fil σ t) → fr y c t
  | c, .name k, _, h => h
  | c, .sign w ps, o, h => frL_fil (t := ps) o h
  | c, .hole w ns, o, h => by
    simp only [fil] at h
    cases e : σ w with
    | none => rw [e] at h; exact h
    | some u =>
      rw [e] at h
      have h : fr y (0 + c) (ren (sel ns) 0 u) := by simpa using h
      have hc : cls ns.length u := o w ns.length (by simp [hs]) u e
      -- fr at c of a term renamed at 0: by fr_shift
      have h2 : fr (y + c) 0 (ren (sel ns) 0 u) := fr_shift h
      obtain ⟨x, hx, ex⟩ := fr_ren.mp h2
      show y + c ∈ ns
      rw [← ex]
      exact sel_mem (hc x hx)
theorem frL_fil {σ : W → Option (T W)} {y : Nat} : ∀ {c : Nat} {t : Ts W}, okF σ (hsL t) → frL y c (filL σ t) → frL y c t
  | c, .nil, _, h => h
  | c, .cons m t r, o, h => by
    rcases h with h | h
    · exact Or.inl (fr_fil (o.mono fun p hp => by simp [hsL, hp]) h)
    · exact Or.inr (frL_fil (o.mono fun p hp => by simp [hsL, hp]) h)
theorem fr_shift {y c d : Nat} : ∀ {t : T W}, fr y (d + c) t → fr (y + c) d t
  | .name k, h => by
    have h : k = y + (d + c) := h
    show k = y + c + d
    omega
  | .sign w ps, h => frL_shift (t := ps) h
  | .hole w ns, h => by
    have h : y + (d + c) ∈ ns := h
    show y + c + d ∈ ns
    rw [show y + c + d = y + (d + c) by omega]
    exact h
theorem frL_shift {y c d : Nat} : ∀ {t : Ts W}, frL y (d + c) t → frL (y + c) d t
  | .nil, h => h
  | .cons m t r, h => by
    rcases h with h | h
    · refine Or.inl (fr_shift ?_)
      rw [show d + m + c = d + c + m by omega]
      exact h
    · exact Or.inr (frL_shift h)
end
mutual
theorem fr_unshift {y c d : Nat} : ∀ {t : T W}, fr (y + c) d t → fr y (d + c) t
  | .name k, h => by
    have h : k = y + c + d := h
    show k = y + (d + c)
    omega
  | .sign w ps, h => frL_unshift (t := ps) h
  | .hole w ns, h => by
    have h : y + c + d ∈ ns := h
    show y + (d + c) ∈ ns
    rw [show y + (d + c) = y + c + d by omega]
    exact h
theorem frL_unshift {y c d : Nat} : ∀ {t : Ts W}, frL (y + c) d t → frL y (d + c) t
  | .nil, h => h
  | .cons m t r, h => by
    rcases h with h | h
    · refine Or.inl ?_
      have := fr_unshift h
      rw [show d + c + m = d + m + c by omega]
      exact this
    · exact Or.inr (frL_unshift h)
end
theorem cls_fil {σ : W → Option (T W)} {n : Nat} {t : T W} (o : okF σ (hs t)) (h : cls n t) : cls n (fil σ t) := fun x hx => h x (fr_fil o hx)
theorem nodup_map_inj {f : Nat → Nat} : ∀ {l : List Nat}, l.Nodup → (∀ x ∈ l, ∀ y ∈ l, f x = f y → x = y) → (l.map f).Nodup
  | [], _, _ => by simp
  | a :: r, h, g => by
    obtain ⟨h1, h2⟩ := List.nodup_cons.mp h
    rw [List.map_cons, List.nodup_cons]
    refine ⟨fun hm => ?_, nodup_map_inj h2 fun x hx y hy => g x (List.mem_cons_of_mem _ hx) y (List.mem_cons_of_mem _ hy)⟩
    obtain ⟨b, hb, e⟩ := List.mem_map.mp hm
    have := g b (List.mem_cons_of_mem _ hb) a List.mem_cons_self e
    exact h1 (this ▸ hb)
theorem lift_inj {ρ : Nat → Nat} {c a b : Nat} (h : ∀ x y, a = x + c → b = y + c → ρ x = ρ y → x = y) (e : lift ρ c a = lift ρ c b) : a = b := by
  unfold lift at e
  by_cases h1 : a < c
  · by_cases h2 : b < c
    · simpa [h1, h2] using e
    · simp only [h1, h2, if_true, if_false] at e; omega
  · by_cases h2 : b < c
    · simp only [h1, h2, if_true, if_false] at e; omega
    · simp only [h1, h2, if_false] at e
      have := h (a - c) (b - c) (by omega) (by omega) (by omega)
      omega
mutual
theorem strt_ren {ρ : Nat → Nat} : ∀ {c : Nat} {t : T W}, strt t → (∀ x y, fr x c t → fr y c t → ρ x = ρ y → x = y) → strt (ren ρ c t)
  | c, .name k, _, _ => True.intro
  | c, .sign w ps, h, g => strtL_ren (t := ps) h g
  | c, .hole w ns, h, g => by
    show (ns.map (lift ρ c)).Nodup
    refine nodup_map_inj h fun a ha b hb e => lift_inj (fun x y e1 e2 e3 => g x y ?_ ?_ e3) e
    · show x + c ∈ ns; rw [← e1]; exact ha
    · show y + c ∈ ns; rw [← e2]; exact hb
theorem strtL_ren {ρ : Nat → Nat} : ∀ {c : Nat} {t : Ts W}, strtL t → (∀ x y, frL x c t → frL y c t → ρ x = ρ y → x = y) → strtL (renL ρ c t)
  | c, .nil, _, _ => True.intro
  | c, .cons m t r, h, g => ⟨strt_ren h.1 fun x y hx hy => g x y (Or.inl hx) (Or.inl hy), strtL_ren h.2 fun x y hx hy => g x y (Or.inr hx) (Or.inr hy)⟩
end
mutual
theorem strt_fil {σ : W → Option (T W)} : ∀ {t : T W}, strt t → okF σ (hs t) → (∀ w m u, (w, m) ∈ hs t → σ w = some u → strt u) → strt (fil σ t)
  | .name k, _, _, _ => True.intro
  | .sign w ps, h, o, g => strtL_fil (t := ps) h o g
  | .hole w ns, h, o, g => by
    simp only [fil]
    cases e : σ w with
    | none => exact h
    | some u =>
      have hc : cls ns.length u := o w ns.length (by simp [hs]) u e
      exact strt_ren (g w ns.length u (by simp [hs]) e) fun x y hx hy => sel_inj h (hc x hx) (hc y hy)
theorem strtL_fil {σ : W → Option (T W)} : ∀ {t : Ts W}, strtL t → okF σ (hsL t) → (∀ w m u, (w, m) ∈ hsL t → σ w = some u → strt u) → strtL (filL σ t)
  | .nil, _, _, _ => True.intro
  | .cons m t r, h, o, g => ⟨strt_fil h.1 (o.mono fun p hp => by simp [hsL, hp]) fun w m u hm => g w m u (by simp [hsL, hm]),
      strtL_fil h.2 (o.mono fun p hp => by simp [hsL, hp]) fun w m u hm => g w m u (by simp [hsL, hm])⟩
end
/-! ### heights, nodes -/
mutual
def ht : T W → Nat
  | .name _ => 1
  | .sign _ ps => 1 + htL ps
  | .hole _ _ => 2
def htL : Ts W → Nat
  | .nil => 0
  | .cons _ t r => Nat.max (ht t) (htL r)
end
mutual
def nd : T W → Nat
  | .name _ => 1
  | .sign _ ps => 1 + ndL ps
  | .hole _ ns => 1 + ns.length
def ndL : Ts W → Nat
  | .nil => 0
  | .cons _ t r => nd t + ndL r
end
theorem ht_pos : ∀ t : T W, 1 ≤ ht t
  | .name _ => Nat.le_refl _
  | .sign _ _ => Nat.le_add_right _ _
  | .hole _ _ => by show 1 ≤ 2; omega
theorem nd_pos : ∀ t : T W, 1 ≤ nd t
  | .name _ => Nat.le_refl _
  | .sign _ _ => Nat.le_add_right _ _
  | .hole _ _ => Nat.le_add_right _ _
mutual
theorem ht_ren (ρ : Nat → Nat) : ∀ (c : Nat) (t : T W), ht (ren ρ c t) = ht t
  | c, .name k => rfl
  | c, .sign w ps => by simp only [ren, ht, htL_ren ρ c ps]
  | c, .hole w ns => rfl
theorem htL_ren (ρ : Nat → Nat) : ∀ (c : Nat) (t : Ts W), htL (renL ρ c t) = htL t
  | c, .nil => rfl
  | c, .cons m t r => by simp only [renL, htL, ht_ren ρ (c + m) t, htL_ren ρ c r]
end
mutual
theorem nd_ren (ρ : Nat → Nat) : ∀ (c : Nat) (t : T W), nd (ren ρ c t) = nd t
  | c, .name k => rfl
  | c, .sign w ps => by simp only [ren, nd, ndL_ren ρ c ps]
  | c, .hole w ns => by simp [ren, nd]
theorem ndL_ren (ρ : Nat → Nat) : ∀ (c : Nat) (t : Ts W), ndL (renL ρ c t) = ndL t
  | c, .nil => rfl
  | c, .cons m t r => by simp only [renL, ndL, nd_ren ρ (c + m) t, ndL_ren ρ c r]
end
mutual
theorem ht_fil {σ : W → Option (T W)} {b : Nat} (hb : ∀ w u, σ w = some u → ht u ≤ b) : ∀ (t : T W), ht (fil σ t) ≤ ht t + b
  | .name k => Nat.le_add_right _ _
  | .sign w ps => by
    have := htL_fil hb ps
    simp only [fil, ht]; omega
  | .hole w ns => by
    simp only [fil]
    cases e : σ w with
    | none => exact Nat.le_add_right _ _
    | some u =>
      have := hb w u e
      simp only [ht_ren, ht]; omega
theorem htL_fil {σ : W → Option (T W)} {b : Nat} (hb : ∀ w u, σ w = some u → ht u ≤ b) : ∀ (t : Ts W), htL (filL σ t) ≤ htL t + b
  | .nil => Nat.zero_le _
  | .cons m t r => by
    have h1 := ht_fil hb t
    have h2 := htL_fil hb r
    simp only [filL, htL, Nat.max_def]
    split <;> split <;> omega
end
/-! a filling by holes alone keeps the height -/
mutual
theorem ht_fil2 {σ : W → Option (T W)} (hb : ∀ w u, σ w = some u → ht u ≤ 2) : ∀ (t : T W), ht (fil σ t) ≤ ht t
  | .name k => Nat.le_refl _
  | .sign w ps => by
    have := htL_fil2 hb ps
    simp only [fil, ht]; omega
  | .hole w ns => by
    simp only [fil]
    cases e : σ w with
    | none => exact Nat.le_refl _
    | some u =>
      have := hb w u e
      simp only [ht_ren, ht]; omega
theorem htL_fil2 {σ : W → Option (T W)} (hb : ∀ w u, σ w = some u → ht u ≤ 2) : ∀ (t : Ts W), htL (filL σ t) ≤ htL t
  | .nil => Nat.zero_le _
  | .cons m t r => by
    have h1 := ht_fil2 hb t
    have h2 := htL_fil2 hb r
    simp only [filL, htL, Nat.max_def]
    split <;> split <;> omega
end
mutual
theorem nd_fil {σ : W → Option (T W)} {b : Nat} (hb : ∀ w u, σ w = some u → nd u ≤ b) : ∀ (t : T W), nd (fil σ t) ≤ nd t + (hs t).length * b
  | .name k => Nat.le_add_right _ _
  | .sign w ps => by
    have := ndL_fil hb ps
    simp only [fil, nd, hs]; omega
  | .hole w ns => by
    simp only [fil]
    cases e : σ w with
    | none => exact Nat.le_add_right _ _
    | some u =>
      have := hb w u e
      simp only [nd_ren, nd, hs, List.length_singleton]; omega
theorem ndL_fil {σ : W → Option (T W)} {b : Nat} (hb : ∀ w u, σ w = some u → nd u ≤ b) : ∀ (t : Ts W), ndL (filL σ t) ≤ ndL t + (hsL t).length * b
  | .nil => Nat.zero_le _
  | .cons m t r => by
    have h1 := nd_fil hb t
    have h2 := ndL_fil hb r
    simp only [filL, ndL, hsL, List.length_append, Nat.add_mul]
    omega
end
mutual
theorem nd_fil2 {σ : W → Option (T W)} : ∀ (t : T W), (∀ w m u, (w, m) ∈ hs t → σ w = some u → nd u ≤ 1 + m) → nd (fil σ t) ≤ nd t
  | .name k, _ => Nat.le_refl _
  | .sign w ps, hb => by
    have := ndL_fil2 ps hb
    simp only [fil, nd]; omega
  | .hole w ns, hb => by
    simp only [fil]
    cases e : σ w with
    | none => exact Nat.le_refl _
    | some u =>
      have := hb w ns.length u (by simp [hs]) e
      simp only [nd_ren, nd]; omega
theorem ndL_fil2 {σ : W → Option (T W)} : ∀ (t : Ts W), (∀ w m u, (w, m) ∈ hsL t → σ w = some u → nd u ≤ 1 + m) → ndL (filL σ t) ≤ ndL t
  | .nil, _ => Nat.zero_le _
  | .cons m t r, hb => by
    have h1 := nd_fil2 t fun w m u hm => hb w m u (by simp [hsL, hm])
    have h2 := ndL_fil2 r fun w m u hm => hb w m u (by simp [hsL, hm])
    simp only [filL, ndL]
    omega
end
mutual
theorem oc_fil {σ : W → Option (T W)} {b : Nat} (h1 : 1 ≤ b) (hb : ∀ w u, σ w = some u → (hs u).length ≤ b) : ∀ (t : T W), (hs (fil σ t)).length ≤ (hs t).length * b
  | .name k => Nat.zero_le _
  | .sign w ps => by
    have := ocL_fil h1 hb ps
    simp only [fil, hs]; exact this
  | .hole w ns => by
    simp only [fil]
    cases e : σ w with
    | none => simp only [hs, List.length_singleton]; omega
    | some u =>
      have := hb w u e
      simp only [hs_ren, hs, List.length_singleton]; omega
theorem ocL_fil {σ : W → Option (T W)} {b : Nat} (h1 : 1 ≤ b) (hb : ∀ w u, σ w = some u → (hs u).length ≤ b) : ∀ (t : Ts W), (hsL (filL σ t)).length ≤ (hsL t).length * b
  | .nil => Nat.zero_le _
  | .cons m t r => by
    have h2 := oc_fil h1 hb t
    have h3 := ocL_fil h1 hb r
    simp only [filL, hsL, List.length_append, Nat.add_mul]
    omega
end
mutual
theorem ht_le_nd : ∀ (t : T W), ht t ≤ nd t + 1
  | .name k => by simp [ht, nd]
  | .sign w ps => by have := htL_le_nd ps; simp only [ht, nd]; omega
  | .hole w ns => by simp only [ht, nd]; omega
theorem htL_le_nd : ∀ (t : Ts W), htL t ≤ ndL t + 1
  | .nil => by simp [htL]
  | .cons m t r => by
    have h1 := ht_le_nd t
    have h2 := htL_le_nd r
    have h3 := nd_pos t
    simp only [htL, ndL, Nat.max_def]
    split <;> omega
end
/-! ### faults -/
inductive Fault where
  | heads | ring | scope
  deriving DecidableEq
variable [DecidableEq W]
mutual
def faultIn (w : W) (names : List Nat) (c : Nat) : T W → Option Fault
  | .hole v _ => if v = w then some .ring else none
  | .name k => if c ≤ k ∧ k - c ∉ names then some .scope else none
  | .sign _ ps => faultInL w names c ps
def faultInL (w : W) (names : List Nat) (c : Nat) : Ts W → Option Fault
  | .nil => none
  | .cons m t r => match faultIn w names (c + m) t with
    | some f => some f
    | none => faultInL w names c r
end
mutual
theorem fault_scope {w : W} {names : List Nat} {θ : W → Option (T W)} : ∀ {c : Nat} {t : T W}, faultIn w names c t = some .scope → ∃ x, x ∉ names ∧ fr x c (fil θ t)
  | c, .hole v ns, h => by simp only [faultIn] at h; split at h <;> simp at h
  | c, .name k, h => by
    simp only [faultIn] at h
    split at h
    · rename_i hk
      exact ⟨k - c, hk.2, by show k = k - c + c; omega⟩
    · cases h
  | c, .sign v ps, h => fault_scopeL (t := ps) h
theorem fault_scopeL {w : W} {names : List Nat} {θ : W → Option (T W)} : ∀ {c : Nat} {t : Ts W}, faultInL w names c t = some .scope → ∃ x, x ∉ names ∧ frL x c (filL θ t)
  | c, .nil, h => by cases h
  | c, .cons m t r, h => by
    simp only [faultInL] at h
    cases e : faultIn w names (c + m) t with
    | some f =>
      rw [e] at h
      cases h
      obtain ⟨x, h1, h2⟩ := fault_scope e
      exact ⟨x, h1, Or.inl h2⟩
    | none =>
      rw [e] at h
      obtain ⟨x, h1, h2⟩ := fault_scopeL h
      exact ⟨x, h1, Or.inr h2⟩
end
mutual
theorem fault_ring {w : W} {names : List Nat} {θ : W → Option (T W)} {u : T W} (hu : θ w = some u) : ∀ {c : Nat} {t : T W}, faultIn w names c t = some .ring → sz u ≤ sz (fil θ t) ∧ (∀ ns, t ≠ .hole w ns → sz u < sz (fil θ t) ∨ ∃ ms, t = .hole w ms)
  | c, .hole v ns, h => by
    simp only [faultIn] at h
    split at h
    · rename_i hv
      subst hv
      refine ⟨?_, fun _ _ => Or.inr ⟨ns, rfl⟩⟩
      simp only [fil, hu, sz_ren]
      exact Nat.le_refl _
    · cases h
  | c, .name k, h => by simp only [faultIn] at h; split at h <;> simp at h
  | c, .sign v ps, h => by
    have q := fault_ringL hu (t := ps) h
    simp only [fil, sz]
    exact ⟨by omega, fun _ _ => Or.inl (by omega)⟩
theorem fault_ringL {w : W} {names : List Nat} {θ : W → Option (T W)} {u : T W} (hu : θ w = some u) : ∀ {c : Nat} {t : Ts W}, faultInL w names c t = some .ring → sz u ≤ szL (filL θ t)
  | c, .nil, h => by cases h
  | c, .cons m t r, h => by
    simp only [faultInL] at h
    simp only [filL, szL]
    cases e : faultIn w names (c + m) t with
    | some f =>
      rw [e] at h
      cases h
      have := (fault_ring hu e).1
      omega
    | none =>
      rw [e] at h
      have := fault_ringL hu h
      omega
end
mutual
theorem fault_heads {w : W} {names : List Nat} : ∀ {c : Nat} {t : T W}, faultIn w names c t ≠ some .heads
  | c, .hole v ns => by simp only [faultIn]; split <;> simp
  | c, .name k => by simp only [faultIn]; split <;> simp
  | c, .sign v ps => fault_headsL (t := ps)
theorem fault_headsL {w : W} {names : List Nat} : ∀ {c : Nat} {t : Ts W}, faultInL w names c t ≠ some .heads
  | c, .nil => by simp [faultInL]
  | c, .cons m t r => by
    simp only [faultInL]
    cases e : faultIn w names (c + m) t with
    | some f => intro h; exact fault_heads (e.trans h)
    | none => exact fault_headsL
end
/-! what a hole may keep of what it is told -/
def keptOf (gs names : List Nat) (c : Nat) : List Nat := (List.range gs.length).filter fun k => decide (gs.getD k 0 < c ∨ gs.getD k 0 - c ∈ names)
mutual
def tooMuch (names : List Nat) (c : Nat) : T W → Option (W × List Nat × List Nat)
  | .name _ => none
  | .hole g gs => if (keptOf gs names c).length = gs.length then none else some (g, gs, keptOf gs names c)
  | .sign _ ps => tooMuchL names c ps
def tooMuchL (names : List Nat) (c : Nat) : Ts W → Option (W × List Nat × List Nat)
  | .nil => none
  | .cons m t r => match tooMuch names (c + m) t with
    | some f => some f
    | none => tooMuchL names c r
end
theorem kept_all {gs names : List Nat} {c : Nat} (h : (keptOf gs names c).length = gs.length) : ∀ y ∈ gs, y < c ∨ y - c ∈ names := by
  intro y hy
  obtain ⟨k, hk, e⟩ := List.mem_iff_getElem.mp hy
  have h1 : (keptOf gs names c).length = (List.range gs.length).length := by rw [h, List.length_range]
  have h2 := List.length_filter_eq_length_iff.mp h1 k (List.mem_range.mpr hk)
  have h3 := of_decide_eq_true h2
  rw [List.getD_eq_getElem?_getD, List.getElem?_eq_getElem hk] at h3
  simp only [Option.getD_some, e] at h3
  exact h3
theorem kept_sub {gs names : List Nat} {c k : Nat} (h : k ∈ keptOf gs names c) : k < gs.length := List.mem_range.mp (List.mem_filter.mp h).1
theorem kept_nodup {gs names : List Nat} {c : Nat} : (keptOf gs names c).Nodup := List.Nodup.sublist List.filter_sublist List.nodup_range
theorem kept_le {gs names : List Nat} {c : Nat} : (keptOf gs names c).length ≤ gs.length := by
  have := List.length_filter_le (fun k => decide (gs.getD k 0 < c ∨ gs.getD k 0 - c ∈ names)) (List.range gs.length)
  rw [List.length_range] at this
  exact this
mutual
theorem too_some {names : List Nat} {θ : W → Option (T W)} {g : W} {gs ks : List Nat} : ∀ {c : Nat} {t : T W}, tooMuch names c t = some (g, gs, ks) → strt t → (∀ x, fr x c (fil θ t) → x ∈ names) →
    (g, gs.length) ∈ hs t ∧ gs.Nodup ∧ ks.length < gs.length ∧ (∃ c', ks = keptOf gs names c') ∧ ∀ u, θ g = some u → cls gs.length u → ∀ z, fr z 0 u → gs.length - 1 - z ∈ ks
  | c, .name k, h, _, _ => by cases h
  | c, .hole v ns, h, st, fn => by
    simp only [tooMuch] at h
    split at h
    · cases h
    · rename_i hl
      simp only [Option.some.injEq, Prod.mk.injEq] at h
      obtain ⟨rfl, rfl, rfl⟩ := h
      refine ⟨by simp [hs], st, Nat.lt_of_le_of_ne kept_le hl, ⟨c, rfl⟩, fun u hu hc z hz => ?_⟩
      have hz' := hc z hz
      refine List.mem_filter.mpr ⟨List.mem_range.mpr (by omega), decide_eq_true ?_⟩
      by_cases h1 : ns.getD (ns.length - 1 - z) 0 < c
      · exact Or.inl h1
      · refine Or.inr (fn _ ?_)
        simp only [fil, hu]
        have h2 : fr (ns.getD (ns.length - 1 - z) 0) 0 (ren (sel ns) 0 u) := fr_ren.mpr ⟨z, hz, rfl⟩
        have h3 : ns.getD (ns.length - 1 - z) 0 = (ns.getD (ns.length - 1 - z) 0 - c) + c := by omega
        rw [h3] at h2
        have h4 := fr_unshift h2
        simpa using h4
  | c, .sign v ps, h, st, fn => too_someL (t := ps) h st fn
theorem too_someL {names : List Nat} {θ : W → Option (T W)} {g : W} {gs ks : List Nat} : ∀ {c : Nat} {t : Ts W}, tooMuchL names c t = some (g, gs, ks) → strtL t → (∀ x, frL x c (filL θ t) → x ∈ names) →
    (g, gs.length) ∈ hsL t ∧ gs.Nodup ∧ ks.length < gs.length ∧ (∃ c', ks = keptOf gs names c') ∧ ∀ u, θ g = some u → cls gs.length u → ∀ z, fr z 0 u → gs.length - 1 - z ∈ ks
  | c, .nil, h, _, _ => by cases h
  | c, .cons m t r, h, st, fn => by
    simp only [tooMuchL] at h
    cases e : tooMuch names (c + m) t with
    | some f =>
      rw [e] at h
      cases h
      obtain ⟨h1, h2⟩ := too_some (θ := θ) e st.1 fun x hx => fn x (Or.inl hx)
      exact ⟨by simp [hsL, h1], h2⟩
    | none =>
      rw [e] at h
      obtain ⟨h1, h2⟩ := too_someL (θ := θ) h st.2 fun x hx => fn x (Or.inr hx)
      exact ⟨by simp [hsL, h1], h2⟩
end
mutual
theorem none_names {w : W} {names : List Nat} : ∀ {c : Nat} {t : T W}, faultIn w names c t = none → tooMuch names c t = none → ∀ x, fr x c t → x ∈ names
  | c, .name k, h, _, x, hx => by
    have hx : k = x + c := hx
    simp only [faultIn] at h
    split at h
    · cases h
    · rename_i hn
      have : k - c = x := by omega
      rw [← this]
      exact Decidable.byContradiction fun q => hn ⟨by omega, q⟩
  | c, .hole v ns, _, h, x, hx => by
    have hx : x + c ∈ ns := hx
    simp only [tooMuch] at h
    split at h
    · rename_i hl
      rcases kept_all hl _ hx with q | q
      · omega
      · simpa using q
    · cases h
  | c, .sign v ps, h1, h2, x, hx => none_namesL (t := ps) h1 h2 x hx
theorem none_namesL {w : W} {names : List Nat} : ∀ {c : Nat} {t : Ts W}, faultInL w names c t = none → tooMuchL names c t = none → ∀ x, frL x c t → x ∈ names
  | c, .nil, _, _, x, hx => hx.elim
  | c, .cons m t r, h1, h2, x, hx => by
    simp only [faultInL] at h1
    simp only [tooMuchL] at h2
    cases e1 : faultIn w names (c + m) t with
    | some f => rw [e1] at h1; cases h1
    | none =>
      cases e2 : tooMuch names (c + m) t with
      | some f => rw [e2] at h2; cases h2
      | none =>
        rw [e1] at h1
        rw [e2] at h2
        rcases hx with hx | hx
        · exact none_names e1 e2 x hx
        · exact none_namesL h1 h2 x hx
end
mutual
theorem none_hole {w : W} {names : List Nat} : ∀ {c : Nat} {t : T W}, faultIn w names c t = none → ∀ m, (w, m) ∉ hs t
  | c, .name k, _, m => by simp [hs]
  | c, .hole v ns, h, m => by
    simp only [faultIn] at h
    split at h
    · cases h
    · rename_i hn
      simp only [hs, List.mem_singleton, Prod.mk.injEq, not_and]
      intro e; exact absurd e.symm hn
  | c, .sign v ps, h, m => none_holeL (t := ps) h m
theorem none_holeL {w : W} {names : List Nat} : ∀ {c : Nat} {t : Ts W}, faultInL w names c t = none → ∀ m, (w, m) ∉ hsL t
  | c, .nil, _, m => by simp [hsL]
  | c, .cons k t r, h, m => by
    simp only [faultInL] at h
    cases e1 : faultIn w names (c + k) t with
    | some f => rw [e1] at h; cases h
    | none =>
      rw [e1] at h
      simp only [hsL, List.mem_append, not_or]
      exact ⟨none_hole e1 m, none_holeL h m⟩
end
end
end HF
end
section
set_option linter.all false
namespace HF
section
variable {W : Type}
def manys : Ts W → List Nat
  | .nil => []
  | .cons m _ r => m :: manys r
theorem fil_none' : (∀ t : T W, fil (fun _ => none) t = t) ∧ True := by
  refine ⟨fun t => ?_, trivial⟩
  exact go t
where
  go : ∀ t : T W, fil (fun _ => none) t = t
    | .name _ => rfl
    | .sign w ps => by simp only [fil, goL ps]
    | .hole _ _ => rfl
  goL : ∀ t : Ts W, filL (fun _ => none) t = t
    | .nil => rfl
    | .cons m t r => by simp only [filL, go t, goL r]
theorem fil_none (t : T W) : fil (fun _ => none) t = t := fil_none'.1 t
variable [DecidableEq W]
/-! ### leaves -/
structure Leaf (W : Type) where
  pl : List Nat
  sc : Nat
  a : T W
  b : T W
open Classical in
mutual
noncomputable def leaves (sc : Nat) (pl : List Nat) : T W → T W → List (Leaf W)
  | .name k, b => if T.name k = b then [] else [⟨pl, sc, .name k, b⟩]
  | .hole w ns, b => if T.hole w ns = b then [] else [⟨pl, sc, .hole w ns, b⟩]
  | .sign w ps, b => if T.sign w ps = b then [] else match b with
    | .sign v qs => if w = v ∧ manys ps = manys qs then leavesL sc pl 0 ps qs else [⟨pl, sc, .sign w ps, .sign v qs⟩]
    | b => [⟨pl, sc, .sign w ps, b⟩]
noncomputable def leavesL (sc : Nat) (pl : List Nat) (k : Nat) : Ts W → Ts W → List (Leaf W)
  | .cons m t r, .cons _ t' r' => leaves (sc + m) (pl ++ [k]) t t' ++ leavesL sc pl (k + 1) r r'
  | _, _ => []
end
/-- signs of one word whose parts bind alike -/
def alike : T W → T W → Prop
  | .sign w ps, .sign v qs => w = v ∧ manys ps = manys qs
  | _, _ => False
structure GLeaf (ℓ : Leaf W) (eqv : ((W → Option (T W)) → Prop)) (ha hb : List (W × Nat)) (sa sb : Prop) (ca cb : Prop) (h1 h2 n1 n2 : Nat) : Prop where
  ne : ℓ.a ≠ ℓ.b
  unlike : ¬ alike ℓ.a ℓ.b
  eqv : ∀ θ, eqv θ → fil θ ℓ.a = fil θ ℓ.b
  ha : ∃ l r, ha = l ++ hs ℓ.a ++ r
  hb : ∃ l r, hb = l ++ hs ℓ.b ++ r
  sa : sa → strt ℓ.a
  sb : sb → strt ℓ.b
  ca : ca → cls ℓ.sc ℓ.a
  cb : cb → cls ℓ.sc ℓ.b
  h1 : ht ℓ.a ≤ h1
  h2 : ht ℓ.b ≤ h2
  n1 : nd ℓ.a ≤ n1
  n2 : nd ℓ.b ≤ n2
abbrev GL (sc : Nat) (a b : T W) (ℓ : Leaf W) : Prop := GLeaf ℓ (fun θ => fil θ a = fil θ b) (hs a) (hs b) (strt a) (strt b) (cls sc a) (cls sc b) (ht a) (ht b) (nd a) (nd b)
def clsL (n : Nat) (t : Ts W) : Prop := ∀ x, frL x 0 t → x < n
abbrev GLL (sc : Nat) (a b : Ts W) (ℓ : Leaf W) : Prop := GLeaf ℓ (fun θ => filL θ a = filL θ b) (hsL a) (hsL b) (strtL a) (strtL b) (clsL sc a) (clsL sc b) (htL a) (htL b) (ndL a) (ndL b)
theorem gl_self {sc : Nat} {a b : T W} {pl : List Nat} (h : a ≠ b) (u : ¬ alike a b) : GL sc a b ⟨pl, sc, a, b⟩ :=
  ⟨h, u, fun _ e => e, ⟨[], [], by simp⟩, ⟨[], [], by simp⟩, fun x => x, fun x => x, fun x => x, fun x => x, Nat.le_refl _, Nat.le_refl _, Nat.le_refl _, Nat.le_refl _⟩
theorem cls_part {n m : Nat} {t : T W} {r : Ts W} (h : clsL n (.cons m t r)) : cls (n + m) t := fun x hx => by
  by_cases q : x < m
  · omega
  · have e : x = (x - m) + m := by omega
    rw [e] at hx
    have h2 := fr_unshift hx
    have := h (x - m) (Or.inl h2)
    omega
theorem clsL_rest {n m : Nat} {t : T W} {r : Ts W} (h : clsL n (.cons m t r)) : clsL n r := fun x hx => h x (Or.inr hx)
mutual
theorem leaves_good {sc : Nat} {pl : List Nat} {ℓ : Leaf W} : ∀ {a b : T W}, ℓ ∈ leaves sc pl a b → GL sc a b ℓ
  | .name k, b, h => by
    simp only [leaves] at h
    split at h
    · simp at h
    · rename_i hn
      simp only [List.mem_singleton] at h
      subst h
      exact gl_self hn (by simp [alike])
  | .hole w ns, b, h => by
    simp only [leaves] at h
    split at h
    · simp at h
    · rename_i hn
      simp only [List.mem_singleton] at h
      subst h
      exact gl_self hn (by simp [alike])
  | .sign w ps, .name k, h => by
    simp only [leaves] at h
    split at h
    · simp at h
    · rename_i hn
      simp only [List.mem_singleton] at h
      subst h
      exact gl_self hn (by simp [alike])
  | .sign w ps, .hole v ns, h => by
    simp only [leaves] at h
    split at h
    · simp at h
    · rename_i hn
      simp only [List.mem_singleton] at h
      subst h
      exact gl_self hn (by simp [alike])
  | .sign w ps, .sign v qs, h => by
    simp only [leaves] at h
    split at h
    · simp at h
    · rename_i hn
      split at h
      · rename_i hm
        obtain ⟨rfl, hm⟩ := hm
        have g := leavesL_good (a := ps) (b := qs) hm h
        exact ⟨g.ne, g.unlike, fun θ e => g.eqv θ (by simpa [fil] using e), g.ha, g.hb, g.sa, g.sb, g.ca, g.cb,
          Nat.le_trans g.h1 (Nat.le_add_left _ _), Nat.le_trans g.h2 (Nat.le_add_left _ _), Nat.le_trans g.n1 (Nat.le_add_left _ _), Nat.le_trans g.n2 (Nat.le_add_left _ _)⟩
      · rename_i hm
        simp only [List.mem_singleton] at h
        subst h
        exact gl_self hn (by simpa [alike] using hm)
theorem leavesL_good {sc : Nat} {pl : List Nat} {ℓ : Leaf W} : ∀ {k : Nat} {a b : Ts W}, manys a = manys b → ℓ ∈ leavesL sc pl k a b → GLL sc a b ℓ
  | k, .nil, b, _, h => by simp [leavesL] at h
  | k, .cons m t r, .nil, _, h => by simp [leavesL] at h
  | k, .cons m t r, .cons m' t' r', e, h => by
    simp only [manys, List.cons.injEq] at e
    obtain ⟨rfl, e⟩ := e
    simp only [leavesL, List.mem_append] at h
    rcases h with h | h
    · have g := leaves_good h
      refine ⟨g.ne, g.unlike, fun θ e => g.eqv θ ?_, ?_, ?_, fun s => g.sa s.1, fun s => g.sb s.1, fun c => g.ca (cls_part c), fun c => g.cb (cls_part c),
        Nat.le_trans g.h1 (Nat.le_max_left _ _), Nat.le_trans g.h2 (Nat.le_max_left _ _), Nat.le_trans g.n1 (Nat.le_add_right _ _), Nat.le_trans g.n2 (Nat.le_add_right _ _)⟩
      · have e : filL θ (.cons m t r) = filL θ (.cons m t' r') := e
        simp only [filL, Ts.cons.injEq, true_and] at e
        exact e.1
      · obtain ⟨l, q, e⟩ := g.ha
        exact ⟨l, q ++ hsL r, by simp [hsL, e]⟩
      · obtain ⟨l, q, e⟩ := g.hb
        exact ⟨l, q ++ hsL r', by simp [hsL, e]⟩
    · have g := leavesL_good e h
      refine ⟨g.ne, g.unlike, fun θ e => g.eqv θ ?_, ?_, ?_, fun s => g.sa s.2, fun s => g.sb s.2, fun c => g.ca (clsL_rest c), fun c => g.cb (clsL_rest c),
        Nat.le_trans g.h1 (Nat.le_max_right _ _), Nat.le_trans g.h2 (Nat.le_max_right _ _), Nat.le_trans g.n1 (Nat.le_add_left _ _), Nat.le_trans g.n2 (Nat.le_add_left _ _)⟩
      · have e : filL θ (.cons m t r) = filL θ (.cons m t' r') := e
        simp only [filL, Ts.cons.injEq, true_and] at e
        exact e.2
      · obtain ⟨l, q, e⟩ := g.ha
        exact ⟨hs t ++ l, q, by simp [hsL, e]⟩
      · obtain ⟨l, q, e⟩ := g.hb
        exact ⟨hs t' ++ l, q, by simp [hsL, e]⟩
end
mutual
theorem leaves_nil {sc : Nat} {pl : List Nat} : ∀ {a b : T W}, leaves sc pl a b = [] → a = b
  | .name k, b, h => by
    simp only [leaves] at h
    split at h
    · assumption
    · simp at h
  | .hole w ns, b, h => by
    simp only [leaves] at h
    split at h
    · assumption
    · simp at h
  | .sign w ps, .name k, h => by
    simp only [leaves] at h
    split at h
    · assumption
    · simp at h
  | .sign w ps, .hole v ns, h => by
    simp only [leaves] at h
    split at h
    · assumption
    · simp at h
  | .sign w ps, .sign v qs, h => by
    simp only [leaves] at h
    split at h
    · assumption
    · split at h
      · rename_i hm
        rw [hm.1, leavesL_nil hm.2 h]
      · simp at h
theorem leavesL_nil {sc : Nat} {pl : List Nat} : ∀ {k : Nat} {a b : Ts W}, manys a = manys b → leavesL sc pl k a b = [] → a = b
  | k, .nil, .nil, _, _ => rfl
  | k, .nil, .cons _ _ _, e, _ => by simp [manys] at e
  | k, .cons _ _ _, .nil, e, _ => by simp [manys] at e
  | k, .cons m t r, .cons m' t' r', e, h => by
    simp only [manys, List.cons.injEq] at e
    obtain ⟨rfl, e⟩ := e
    simp only [leavesL, List.append_eq_nil_iff] at h
    rw [leaves_nil h.1, leavesL_nil e h.2]
end
theorem leaves_eq {sc : Nat} {pl : List Nat} {a b : T W} (h : a = b) : leaves sc pl a b = [] := by
  subst h
  cases a <;> simp [leaves]
mutual
theorem leaves_len {sc : Nat} {pl : List Nat} : ∀ {a b : T W}, (leaves sc pl a b).length ≤ nd a
  | .name k, b => by simp only [leaves]; split <;> simp [nd]
  | .hole w ns, b => by
    simp only [leaves]
    split
    · simp
    · simp only [List.length_singleton, nd]; omega
  | .sign w ps, .name k => by simp only [leaves]; split <;> simp [nd]
  | .sign w ps, .hole v ns => by simp only [leaves]; split <;> simp [nd]
  | .sign w ps, .sign v qs => by
    simp only [leaves]
    split
    · simp
    · split
      · have := leavesL_len (sc := sc) (pl := pl) (k := 0) (a := ps) (b := qs)
        simp only [nd]; omega
      · simp [nd]
theorem leavesL_len {sc : Nat} {pl : List Nat} : ∀ {k : Nat} {a b : Ts W}, (leavesL sc pl k a b).length ≤ ndL a
  | k, .nil, b => by simp [leavesL]
  | k, .cons m t r, .nil => by simp [leavesL]
  | k, .cons m t r, .cons m' t' r' => by
    have h1 := leaves_len (sc := sc + m) (pl := pl ++ [k]) (a := t) (b := t')
    have h2 := leavesL_len (sc := sc) (pl := pl) (k := k + 1) (a := r) (b := r')
    simp only [leavesL, List.length_append, ndL]; omega
end
/-! ### faults of a pair, going on -/
def faultOf : T W → T W → Option Fault
  | .hole _ _, .hole _ _ => none
  | .hole w ns, b => faultIn w ns 0 b
  | a, .hole w ns => faultIn w ns 0 a
  | _, _ => some .heads
/-- a ground filling of the holes of L -/
def gd (θ : W → Option (T W)) (L : List (W × Nat)) : Prop := ∀ w m, (w, m) ∈ L → ∃ u, θ w = some u ∧ hs u = [] ∧ cls m u
theorem gd.ok {θ : W → Option (T W)} {L : List (W × Nat)} (g : gd θ L) : okF θ L := fun w m hm u hu => by
  obtain ⟨v, h1, _, h2⟩ := g w m hm
  rw [h1] at hu
  cases hu
  exact h2
theorem gd.mono {θ : W → Option (T W)} {L L' : List (W × Nat)} (g : gd θ L) (s : ∀ p ∈ L', p ∈ L) : gd θ L' := fun w m hm => g w m (s _ hm)
theorem fault_hole {θ : W → Option (T W)} {w : W} {ns : List Nat} {b : T W} (g : gd θ [(w, ns.length)]) (hb : ∀ v ms, b ≠ .hole v ms) (e : fil θ (.hole w ns) = fil θ b) : faultIn w ns 0 b = none := by
  obtain ⟨u, h1, _, h2⟩ := g w ns.length (by simp)
  have e2 : ren (sel ns) 0 u = fil θ b := by
    rw [← e]
    simp only [fil, h1]
  cases q : faultIn w ns 0 b with
  | none => rfl
  | some f =>
    exfalso
    cases f with
    | heads => exact fault_heads q
    | scope =>
      obtain ⟨x, x1, x2⟩ := fault_scope (θ := θ) q
      rw [← e2] at x2
      obtain ⟨z, z1, z2⟩ := fr_ren.mp x2
      exact x1 (z2 ▸ sel_mem (h2 z z1))
    | ring =>
      have r := (fault_ring h1 q).2 ns (hb w ns)
      rw [← e2, sz_ren] at r
      rcases r with r | ⟨ms, r⟩
      · omega
      · exact hb w ms r
theorem fault_sound {θ : W → Option (T W)} {a b : T W} (g : gd θ (hs a ++ hs b)) (u : ¬ alike a b) (ne : a ≠ b) (e : fil θ a = fil θ b) : faultOf a b = none := by
  cases a with
  | hole w ns =>
    cases b with
    | hole v ms => rfl
    | name k => exact fault_hole (g.mono (by simp [hs])) (by simp) e
    | sign v qs => exact fault_hole (g.mono (by simp [hs])) (by simp) e
  | name j =>
    cases b with
    | hole v ms => exact fault_hole (g.mono (by simp [hs])) (by simp) e.symm
    | name k => simp only [fil] at e; exact absurd e ne
    | sign v qs => simp [fil] at e
  | sign w ps =>
    cases b with
    | hole v ms => exact fault_hole (g.mono (by simp [hs])) (by simp) e.symm
    | name k => simp [fil] at e
    | sign v qs =>
      exfalso
      simp only [fil, T.sign.injEq] at e
      refine u ⟨e.1, ?_⟩
      have : ∀ t : Ts W, manys (filL θ t) = manys t := fun t => by
        induction t using Ts.rec (motive_1 := fun _ => True) with
        | nil => rfl
        | cons m t r _ ih => simp only [filL, manys, ih]
        | _ => trivial
      rw [← this ps, ← this qs, e.2]
end
end HF
end
section
set_option linter.all false
namespace HF
section
variable {W : Type} [DecidableEq W]
/-! ### going on with a leaf -/
def agree (ns ms : List Nat) : List Nat := (List.range ns.length).filter fun k => decide (ns.getD k 0 = ms.getD k 0)
def clo (ns : List Nat) (sc x : Nat) : Nat := if x ∈ ns then ns.length - 1 - ns.idxOf x else x + ns.length - sc
/-- the names by which a hole's new one is told so many of its own -/
def lessN (m : Nat) (ks : List Nat) : List Nat := ks.map fun k => m - 1 - k
def lessT (nw w : W) (m : Nat) (ks : List Nat) : W × Nat × T W := (w, m, .hole nw (lessN m ks))
def goHole (nw : W) (sc : Nat) (w : W) (ns : List Nat) (b : T W) : W × Nat × T W := match b with
  | .hole v ms => if v = w then lessT nw w ns.length (agree ns ms) else match tooMuch ns 0 (T.hole v ms) with
    | none => (w, ns.length, ren (clo ns sc) 0 (.hole v ms))
    | some (g, gs, ks) => lessT nw g gs.length ks
  | b => match tooMuch ns 0 b with
    | none => (w, ns.length, ren (clo ns sc) 0 b)
    | some (g, gs, ks) => lessT nw g gs.length ks
def goOn (nw : W) (sc : Nat) (a b : T W) : W × Nat × T W := match a with
  | .hole w ns => goHole nw sc w ns b
  | a => match b with
    | .hole w ns => goHole nw sc w ns a
    | b => (nw, 0, b)
theorem sel_clo {ns : List Nat} (nd : ns.Nodup) {sc x : Nat} (hx : x < ns.length) : clo ns sc (sel ns x) = x := by
  unfold clo
  rw [if_pos (sel_mem hx)]
  unfold sel
  have h2 : ns.length - 1 - x < ns.length := by omega
  rw [List.getD_eq_getElem?_getD, List.getElem?_eq_getElem h2, Option.getD_some, List.Nodup.idxOf_getElem nd]
  omega
theorem clo_inj {ns : List Nat} {sc x y : Nat} (hx : x ∈ ns) (hy : y ∈ ns) (e : clo ns sc x = clo ns sc y) : x = y := by
  unfold clo at e
  rw [if_pos hx, if_pos hy] at e
  have h1 := List.idxOf_lt_length_of_mem hx
  have h2 := List.idxOf_lt_length_of_mem hy
  have h3 : ns.idxOf x = ns.idxOf y := by omega
  have e1 := List.getElem_idxOf h1
  have e2 := List.getElem_idxOf h2
  rw [← e1, ← e2]
  simp only [h3]
theorem clo_lt {ns : List Nat} {sc x : Nat} (hx : x ∈ ns) : clo ns sc x < ns.length := by
  unfold clo
  rw [if_pos hx]
  have h1 := List.idxOf_lt_length_of_mem hx
  omega
/-- what a step fills, whatever the filling that is looked for -/
structure Elim (ha hb : List (W × Nat)) (b1 b2 : T W) (w : W) (m : Nat) (u : T W) : Prop where
  mem : (w, m) ∈ ha ++ hb
  st : strt u
  cl : cls m u
  sub : hs u = ha ∨ hs u = hb
  out : ∀ k, (w, k) ∉ hs u
  ht : ht u ≤ ht b1 ∨ ht u ≤ ht b2
  nd : nd u ≤ nd b1 ∨ nd u ≤ nd b2
structure Less (nw : W) (ha hb : List (W × Nat)) (w : W) (m : Nat) (ks : List Nat) (u : T W) : Prop where
  mem : (w, m) ∈ ha ++ hb
  eq : u = .hole nw (lessN m ks)
  lt : ks.length < m
  ran : ∀ k ∈ ks, k < m
  nod : ks.Nodup
theorem less_nodup {m : Nat} {ks : List Nat} (r : ∀ k ∈ ks, k < m) (n : ks.Nodup) : (lessN m ks).Nodup :=
  nodup_map_inj n fun x hx y hy e => by have := r x hx; have := r y hy; omega
theorem less_lt {m : Nat} {ks : List Nat} {x : Nat} (r : ∀ k ∈ ks, k < m) (h : x ∈ lessN m ks) : x < m := by
  obtain ⟨k, hk, e⟩ := List.mem_map.mp h
  have := r k hk
  omega
/-- how a filling goes on behind a step -/
def After (θ : W → Option (T W)) (w : W) (u : T W) : Prop := θ w = some (fil θ u)
/-- θ w speaks of the kept names alone -/
def Keeps (θ : W → Option (T W)) (w : W) (m : Nat) (ks : List Nat) : Prop := ∀ v, θ w = some v → cls m v → ∀ z, fr z 0 v → m - 1 - z ∈ ks
theorem agree_keeps {θ : W → Option (T W)} {w : W} {ns ms : List Nat} (hl : ns.length = ms.length) (e : fil θ (.hole w ns) = fil θ (.hole w ms)) : Keeps θ w ns.length (agree ns ms) := by
  intro v hv hc z hz
  simp only [fil, hv] at e
  have h1 := ren_inj e z hz
  have hz' := hc z hz
  refine List.mem_filter.mpr ⟨List.mem_range.mpr (by omega), decide_eq_true ?_⟩
  unfold sel at h1
  rw [hl] at h1 ⊢
  exact h1
theorem agree_lt {ns ms : List Nat} (hl : ns.length = ms.length) (ne : ns ≠ ms) : (agree ns ms).length < ns.length := by
  have h1 := List.length_filter_le (fun k => decide (ns.getD k 0 = ms.getD k 0)) (List.range ns.length)
  rw [List.length_range] at h1
  refine Nat.lt_of_le_of_ne h1 fun q => ne ?_
  have h2 : ((List.range ns.length).filter fun k => decide (ns.getD k 0 = ms.getD k 0)).length = (List.range ns.length).length := by rw [List.length_range]; exact q
  have h3 := List.length_filter_eq_length_iff.mp h2
  refine List.ext_getElem hl fun k h4 h5 => ?_
  have h6 := of_decide_eq_true (h3 k (List.mem_range.mpr h4))
  rw [List.getD_eq_getElem?_getD, List.getElem?_eq_getElem h4, List.getD_eq_getElem?_getD, List.getElem?_eq_getElem h5] at h6
  exact h6
mutual
theorem too_struct {names : List Nat} {g : W} {gs ks : List Nat} : ∀ {c : Nat} {t : T W}, tooMuch names c t = some (g, gs, ks) → (g, gs.length) ∈ hs t ∧ ks.length < gs.length ∧ (∀ k ∈ ks, k < gs.length) ∧ ks.Nodup
  | c, .name k, h => by cases h
  | c, .hole v ns, h => by
    simp only [tooMuch] at h
    split at h
    · cases h
    · rename_i hl
      simp only [Option.some.injEq, Prod.mk.injEq] at h
      obtain ⟨rfl, rfl, rfl⟩ := h
      exact ⟨by simp [hs], Nat.lt_of_le_of_ne kept_le hl, fun k hk => kept_sub hk, kept_nodup⟩
  | c, .sign v ps, h => too_structL (t := ps) h
theorem too_structL {names : List Nat} {g : W} {gs ks : List Nat} : ∀ {c : Nat} {t : Ts W}, tooMuchL names c t = some (g, gs, ks) → (g, gs.length) ∈ hsL t ∧ ks.length < gs.length ∧ (∀ k ∈ ks, k < gs.length) ∧ ks.Nodup
  | c, .nil, h => by cases h
  | c, .cons m t r, h => by
    simp only [tooMuchL] at h
    cases e : tooMuch names (c + m) t with
    | some f =>
      rw [e] at h
      cases h
      obtain ⟨h1, h2⟩ := too_struct e
      exact ⟨by simp [hsL, h1], h2⟩
    | none =>
      rw [e] at h
      obtain ⟨h1, h2⟩ := too_structL h
      exact ⟨by simp [hsL, h1], h2⟩
end
/-- a step is one of the two, and a ground filling that makes the leaf the same goes on -/
inductive Act (nw : W) (a b : T W) (r : W × Nat × T W) : Prop where
  | elim (h : Elim (hs a) (hs b) a b r.1 r.2.1 r.2.2) (k : ∀ θ, gd θ (hs a ++ hs b) → fil θ a = fil θ b → After θ r.1 r.2.2)
  | less (ks : List Nat) (h : Less nw (hs a) (hs b) r.1 r.2.1 ks r.2.2) (k : ∀ θ, gd θ (hs a ++ hs b) → fil θ a = fil θ b → Keeps θ r.1 r.2.1 ks)
theorem Act.swap {nw : W} {a b : T W} {r : W × Nat × T W} (x : Act nw a b r) : Act nw b a r := by
  cases x with
  | elim h k => exact .elim ⟨by have := h.mem; simp only [List.mem_append] at this ⊢; exact this.symm, h.st, h.cl, h.sub.symm, h.out, h.ht.symm, h.nd.symm⟩ (fun θ g e => k θ (g.mono fun p hp => by simp only [List.mem_append] at hp ⊢; exact hp.symm) e.symm)
  | less ks h k => exact .less ks ⟨by have := h.mem; simp only [List.mem_append] at this ⊢; exact this.symm, h.eq, h.lt, h.ran, h.nod⟩ (fun θ g e => k θ (g.mono fun p hp => by simp only [List.mem_append] at hp ⊢; exact hp.symm) e.symm)
theorem gen_act {nw w : W} {sc : Nat} {ns : List Nat} {b : T W} (hn : ns.Nodup) (sb : strt b) (hf : faultIn w ns 0 b = none) :
    Act nw (.hole w ns) b (match tooMuch ns 0 b with
      | none => (w, ns.length, ren (clo ns sc) 0 b)
      | some (g, gs, ks) => lessT nw g gs.length ks) := by
  have fn : ∀ θ : W → Option (T W), gd θ (hs (.hole w ns) ++ hs b) → fil θ (.hole w ns) = fil θ b → ∃ u, θ w = some u ∧ cls ns.length u ∧ ren (sel ns) 0 u = fil θ b := fun θ g e => by
    obtain ⟨u, h1, _, h2⟩ := g w ns.length (by simp [hs])
    refine ⟨u, h1, h2, ?_⟩
    rw [← e]
    simp only [fil, h1]
  cases q : tooMuch ns 0 b with
  | none =>
    have hx := none_names hf q
    refine .elim ⟨by simp [hs], ?_, ?_, Or.inr (hs_ren _ _ _), fun k => ?_, ?_, ?_⟩ fun θ g e => ?_
    · exact strt_ren sb fun x y h1 h2 => clo_inj (hx x h1) (hx y h2)
    · intro x hr
      obtain ⟨z, z1, z2⟩ := fr_ren.mp hr
      rw [← z2]
      exact clo_lt (hx z z1)
    · show (w, k) ∉ hs (ren (clo ns sc) 0 b)
      rw [hs_ren]; exact none_hole hf k
    · show ht (ren (clo ns sc) 0 b) ≤ _ ∨ ht (ren (clo ns sc) 0 b) ≤ _
      rw [ht_ren]; exact Or.inr (Nat.le_refl _)
    · show nd (ren (clo ns sc) 0 b) ≤ _ ∨ nd (ren (clo ns sc) 0 b) ≤ _
      rw [nd_ren]; exact Or.inr (Nat.le_refl _)
    · obtain ⟨u, h1, h2, h3⟩ := fn θ g e
      show θ w = some (fil θ (ren (clo ns sc) 0 b))
      rw [fil_ren _ _ _ (g.ok.mono fun p hp => by simp [hp]), ← h3, ren_ren, h1]
      exact congrArg some (ren_id fun x hx => sel_clo hn (h2 x hx)).symm
  | some r =>
    obtain ⟨g, gs, ks⟩ := r
    obtain ⟨h1, h2, h3, h4⟩ := too_struct q
    refine .less ks ⟨by simp only [List.mem_append]; exact Or.inr h1, rfl, h2, h3, h4⟩ fun θ gg e => ?_
    obtain ⟨u, u1, u2, u3⟩ := fn θ gg e
    have fx : ∀ x, fr x 0 (fil θ b) → x ∈ ns := fun x hx => by
      rw [← u3] at hx
      obtain ⟨z, z1, z2⟩ := fr_ren.mp hx
      exact z2 ▸ sel_mem (u2 z z1)
    obtain ⟨_, _, _, _, h5⟩ := too_some (θ := θ) q sb fx
    exact h5
theorem hole_act {nw w : W} {sc : Nat} {ns : List Nat} {b : T W} (hn : ns.Nodup) (sb : strt b) (ne : T.hole w ns ≠ b) (hl : ∀ ms, b = .hole w ms → ns.length = ms.length) (hf : faultOf (.hole w ns) b = none) :
    Act nw (.hole w ns) b (goHole nw sc w ns b) := by
  cases b with
  | name k => exact gen_act hn sb hf
  | sign v qs => exact gen_act hn sb hf
  | hole v ms =>
    by_cases hv : v = w
    · subst hv
      have hlen := hl ms rfl
      have e : goHole nw sc v ns (.hole v ms) = lessT nw v ns.length (agree ns ms) := if_pos rfl
      rw [e]
      exact .less (agree ns ms) ⟨by simp [lessT, hs], rfl, agree_lt hlen fun q => ne (by rw [q]), fun k hk => List.mem_range.mp (List.mem_filter.mp hk).1, List.Nodup.sublist List.filter_sublist List.nodup_range⟩ fun θ g e => agree_keeps hlen e
    · have hf2 : faultIn w ns 0 (T.hole v ms) = none := by simp [faultIn, hv]
      have e : goHole nw sc w ns (.hole v ms) = (match tooMuch ns 0 (T.hole v ms) with
        | none => (w, ns.length, ren (clo ns sc) 0 (T.hole v ms))
        | some (g, gs, ks) => lessT nw g gs.length ks) := if_neg hv
      rw [e]
      exact gen_act hn sb hf2
theorem go_act {nw : W} {sc : Nat} {a b : T W} (sa : strt a) (sb : strt b) (ne : a ≠ b) (hl : ∀ w ns ms, a = .hole w ns → b = .hole w ms → ns.length = ms.length) (hf : faultOf a b = none) : Act nw a b (goOn nw sc a b) := by
  cases a with
  | hole w ns => exact hole_act sa sb ne (fun ms e => hl w ns ms rfl e) hf
  | name k =>
    cases b with
    | hole w ns => exact (hole_act sb sa (fun q => ne q.symm) (fun ms e => by cases e) hf).swap
    | name j => simp [faultOf] at hf
    | sign v qs => simp [faultOf] at hf
  | sign u ps =>
    cases b with
    | hole w ns => exact (hole_act sb sa (fun q => ne q.symm) (fun ms e => by cases e) hf).swap
    | name j => simp [faultOf] at hf
    | sign v qs => simp [faultOf] at hf
end
end HF
end
section
set_option linter.all false
namespace HF
section
variable {W : Type} [DecidableEq W]
/-! ### what was filled so far -/
abbrev Fl (W : Type) := W → Option (Nat × T W)
abbrev Side (W : Type) := Nat × T W × T W
def sg (σ : Fl W) (w : W) : Option (T W) := (σ w).map (·.2)
def one (w : W) (u : T W) (x : W) : Option (T W) := if x = w then some u else none
def newF (own : List (W × Nat)) (σ : Fl W) (w : W) (m : Nat) (u : T W) : Fl W := fun x => match σ x with
  | some (k, v) => some (k, fil (one w u) v)
  | none => if x = w ∧ w ∈ own.map (·.1) then some (m, u) else none
def hB (h0 : Nat) : Nat → Nat
  | 0 => h0
  | e + 1 => hB h0 e + hB h0 e
def oB : Nat → Nat
  | 0 => 2
  | e + 1 => oB e * oB e
def nB (n0 : Nat) : Nat → Nat
  | 0 => n0
  | e + 1 => nB n0 e + oB e * nB n0 e
theorem oB_pos : ∀ e, 1 ≤ oB e
  | 0 => by decide
  | e + 1 => Nat.mul_le_mul (oB_pos e) (oB_pos e)
/-- bounded by the number of holes filled -/
structure Bd (h0 n0 e : Nat) (t : T W) : Prop where
  ht : ht t ≤ hB h0 e
  oc : (hs t).length ≤ oB e
  nd : nd t ≤ nB n0 e
theorem Bd.up {h0 n0 e : Nat} {t : T W} (b : Bd h0 n0 e t) : Bd h0 n0 (e + 1) t :=
  ⟨Nat.le_trans b.ht (Nat.le_add_right _ _), Nat.le_trans b.oc (by show oB e ≤ oB e * oB e; exact Nat.le_mul_of_pos_right _ (oB_pos e)), Nat.le_trans b.nd (Nat.le_add_right _ _)⟩
theorem one_some {w x : W} {u v : T W} (h : one w u x = some v) : x = w ∧ v = u := by
  unfold one at h
  split at h
  · rename_i e; exact ⟨e, (Option.some.inj h).symm⟩
  · cases h
theorem Bd.fil {h0 n0 e : Nat} {t u : T W} {w : W} (b : Bd h0 n0 e t) (c : Bd h0 n0 e u) : Bd h0 n0 (e + 1) (fil (one w u) t) := by
  refine ⟨Nat.le_trans (ht_fil (b := hB h0 e) (fun x v h => ?_) t) (Nat.add_le_add b.ht (Nat.le_refl _)), Nat.le_trans (oc_fil (oB_pos e) (fun x v h => ?_) t) (Nat.mul_le_mul b.oc (Nat.le_refl _)),
    Nat.le_trans (nd_fil (b := nB n0 e) (fun x v h => ?_) t) (Nat.add_le_add b.nd (Nat.mul_le_mul b.oc (Nat.le_refl _)))⟩
  · rw [(one_some h).2]; exact c.ht
  · rw [(one_some h).2]; exact c.oc
  · rw [(one_some h).2]; exact c.nd
theorem Bd.less {h0 n0 e m : Nat} {t : T W} {w nw : W} {ms : List Nat} (b : Bd h0 n0 e t) (hm : ∀ k, (w, k) ∈ hs t → k = m) (hl : ms.length ≤ m) : Bd h0 n0 e (HF.fil (one w (.hole nw ms)) t) := by
  refine ⟨Nat.le_trans (ht_fil2 (fun x v h => ?_) t) b.ht, Nat.le_trans (oc_fil (Nat.le_refl 1) (fun x v h => ?_) t) (by rw [Nat.mul_one]; exact b.oc), Nat.le_trans (nd_fil2 t fun x k v hk h => ?_) b.nd⟩
  · rw [(one_some h).2]; exact Nat.le_refl 2
  · rw [(one_some h).2]; exact Nat.le_refl 1
  · obtain ⟨h1, h2⟩ := one_some h
    subst h1
    subst h2
    rw [hm k hk]
    show 1 + ms.length ≤ 1 + m
    omega
structure SideOk (own : List (W × Nat)) (s : Side W) : Prop where
  sa : strt s.2.1
  sb : strt s.2.2
  ca : cls s.1 s.2.1
  cb : cls s.1 s.2.2
  ha : ∀ p ∈ hs s.2.1, p ∈ own
  hb : ∀ p ∈ hs s.2.2, p ∈ own
structure Inv (nwf : Nat → W) (own : List (W × Nat)) (sides : List (Side W)) (h0 n0 l0 : Nat) (σ : Fl W) (made : Nat) (L : List (W × Nat)) (e : Nat) : Prop where
  so : ∀ w k u, σ w = some (k, u) → (w, k) ∈ own ∧ strt u ∧ cls k u ∧ (∀ p ∈ hs u, p ∈ L) ∧ Bd h0 n0 e u
  no : ∀ w m, (w, m) ∈ own → σ w = none → (w, m) ∈ L
  lf : (L.map (·.1)).Nodup
  ow : (own.map (·.1)).Nodup
  sd : ∀ s ∈ sides, SideOk own s
  bd : ∀ s ∈ sides, Bd h0 n0 e (fil (sg σ) s.2.1) ∧ Bd h0 n0 e (fil (sg σ) s.2.2)
  nw : ∀ p ∈ L, p.1 ∈ own.map (·.1) ∨ ∃ k, k < made ∧ p.1 = nwf k
  le : L.length + e ≤ l0
theorem fun_of {L : List (W × Nat)} (h : (L.map (·.1)).Nodup) {w : W} {k m : Nat} (a : (w, k) ∈ L) (b : (w, m) ∈ L) : k = m := by
  induction L with
  | nil => cases a
  | cons p r ih =>
    rw [List.map_cons, List.nodup_cons] at h
    rcases List.mem_cons.mp a with a | a
    · rcases List.mem_cons.mp b with b | b
      · rw [← a] at b; exact (Prod.mk.inj b).2.symm
      · exact absurd (List.mem_map.mpr ⟨_, b, by rw [← a]⟩) h.1
    · rcases List.mem_cons.mp b with b | b
      · exact absurd (List.mem_map.mpr ⟨_, a, by rw [← b]⟩) h.1
      · exact ih h.2 a b
def U (sides : List (Side W)) (σ : Fl W) (L : List (W × Nat)) : Prop := ∃ θ, gd θ L ∧ ∀ s ∈ sides, fil θ (fil (sg σ) s.2.1) = fil θ (fil (sg σ) s.2.2)
section
variable {nwf : Nat → W} {own : List (W × Nat)} {sides : List (Side W)} {h0 n0 l0 : Nat} {σ : Fl W} {made : Nat} {L : List (W × Nat)} {e : Nat}
theorem Inv.okf (I : Inv nwf own sides h0 n0 l0 σ made L e) {l : List (W × Nat)} (hl : ∀ p ∈ l, p ∈ own) : okF (sg σ) l := fun w m hm u hu => by
  unfold sg at hu
  cases q : σ w with
  | none => rw [q] at hu; cases hu
  | some p =>
    rw [q] at hu
    obtain ⟨k, v⟩ := p
    cases hu
    obtain ⟨h1, _, h2, _⟩ := I.so w k v q
    rw [fun_of I.ow (hl _ hm) h1]
    exact h2
theorem Inv.holes (I : Inv nwf own sides h0 n0 l0 σ made L e) {t : T W} (ht : ∀ p ∈ hs t, p ∈ own) : ∀ p ∈ hs (fil (sg σ) t), p ∈ L := fun p hp => by
  rcases mem_hs_fil hp with ⟨h1, h2⟩ | ⟨w, m, u, h1, h2, h3⟩
  · refine I.no p.1 p.2 (ht p h1) ?_
    unfold sg at h2
    cases q : σ p.1 with
    | none => rfl
    | some r => rw [q] at h2; cases h2
  · unfold sg at h2
    cases q : σ w with
    | none => rw [q] at h2; cases h2
    | some r =>
      obtain ⟨k, v⟩ := r
      rw [q] at h2
      cases h2
      exact (I.so w k v q).2.2.2.1 p h3
theorem Inv.strt (I : Inv nwf own sides h0 n0 l0 σ made L e) {t : T W} (st : HF.strt t) (ht : ∀ p ∈ hs t, p ∈ own) : HF.strt (fil (sg σ) t) :=
  strt_fil st (I.okf ht) fun w m u hm hu => by
    unfold sg at hu
    cases q : σ w with
    | none => rw [q] at hu; cases hu
    | some r =>
      obtain ⟨k, v⟩ := r
      rw [q] at hu
      cases hu
      exact (I.so w k v q).2.1
theorem Inv.cls (I : Inv nwf own sides h0 n0 l0 σ made L e) {n : Nat} {t : T W} (c : HF.cls n t) (ht : ∀ p ∈ hs t, p ∈ own) : HF.cls n (fil (sg σ) t) := cls_fil (I.okf ht) c
/-- a hole filled besides -/
theorem fil_new (I : Inv nwf own sides h0 n0 l0 σ made L e) {w : W} {m : Nat} {u : T W} (hw : (w, m) ∈ L) (hc : HF.cls m u) {t : T W} (ht : ∀ p ∈ hs t, p ∈ own) :
    fil (sg (newF own σ w m u)) t = fil (one w u) (fil (sg σ) t) := by
  rw [fil_fil t fun x mx v hx hv => ?_]
  · refine fil_congr t fun x mx hx => ?_
    show (newF own σ w m u x).map (·.2) = (match (σ x).map (·.2) with
      | some v => some (fil (one w u) v)
      | none => one w u x)
    unfold newF
    cases q : σ x with
    | some r => rfl
    | none =>
      show Option.map (·.2) (if x = w ∧ w ∈ own.map (·.1) then some (m, u) else none) = one w u x
      unfold one
      by_cases e : x = w
      · rw [if_pos ⟨e, List.mem_map.mpr ⟨_, ht _ hx, e⟩⟩, if_pos e]; rfl
      · rw [if_neg fun z => e z.1, if_neg e]; rfl
  · intro y my hy z hz
    obtain ⟨e1, e2⟩ := one_some hz
    subst e1
    subst e2
    unfold sg at hv
    cases q : σ x with
    | none => rw [q] at hv; cases hv
    | some r =>
      obtain ⟨k, v'⟩ := r
      rw [q] at hv
      cases hv
      rw [fun_of I.lf ((I.so x k v' q).2.2.2.1 _ hy) hw]
      exact hc
theorem Inv.fill (I : Inv nwf own sides h0 n0 l0 σ made L e) {w : W} {m : Nat} {u : T W} {L' : List (W × Nat)} {e' made' : Nat} (hw : (w, m) ∈ L) (st : HF.strt u) (hc : HF.cls m u) (lf : (L'.map (·.1)).Nodup)
    (keep : ∀ p ∈ L, p.1 ≠ w → p ∈ L') (hu : ∀ p ∈ hs u, p ∈ L') (bu : Bd h0 n0 e' u) (B : ∀ t : T W, (∀ p ∈ hs t, p ∈ L) → Bd h0 n0 e t → Bd h0 n0 e' (fil (one w u) t))
    (nw : ∀ p ∈ L', p.1 ∈ own.map (·.1) ∨ ∃ k, k < made' ∧ p.1 = nwf k) (le : L'.length + e' ≤ l0) : Inv nwf own sides h0 n0 l0 (newF own σ w m u) made' L' e' where
  so := fun x k v hx => by
    have hx' : (match σ x with
      | some (k, v) => some (k, fil (one w u) v)
      | none => if x = w ∧ w ∈ own.map (·.1) then some (m, u) else none) = some (k, v) := hx
    cases q : σ x with
    | some r =>
      obtain ⟨k1, v1⟩ := r
      rw [q] at hx'
      simp only [Option.some.injEq, Prod.mk.injEq] at hx'
      obtain ⟨rfl, rfl⟩ := hx'
      obtain ⟨a1, a2, a3, a4, a5⟩ := I.so x k1 v1 q
      have ok : okF (one w u) (hs v1) := fun y my hy z hz => by
        obtain ⟨e1, e2⟩ := one_some hz
        subst e1
        subst e2
        rw [fun_of I.lf (a4 _ hy) hw]
        exact hc
      refine ⟨a1, strt_fil a2 ok fun y my z hy hz => (one_some hz).2 ▸ st, cls_fil ok a3, fun p hp => ?_, B v1 a4 a5⟩
      rcases mem_hs_fil hp with ⟨h1, h2⟩ | ⟨y, my, z, h1, h2, h3⟩
      · refine keep p (a4 p h1) fun h => ?_
        unfold one at h2
        rw [if_pos h] at h2
        cases h2
      · rw [(one_some h2).2] at h3
        exact hu p h3
    | none =>
      rw [q] at hx'
      simp only at hx'
      split at hx'
      · rename_i hh
        obtain ⟨rfl, ho⟩ := hh
        simp only [Option.some.injEq, Prod.mk.injEq] at hx'
        obtain ⟨rfl, rfl⟩ := hx'
        obtain ⟨p, hp, ep⟩ := List.mem_map.mp ho
        obtain ⟨pw, pm⟩ := p
        have ep : pw = x := ep
        subst ep
        have := fun_of I.lf (I.no _ _ hp q) hw
        subst this
        exact ⟨hp, st, hc, hu, bu⟩
      · cases hx'
  no := fun x mx hx hn => by
    have hn' : (match σ x with
      | some (k, v) => some (k, fil (one w u) v)
      | none => if x = w ∧ w ∈ own.map (·.1) then some (m, u) else none) = none := hn
    cases q : σ x with
    | some r => rw [q] at hn'; cases hn'
    | none =>
      rw [q] at hn'
      simp only at hn'
      split at hn'
      · cases hn'
      · rename_i hh
        exact keep _ (I.no x mx hx q) fun h => hh ⟨h, List.mem_map.mpr ⟨_, hx, h⟩⟩
  lf := lf
  ow := I.ow
  sd := I.sd
  bd := fun s hs => by
    have q := I.sd s hs
    obtain ⟨b1, b2⟩ := I.bd s hs
    rw [fil_new I hw hc q.ha, fil_new I hw hc q.hb]
    exact ⟨B _ (I.holes q.ha) b1, B _ (I.holes q.hb) b2⟩
  nw := nw
  le := le
theorem U.fill (I : Inv nwf own sides h0 n0 l0 σ made L e) {w : W} {m : Nat} {u : T W} {L' : List (W × Nat)} (hw : (w, m) ∈ L) (hc : HF.cls m u) (hu : ∀ p ∈ hs u, p ∈ L') {θ θ' : W → Option (T W)}
    (g : ∀ s ∈ sides, fil θ (fil (sg σ) s.2.1) = fil θ (fil (sg σ) s.2.2)) (g' : gd θ' L') (same : ∀ p ∈ L, p.1 ≠ w → θ' p.1 = θ p.1) (at_ : θ w = some (fil θ' u)) : U sides (newF own σ w m u) L' := by
  refine ⟨θ', g', fun s hs => ?_⟩
  have q := I.sd s hs
  have key : ∀ t : T W, (∀ p ∈ HF.hs t, p ∈ own) → fil θ' (fil (sg (newF own σ w m u)) t) = fil θ (fil (sg σ) t) := fun t ht => by
    rw [fil_new I hw hc ht, fil_fil _ fun x mx v hx hv => ?_]
    · refine fil_congr _ fun x mx hx => ?_
      have hL := I.holes ht _ hx
      unfold beh one
      by_cases ex : x = w
      · rw [if_pos ex, ex]; exact at_.symm
      · rw [if_neg ex]; exact same _ hL ex
    · rw [(one_some hv).2]
      exact g'.ok.mono hu
  rw [key _ q.ha, key _ q.hb]
  exact g s hs
/-! ### the measure -/
def mu : List (W × Nat) → Nat
  | [] => 0
  | p :: r => 1 + p.2 + mu r
def rid (w : W) (L : List (W × Nat)) : List (W × Nat) := L.filter fun p => decide (p.1 ≠ w)
theorem mem_rid {w : W} {L : List (W × Nat)} {p : W × Nat} : p ∈ rid w L ↔ p ∈ L ∧ p.1 ≠ w := by
  unfold rid
  rw [List.mem_filter, decide_eq_true_eq]
theorem rid_eq {w : W} {L : List (W × Nat)} {p : W × Nat} (h : p.1 = w) : rid w (p :: L) = rid w L := List.filter_cons_of_neg (by simp [h])
theorem rid_ne {w : W} {L : List (W × Nat)} {p : W × Nat} (h : p.1 ≠ w) : rid w (p :: L) = p :: rid w L := List.filter_cons_of_pos (by simp [h])
theorem mu_rid_le (w : W) : ∀ L : List (W × Nat), mu (rid w L) ≤ mu L
  | [] => Nat.le_refl _
  | p :: r => by
    have := mu_rid_le w r
    by_cases h : p.1 = w
    · rw [rid_eq h]; simp only [mu]; omega
    · rw [rid_ne h]; simp only [mu]; omega
theorem mu_rid {w : W} {m : Nat} : ∀ {L : List (W × Nat)}, (w, m) ∈ L → mu (rid w L) + 1 + m ≤ mu L
  | [], h => by cases h
  | p :: r, h => by
    rcases List.mem_cons.mp h with h | h
    · have := mu_rid_le w r
      rw [rid_eq (by rw [← h]), ← h]
      simp only [mu]; omega
    · have := mu_rid h
      by_cases q : p.1 = w
      · rw [rid_eq q]; simp only [mu]; omega
      · rw [rid_ne q]; simp only [mu]; omega
theorem rid_len_le (w : W) (L : List (W × Nat)) : (rid w L).length ≤ L.length := List.length_filter_le _ _
theorem rid_len {w : W} {m : Nat} : ∀ {L : List (W × Nat)}, (w, m) ∈ L → (rid w L).length + 1 ≤ L.length
  | [], h => by cases h
  | p :: r, h => by
    rcases List.mem_cons.mp h with h | h
    · have := rid_len_le w r
      rw [rid_eq (by rw [← h])]
      simp only [List.length_cons]; omega
    · have := rid_len h
      by_cases q : p.1 = w
      · rw [rid_eq q]; simp only [List.length_cons]; omega
      · rw [rid_ne q]; simp only [List.length_cons]; omega
theorem rid_nodup {w : W} {L : List (W × Nat)} (h : (L.map (·.1)).Nodup) : ((rid w L).map (·.1)).Nodup := List.Nodup.sublist (List.filter_sublist.map _) h
/-! ### a leaf of the sides, filled -/
structure LeafOk (L : List (W × Nat)) (h0 n0 e : Nat) (ℓ : Leaf W) : Prop where
  ne : ℓ.a ≠ ℓ.b
  unlike : ¬ alike ℓ.a ℓ.b
  sa : HF.strt ℓ.a
  sb : HF.strt ℓ.b
  ca : HF.cls ℓ.sc ℓ.a
  cb : HF.cls ℓ.sc ℓ.b
  ha : ∀ p ∈ hs ℓ.a, p ∈ L
  hb : ∀ p ∈ hs ℓ.b, p ∈ L
  ba : Bd h0 n0 e ℓ.a
  bb : Bd h0 n0 e ℓ.b
theorem sub_len {l a r : List (W × Nat)} {x : List (W × Nat)} (h : x = l ++ a ++ r) : a.length ≤ x.length := by
  rw [h]; simp only [List.length_append]; omega
theorem leaf_ok (I : Inv nwf own sides h0 n0 l0 σ made L e) {s : Side W} (hs' : s ∈ sides) {ℓ : Leaf W} (hl : ℓ ∈ leaves s.1 [] (fil (sg σ) s.2.1) (fil (sg σ) s.2.2)) :
    LeafOk L h0 n0 e ℓ ∧ ∀ θ, fil θ (fil (sg σ) s.2.1) = fil θ (fil (sg σ) s.2.2) → fil θ ℓ.a = fil θ ℓ.b := by
  have g := leaves_good hl
  have q := I.sd s hs'
  obtain ⟨b1, b2⟩ := I.bd s hs'
  obtain ⟨l1, r1, e1⟩ := g.ha
  obtain ⟨l2, r2, e2⟩ := g.hb
  refine ⟨⟨g.ne, g.unlike, g.sa (I.strt q.sa q.ha), g.sb (I.strt q.sb q.hb), g.ca (I.cls q.ca q.ha), g.cb (I.cls q.cb q.hb), fun p hp => I.holes q.ha p (by rw [e1]; simp [hp]), fun p hp => I.holes q.hb p (by rw [e2]; simp [hp]),
    ⟨Nat.le_trans g.h1 b1.ht, Nat.le_trans (sub_len e1) b1.oc, Nat.le_trans g.n1 b1.nd⟩, ⟨Nat.le_trans g.h2 b2.ht, Nat.le_trans (sub_len e2) b2.oc, Nat.le_trans g.n2 b2.nd⟩⟩, g.eqv⟩
theorem clash_no (I : Inv nwf own sides h0 n0 l0 σ made L e) {s : Side W} (hs' : s ∈ sides) {ℓ : Leaf W} (hl : ℓ ∈ leaves s.1 [] (fil (sg σ) s.2.1) (fil (sg σ) s.2.2)) {f : Fault} (hf : faultOf ℓ.a ℓ.b = some f) : ¬ U sides σ L := by
  rintro ⟨θ, g, h⟩
  obtain ⟨k, eq⟩ := leaf_ok I hs' hl
  have := fault_sound (g.mono fun p hp => (List.mem_append.mp hp).elim (k.ha p) (k.hb p)) k.unlike k.ne (eq θ (h s hs'))
  rw [this] at hf
  cases hf
theorem sel_clo2 {ms : List Nat} {sc x : Nat} (h : x ∈ ms) : sel ms (clo ms sc x) = x := by
  unfold clo sel
  rw [if_pos h]
  have h1 := List.idxOf_lt_length_of_mem h
  have e : ms.length - 1 - (ms.length - 1 - ms.idxOf x) = ms.idxOf x := by omega
  rw [e, List.getD_eq_getElem?_getD, List.getElem?_eq_getElem h1, Option.getD_some, List.getElem_idxOf h1]
/-- THE STEP: a leaf without a fault gone on with -/
theorem step_ok (I : Inv nwf own sides h0 n0 l0 σ made L e) {s : Side W} (hs' : s ∈ sides) {ℓ : Leaf W} (hl : ℓ ∈ leaves s.1 [] (fil (sg σ) s.2.1) (fil (sg σ) s.2.2)) (hf : faultOf ℓ.a ℓ.b = none)
    {k0 M : Nat} (hk : made ≤ k0) (hM : k0 < M) (inj : ∀ i j, i < M → j < M → nwf i = nwf j → i = j) (fresh : nwf k0 ∉ own.map (·.1)) {r : W × Nat × T W} (hr : r = goOn (nwf k0) ℓ.sc ℓ.a ℓ.b) :
    ∃ L' e', Inv nwf own sides h0 n0 l0 (newF own σ r.1 r.2.1 r.2.2) (k0 + 1) L' e' ∧ (U sides σ L → U sides (newF own σ r.1 r.2.1 r.2.2) L') ∧ mu L' < mu L := by
  obtain ⟨k, eq⟩ := leaf_ok I hs' hl
  have hAB : ∀ p ∈ hs ℓ.a ++ hs ℓ.b, p ∈ L := fun p hp => (List.mem_append.mp hp).elim (k.ha p) (k.hb p)
  have act : Act (nwf k0) ℓ.a ℓ.b r := hr ▸ go_act k.sa k.sb k.ne (fun w ns ms h1 h2 => fun_of I.lf (k.ha (w, ns.length) (by rw [h1]; simp [hs])) (k.hb (w, ms.length) (by rw [h2]; simp [hs]))) hf
  have nwL : ∀ p ∈ L, p.1 ≠ nwf k0 := fun p hp z => by
    rcases I.nw p hp with h | ⟨j, hj, h⟩
    · exact fresh (z ▸ h)
    · rw [z] at h
      have := inj k0 j hM (by omega) h
      omega
  obtain ⟨w, m, u⟩ := r
  cases act with
  | elim h kk =>
    have hw : (w, m) ∈ L := hAB _ h.mem
    have hu : ∀ p ∈ hs u, p ∈ rid w L := fun p hp => mem_rid.mpr ⟨(by
      rcases h.sub with q | q
      · exact k.ha p (q ▸ hp)
      · exact k.hb p (q ▸ hp)), fun z => h.out p.2 (z ▸ hp)⟩
    have bu : Bd h0 n0 e u := by
      refine ⟨?_, ?_, ?_⟩
      · rcases h.ht with q | q
        · exact Nat.le_trans q k.ba.ht
        · exact Nat.le_trans q k.bb.ht
      · rcases h.sub with q | q
        · have : (hs u).length = (hs ℓ.a).length := congrArg List.length q
          rw [this]; exact k.ba.oc
        · have : (hs u).length = (hs ℓ.b).length := congrArg List.length q
          rw [this]; exact k.bb.oc
      · rcases h.nd with q | q
        · exact Nat.le_trans q k.ba.nd
        · exact Nat.le_trans q k.bb.nd
    refine ⟨rid w L, e + 1, I.fill hw h.st h.cl (rid_nodup I.lf) (fun p hp hn => mem_rid.mpr ⟨hp, hn⟩) hu bu.up (fun t _ b => b.fil bu) (fun p hp => ?_) (by have := rid_len hw; have := I.le; omega), fun ⟨θ, g, hh⟩ => ?_, by have := mu_rid hw; omega⟩
    · rcases I.nw p (mem_rid.mp hp).1 with q | ⟨j, hj, q⟩
      · exact Or.inl q
      · exact Or.inr ⟨j, by omega, q⟩
    · exact U.fill I hw h.cl hu hh (g.mono fun p hp => (mem_rid.mp hp).1) (fun _ _ _ => rfl) (kk θ (g.mono hAB) (eq θ (hh s hs')))
  | less ks h kk =>
    have hw : (w, m) ∈ L := hAB _ h.mem
    have eu : u = .hole (nwf k0) (lessN m ks) := h.eq
    have elen : (lessN m ks).length = ks.length := List.length_map _
    have hlt : ks.length < m := h.lt
    have hu : ∀ p ∈ hs u, p ∈ (nwf k0, ks.length) :: rid w L := fun p hp => by
      rw [eu] at hp
      simp only [hs, elen, List.mem_singleton] at hp
      rw [hp]; exact List.mem_cons_self
    have bd1 := (I.bd s hs').1
    have hnw : nwf k0 ∉ (rid w L).map (·.1) := fun z => by
      obtain ⟨p, hp, ep⟩ := List.mem_map.mp z
      exact nwL p (mem_rid.mp hp).1 ep
    have hcu : HF.cls m u := by
      rw [eu]
      intro x hx
      exact less_lt h.ran hx
    refine ⟨(nwf k0, ks.length) :: rid w L, e, I.fill hw (by rw [eu]; exact less_nodup h.ran h.nod) hcu (by rw [List.map_cons, List.nodup_cons]; exact ⟨hnw, rid_nodup I.lf⟩)
      (fun p hp hn => List.mem_cons_of_mem _ (mem_rid.mpr ⟨hp, hn⟩)) hu ?_ (fun t ht b => by rw [eu]; exact b.less (fun j hj => fun_of I.lf (ht _ hj) hw) (by rw [elen]; omega)) (fun p hp => ?_) (by have := rid_len hw; have := I.le; simp only [List.length_cons]; omega), fun ⟨θ, g, hh⟩ => ?_,
      by have := mu_rid hw; simp only [mu]; omega⟩
    · -- the new hole is bounded as the hole that it fills
      have hb : ∃ t : T W, Bd h0 n0 e t ∧ (w, m) ∈ hs t := by
        rcases List.mem_append.mp h.mem with q | q
        · exact ⟨_, k.ba, q⟩
        · exact ⟨_, k.bb, q⟩
      obtain ⟨t, bt, mt⟩ := hb
      have h1 := ht_hole mt
      have h2 := nd_hole mt
      refine ⟨?_, ?_, ?_⟩
      · rw [eu]; exact Nat.le_trans h1 bt.ht
      · rw [eu]; exact oB_pos e
      · rw [eu]
        show 1 + (lessN m ks).length ≤ _
        have := bt.nd
        omega
    · rcases List.mem_cons.mp hp with q | q
      · exact Or.inr ⟨k0, by omega, by rw [q]⟩
      · rcases I.nw p (mem_rid.mp q).1 with z | ⟨j, hj, z⟩
        · exact Or.inl z
        · exact Or.inr ⟨j, by omega, z⟩
    · have kp := kk θ (g.mono hAB) (eq θ (hh s hs'))
      obtain ⟨v, v1, v2, v3⟩ := g w m hw
      have mem : ∀ z, fr z 0 v → z ∈ lessN m ks := fun z hz => by
        have h1 : m - 1 - z ∈ ks := kp v v1 v3 z hz
        have h2 : z < m := v3 z hz
        exact List.mem_map.mpr ⟨_, h1, by omega⟩
      have hv' : ∀ (x : W), x = nwf k0 → (fun x => if x = nwf k0 then some (ren (clo (lessN m ks) 0) 0 v) else θ x) x = some (ren (clo (lessN m ks) 0) 0 v) := fun x hx => if_pos hx
      refine U.fill (θ := θ) (θ' := fun x => if x = nwf k0 then some (ren (clo (lessN m ks) 0) 0 v) else θ x) I hw hcu hu hh (fun x mx hx => ?_) (fun p hp hn => if_neg (nwL p hp)) ?_
      · rcases List.mem_cons.mp hx with q | q
        · obtain ⟨rfl, rfl⟩ := Prod.mk.inj q
          refine ⟨_, if_pos rfl, by rw [hs_ren]; exact v2, fun y hy => ?_⟩
          obtain ⟨z, z1, z2⟩ := fr_ren.mp hy
          rw [← z2, ← elen]
          exact clo_lt (mem z z1)
        · obtain ⟨q1, q2⟩ := mem_rid.mp q
          obtain ⟨y, y1, y2⟩ := g x mx q1
          exact ⟨y, (if_neg (nwL _ q1)).trans y1, y2⟩
      · rw [eu, v1]
        simp only [fil, if_true]
        rw [ren_ren]
        exact congrArg some (ren_id fun x hx => sel_clo2 (mem x hx)).symm
where
  ht_hole {w : W} {m : Nat} : ∀ {t : T W}, (w, m) ∈ hs t → 2 ≤ ht t
    | .name k, h => by simp [hs] at h
    | .hole v ns, h => Nat.le_refl 2
    | .sign v ps, h => by have := ht_holeL (t := ps) h; simp only [ht]; omega
  ht_holeL {w : W} {m : Nat} : ∀ {t : Ts W}, (w, m) ∈ hsL t → 2 ≤ htL t
    | .nil, h => by simp [hsL] at h
    | .cons k t r, h => by
      simp only [hsL, List.mem_append] at h
      simp only [htL]
      rcases h with h | h
      · exact Nat.le_trans (ht_hole h) (Nat.le_max_left _ _)
      · exact Nat.le_trans (ht_holeL h) (Nat.le_max_right _ _)
  nd_hole {w : W} {m : Nat} : ∀ {t : T W}, (w, m) ∈ hs t → 1 + m ≤ nd t
    | .name k, h => by simp [hs] at h
    | .hole v ns, h => by
      simp only [hs, List.mem_singleton, Prod.mk.injEq] at h
      rw [h.2]; exact Nat.le_refl _
    | .sign v ps, h => by have := nd_holeL (t := ps) h; simp only [nd]; omega
  nd_holeL {w : W} {m : Nat} : ∀ {t : Ts W}, (w, m) ∈ hsL t → 1 + m ≤ ndL t
    | .nil, h => by simp [hsL] at h
    | .cons k t r, h => by
      simp only [hsL, List.mem_append] at h
      simp only [ndL]
      rcases h with h | h
      · have := nd_hole h; omega
      · have := nd_holeL h; omega
end
end
end HF
end
section
set_option linter.all false
namespace HF
section
variable {W : Type} [DecidableEq W]
theorem sg_none : sg (fun _ : W => (none : Option (Nat × T W))) = fun _ => none := rfl
theorem fil_sg0 (t : T W) : fil (sg (fun _ : W => none)) t = t := fil_none t
/-- some ground filling makes all pairs the same -/
def Unif (sides : List (Side W)) (own : List (W × Nat)) : Prop := ∃ θ, gd θ own ∧ ∀ s ∈ sides, fil θ s.2.1 = fil θ s.2.2
theorem unif_U {sides : List (Side W)} {own : List (W × Nat)} : Unif sides own ↔ U sides (fun _ => none) own := by
  unfold Unif U
  simp only [fil_sg0]
theorem Unif.mono {s s' : List (Side W)} {o o' : List (W × Nat)} (h : Unif s o) (hs : ∀ x ∈ s', x ∈ s) (ho : ∀ p ∈ o', p ∈ o) : Unif s' o' := by
  obtain ⟨θ, g, e⟩ := h
  exact ⟨θ, g.mono ho, fun x hx => e x (hs x hx)⟩
theorem init_inv {nwf : Nat → W} {own : List (W × Nat)} {sides : List (Side W)} {h0 n0 l0 : Nat} (ow : (own.map (·.1)).Nodup) (sd : ∀ s ∈ sides, SideOk own s) (bd : ∀ s ∈ sides, Bd h0 n0 0 s.2.1 ∧ Bd h0 n0 0 s.2.2)
    (le : own.length ≤ l0) : Inv nwf own sides h0 n0 l0 (fun _ => none) 0 own 0 where
  so := fun w k u h => by cases h
  no := fun w m h _ => h
  lf := ow
  ow := ow
  sd := sd
  bd := fun s hs => by rw [fil_sg0, fil_sg0]; exact bd s hs
  nw := fun p hp => Or.inl (List.mem_map.mpr ⟨p, hp, rfl⟩)
  le := by simpa using le
theorem filled_unif {nwf : Nat → W} {own : List (W × Nat)} {sides : List (Side W)} {h0 n0 l0 : Nat} {σ : Fl W} {made : Nat} {L : List (W × Nat)} {e : Nat} (c : W) (I : Inv nwf own sides h0 n0 l0 σ made L e)
    (eq : ∀ s ∈ sides, fil (sg σ) s.2.1 = fil (sg σ) s.2.2) : Unif sides own := by
  let ψ : W → Option (T W) := fun _ => some (.sign c .nil)
  have hψ : ∀ w u, ψ w = some u → u = .sign c .nil := fun w u h => (Option.some.inj h).symm
  have okψ : ∀ l, okF ψ l := fun l w m _ u hu x hx => by rw [hψ w u hu] at hx; exact hx.elim
  refine ⟨beh (sg σ) ψ, fun w m hm => ?_, fun s hs => ?_⟩
  · unfold beh sg
    cases q : σ w with
    | none => exact ⟨.sign c .nil, rfl, rfl, fun x hx => hx.elim⟩
    | some r =>
      obtain ⟨k, v⟩ := r
      obtain ⟨h1, h2, h3, h4, _⟩ := I.so w k v q
      rw [fun_of I.ow hm h1]
      refine ⟨fil ψ v, rfl, ?_, cls_fil (okψ _) h3⟩
      cases q2 : hs (fil ψ v) with
      | nil => rfl
      | cons p r =>
        exfalso
        have hp : p ∈ hs (fil ψ v) := by rw [q2]; exact List.mem_cons_self
        rcases mem_hs_fil hp with ⟨_, h⟩ | ⟨x, k, u, _, hu, h⟩
        · cases h
        · rw [hψ x u hu] at h
          simp [hs, hsL] at h
  · rw [← fil_fil _ fun w m u _ _ => okψ _, ← fil_fil _ fun w m u _ _ => okψ _, eq s hs]
end
end HF
end
section
set_option Elab.async false
set_option linter.all false
set_option maxRecDepth 100000
set_option maxHeartbeats 4000000
namespace HW
open PySem PySem.Spec PyProof.Rows L2 NdefX LamX
/-! ### terms in the heap -/
abbrev Tm := HF.T Str
abbrev Tms := HF.Ts Str
def AtN (H : Hp) : List Nat → List V → Prop
  | [], vs => vs = []
  | k :: r, vs => ∃ a vs', vs = .ref a :: vs' ∧ H a = some (.tup [.str "name", .int (k : Int)]) ∧ AtN H r vs'
mutual
def At (H : Hp) : HF.T Str → V → Prop
  | .name k, v => ∃ a, v = .ref a ∧ H a = some (.tup [.str "name", .int (k : Int)])
  | .sign u ps, v => ∃ a b vs, v = .ref a ∧ H a = some (.tup [.str "sign", .str u, .ref b]) ∧ H b = some (.tup vs) ∧ AtL H ps vs
  | .hole u ns, v => ∃ a b vs, v = .ref a ∧ H a = some (.tup [.str "hole", .str u, .ref b]) ∧ H b = some (.tup vs) ∧ AtN H ns vs
def AtL (H : Hp) : HF.Ts Str → List V → Prop
  | .nil, vs => vs = []
  | .cons m t r, vs => ∃ c tv vs', vs = .ref c :: vs' ∧ H c = some (.tup [.int (m : Int), tv]) ∧ At H t tv ∧ AtL H r vs'
end
/-! ### growing -/
structure Gr (T : List NTab) (X : List Addr) (H H' : Hp) : Prop where
  ext : ∀ b o, b ∉ X → H b = some o → (∀ ps, o ≠ .tbl ps) → H' b = some o
  tup : ∀ b xs, H b = some (.tup xs) → H' b = some (.tup xs)
  back : ∀ b, H' b = Option.none → H b = Option.none
  tab : TabsN T H'
section
variable {T : List NTab} {X : List Addr} {H H1 H2 : Hp} {p : Addr} {o o0 : HO}
theorem Gr.refl (t : TabsN T H) : Gr T X H H := ⟨fun _ _ _ h _ => h, fun _ _ h => h, fun _ h => h, t⟩
theorem Gr.trans (a : Gr T X H H1) (b : Gr T X H1 H2) : Gr T X H H2 := ⟨fun c o hx h n => b.ext c o hx (a.ext c o hx h n) n, fun c xs h => b.tup c xs (a.tup c xs h), fun c h => a.back c (b.back c h), b.tab⟩
theorem Gr.wide (a : Gr T [] H H1) : Gr T X H H1 := ⟨fun c o _ h n => a.ext c o (by simp) h n, a.tup, a.back, a.tab⟩
theorem Gr.new (a : Gr T X H H1) (hp : H1 p = Option.none) : Gr T X H (upd H1 p o) :=
  ⟨fun c u hx h n => by have := a.ext c u hx h n; rw [upd_ne (ne_of_none this hp)]; exact this, fun c xs h => by have := a.tup c xs h; rw [upd_ne (ne_of_none this hp)]; exact this,
    fun c h => a.back c (upd_none h), a.tab.ext fun c u h => by rw [upd_ne (ne_of_none h hp)]; exact h⟩
theorem Gr.new0 (t : TabsN T H) (hp : H p = Option.none) : Gr T X H (upd H p o) := (Gr.refl t).new hp
/-- what is new to H, or out of reach, may change -/
theorem Gr.mut (a : Gr T X H H1) (hp : H p = Option.none ∨ p ∈ X) (h1 : H1 p = some o0) (n1 : ∀ ps, o0 ≠ .tbl ps) (n2 : ∀ φ, o0 ≠ .ext φ) (n3 : ∀ xs, o0 ≠ .tup xs) : Gr T X H (upd H1 p o) :=
  ⟨fun c u hx h n => by
      have ne : c ≠ p := fun z => hp.elim (fun q => by rw [z, q] at h; cases h) fun q => hx (by rw [z]; exact q)
      rw [upd_ne ne]; exact a.ext c u hx h n,
    fun c xs h => by
      have := a.tup c xs h
      rw [upd_ne (ne_of this h1 fun z => n3 xs z.symm)]; exact this,
    fun c h => a.back c (upd_none h), fun q hq => by
      obtain ⟨ps, t1, t2, t3⟩ := a.tab q hq
      refine ⟨ps, by rw [upd_ne (ne_of t1 h1 fun z => n1 ps z.symm)]; exact t1, t2, fun pos cv hc => ?_⟩
      obtain ⟨c, e1, e2⟩ := t3 pos cv hc
      exact ⟨c, e1, by rw [upd_ne (ne_of e2 h1 fun z => (by unfold CodeO at z; exact n2 _ z.symm))]; exact e2⟩⟩
theorem Gr.mutL {xs : List V} (a : Gr T X H H1) (hp : H p = Option.none ∨ p ∈ X) (h1 : H1 p = some (.lst xs)) : Gr T X H (upd H1 p o) := a.mut hp h1 (fun _ z => by cases z) (fun _ z => by cases z) (fun _ z => by cases z)
theorem Gr.mutD {kvs : List (Key × V)} (a : Gr T X H H1) (hp : H p = Option.none ∨ p ∈ X) (h1 : H1 p = some (.dK kvs)) : Gr T X H (upd H1 p o) := a.mut hp h1 (fun _ z => by cases z) (fun _ z => by cases z) (fun _ z => by cases z)
theorem Gr.mutI {C dx : Addr} {fs : List (Str × V)} (a : Gr T X H H1) (hp : H p = Option.none ∨ p ∈ X) (h1 : H1 p = some (.ins C dx fs)) : Gr T X H (upd H1 p o) := a.mut hp h1 (fun _ z => by cases z) (fun _ z => by cases z) (fun _ z => by cases z)
theorem Gr.lst {xs : List V} (a : Gr T X H H1) (h : H p = some (.lst xs)) (hx : p ∉ X := by simp) : H1 p = some (.lst xs) := a.ext _ _ hx h fun _ z => by cases z
theorem Gr.dK {kvs : List (Key × V)} (a : Gr T X H H1) (h : H p = some (.dK kvs)) (hx : p ∉ X := by simp) : H1 p = some (.dK kvs) := a.ext _ _ hx h fun _ z => by cases z
theorem Gr.ins {C dx : Addr} {fs : List (Str × V)} (a : Gr T X H H1) (h : H p = some (.ins C dx fs)) (hx : p ∉ X := by simp) : H1 p = some (.ins C dx fs) := a.ext _ _ hx h fun _ z => by cases z
theorem Gr.sqT {K : PySem.W.Frag} {xs : List V} (a : Gr T [] H H1) (h : SqT K H p xs) : SqT K H1 p xs := by
  rcases h with (h | ⟨o, h⟩) | h
  · exact .inl (.inl (a.tup _ _ h))
  · exact .inl (.inr ⟨o, a.ext _ _ (by simp) h fun _ z => by cases z⟩)
  · exact .inr h
theorem Gr.sqL {K : PySem.W.Frag} {xs : List V} (a : Gr T [] H H1) (h : SqL K H p xs) : SqL K H1 p xs := by
  rcases h with (h | ⟨o, h⟩) | h
  · exact .inl (.inl (a.lst h))
  · exact .inl (.inr ⟨o, a.ext _ _ (by simp) h fun _ z => by cases z⟩)
  · exact .inr h
theorem AtN.mono (g : Gr T X H H1) : ∀ {ns : List Nat} {vs : List V}, AtN H ns vs → AtN H1 ns vs
  | [], _, h => h
  | k :: r, _, ⟨a, vs', e, h1, h2⟩ => ⟨a, vs', e, g.tup _ _ h1, AtN.mono g h2⟩
mutual
theorem At.mono (g : Gr T X H H1) : ∀ {t : HF.T Str} {v : V}, At H t v → At H1 t v
  | .name k, _, ⟨a, e, h⟩ => ⟨a, e, g.tup _ _ h⟩
  | .sign u ps, _, ⟨a, b, vs, e, h1, h2, h3⟩ => ⟨a, b, vs, e, g.tup _ _ h1, g.tup _ _ h2, AtL.mono g h3⟩
  | .hole u ns, _, ⟨a, b, vs, e, h1, h2, h3⟩ => ⟨a, b, vs, e, g.tup _ _ h1, g.tup _ _ h2, AtN.mono g h3⟩
theorem AtL.mono (g : Gr T X H H1) : ∀ {ts : HF.Ts Str} {vs : List V}, AtL H ts vs → AtL H1 ts vs
  | .nil, _, h => h
  | .cons m t r, _, ⟨c, tv, vs', e, h1, h2, h3⟩ => ⟨c, tv, vs', e, g.tup _ _ h1, At.mono g h2, AtL.mono g h3⟩
end
end
/-! ### lists of parts -/
def tsL : HF.Ts Str → List (Nat × Tm)
  | .nil => []
  | .cons m t r => (m, t) :: tsL r
def mkTs : List (Nat × Tm) → HF.Ts Str
  | [] => .nil
  | (m, t) :: r => .cons m t (mkTs r)
theorem mk_tsL : ∀ ts, mkTs (tsL ts) = ts
  | .nil => rfl
  | .cons m t r => by simp only [tsL, mkTs, mk_tsL r]
/-- one part in the heap -/
def AtP (H : Hp) (q : Nat × Tm) (v : V) : Prop := ∃ c tv, v = .ref c ∧ H c = some (.tup [.int (q.1 : Int), tv]) ∧ At H q.2 tv
def AtPs (H : Hp) : List (Nat × Tm) → List V → Prop
  | [], vs => vs = []
  | q :: r, vs => ∃ v vs', vs = v :: vs' ∧ AtP H q v ∧ AtPs H r vs'
theorem atL_ps {H : Hp} : ∀ {ts : HF.Ts Str} {vs : List V}, AtL H ts vs ↔ AtPs H (tsL ts) vs
  | .nil, vs => Iff.rfl
  | .cons m t r, vs => by
    constructor
    · rintro ⟨c, tv, vs', e, h1, h2, h3⟩
      exact ⟨_, vs', e, ⟨c, tv, rfl, h1, h2⟩, atL_ps.mp h3⟩
    · rintro ⟨v, vs', e, ⟨c, tv, e2, h1, h2⟩, h3⟩
      exact ⟨c, tv, vs', by rw [e, e2], h1, h2, atL_ps.mpr h3⟩
theorem AtPs.len {H : Hp} : ∀ {l : List (Nat × Tm)} {vs : List V}, AtPs H l vs → vs.length = l.length
  | [], _, h => by rw [show _ = [] from h] <;> rfl
  | q :: r, _, ⟨v, vs', e, _, h⟩ => by rw [e, List.length_cons, List.length_cons, AtPs.len h]
theorem AtPs.get {H : Hp} : ∀ {l : List (Nat × Tm)} {vs : List V} {i : Nat} {v : V}, AtPs H l vs → vs[i]? = some v → ∃ q, l[i]? = some q ∧ AtP H q v
  | [], _, i, v, h, e => by rw [show _ = [] from h] at e; simp at e
  | q :: r, _, 0, v, ⟨x, vs', e1, hx, _⟩, e => by
    rw [e1] at e
    simp at e
    exact ⟨q, by simp, e ▸ hx⟩
  | q :: r, _, i + 1, v, ⟨x, vs', e1, _, h⟩, e => by
    rw [e1] at e
    obtain ⟨z, h1, h2⟩ := AtPs.get (i := i) h (by simpa using e)
    exact ⟨z, by simpa using h1, h2⟩
theorem AtP.mono {T : List NTab} {X : List Addr} {H H1 : Hp} (g : Gr T X H H1) {q : Nat × Tm} {v : V} (h : AtP H q v) : AtP H1 q v := let ⟨c, tv, e, h1, h2⟩ := h; ⟨c, tv, e, g.tup _ _ h1, h2.mono g⟩
theorem AtPs.mono {T : List NTab} {X : List Addr} {H H1 : Hp} (g : Gr T X H H1) : ∀ {l : List (Nat × Tm)} {vs : List V}, AtPs H l vs → AtPs H1 l vs
  | [], _, h => h
  | q :: r, _, ⟨v, vs', e, hx, h⟩ => ⟨v, vs', e, hx.mono g, AtPs.mono g h⟩
theorem AtPs.snoc {H : Hp} {q : Nat × Tm} {v : V} (hq : AtP H q v) : ∀ {l : List (Nat × Tm)} {vs : List V}, AtPs H l vs → AtPs H (l ++ [q]) (vs ++ [v])
  | [], _, h => by rw [show _ = [] from h]; exact ⟨v, [], rfl, hq, rfl⟩
  | z :: r, _, ⟨x, vs', e, hx, h⟩ => by rw [e]; exact ⟨x, vs' ++ [v], rfl, hx, AtPs.snoc hq h⟩
theorem AtN.len {H : Hp} : ∀ {l : List Nat} {vs : List V}, AtN H l vs → vs.length = l.length
  | [], _, h => by rw [show _ = [] from h] <;> rfl
  | q :: r, _, ⟨v, vs', e, _, h⟩ => by rw [e, List.length_cons, List.length_cons, AtN.len h]
theorem AtN.get {H : Hp} : ∀ {l : List Nat} {vs : List V} {i : Nat} {v : V}, AtN H l vs → vs[i]? = some v → ∃ k, l[i]? = some k ∧ At H (.name k) v
  | [], _, i, v, h, e => by rw [show _ = [] from h] at e; simp at e
  | q :: r, _, 0, v, ⟨x, vs', e1, hx, _⟩, e => by
    rw [e1] at e
    simp at e
    exact ⟨q, by simp, x, e.symm, hx⟩
  | q :: r, _, i + 1, v, ⟨x, vs', e1, _, h⟩, e => by
    rw [e1] at e
    obtain ⟨z, h1, h2⟩ := AtN.get (i := i) h (by simpa using e)
    exact ⟨z, by simpa using h1, h2⟩
theorem AtN.snoc {H : Hp} {k : Nat} {v : V} (hq : At H (.name k) v) : ∀ {l : List Nat} {vs : List V}, AtN H l vs → AtN H (l ++ [k]) (vs ++ [v])
  | [], _, h => by
    rw [show _ = [] from h]
    obtain ⟨a, e, h1⟩ := hq
    exact ⟨a, [], by rw [e] <;> rfl, h1, rfl⟩
  | z :: r, _, ⟨x, vs', e, hx, h⟩ => by rw [e]; exact ⟨x, vs' ++ [v], rfl, hx, AtN.snoc hq h⟩
/-! ### what stands behind the top -/
structure Cn (K : PySem.W.Frag) (mg : Str → Option Value) (base : Heap) : Prop where
  X : K.In base
  G : base.Ns mainGlobals mg
  c : He.SaysD fa fn K
  tb : ∀ p ∈ tf, TabB base mg (He.cT K p).1 (He.cT K p).2
  al : exT K = true
section
variable {P : Program} {w : World} {K : PySem.W.Frag} {mg : Str → Option Value} {base : Heap}
theorem Cn.glo (S : Cn K mg base) (i : Nat) {x : Str} (h : fa[i]? = some (.glo x) := by rfl) : mg x = some (.ref (He.ga K x)) := He.glo_ok S.X S.G (S.c.fact i h)
theorem Cn.free (S : Cn K mg base) (i : Nat) {x : Str} (h : fa[i]? = some (.free x) := by rfl) : mg x = Option.none := He.free_ok S.X S.G (S.c.fact i h)
/-- the module's name x is a def that keeps the promise sp; dv: defaults that fill up -/
structure Has (P : Program) (w : World) (K : PySem.W.Frag) (mg : Str → Option Value) (base : Heap) (x : Str) (k : Nat) (ps : List Str) (dv : List V) (sp : Sp) : Prop where
  ex : ∃ (f : Addr) (fd : FuncData) (ds : List Value), mg x = some (.ref f) ∧ PySem.W.keepIn K (.ref f) = true ∧ FnOk P w K mg base CX0 k f fd ps sp ∧ Vals dv ds ∧ Binds K fd ps ds
theorem Has.imp {x : Str} {k : Nat} {ps : List Str} {dv : List V} {sp sp' : Sp} (h : Has P w K mg base x k ps dv sp) (i : ∀ vs H Q E, sp' vs H Q E → sp vs H Q E) : Has P w K mg base x k ps dv sp' :=
  let ⟨f, fd, ds, a, b, c, d, e⟩ := h.ex
  ⟨f, fd, ds, a, b, c.imp i, d, e⟩
theorem pe_hs {X : Cx} {x : Str} {k j : Nat} {ps : List Str} {dv : List V} {sp : Sp} {e : Expr} {es : List Expr} {p pos : Pos} {t : TA} (h : Has X.prog X.w X.K X.mg X.base x k ps dv sp) (hr : Room j X.A) (hk : k ≤ j) (hg : Gl X x) (ha : PA X (e :: es) t)
    (hdb : (x == ("__debug__" : Str)) = false := by decide) (he : starEach (e :: es) X.env = (false, eval e X.env) :: starEach es X.env := by rfl) (hpl : (backTo pos (starEach es X.env)).any (·.1) = false := by rfl) :
    PE X (.Call (.Name x p) (e :: es) [] pos) (tCall sp dv E0 t) := by
  obtain ⟨f, fd, ds, a, b, c, d, q⟩ := h.ex
  exact pe_call c (hr.mono hk) hg a b q d pass0 ha hdb he hpl
/-- a def without defaults, by its body -/
theorem has_of {d : He.DefD} {x : Str} {N ps : List Str} {k : Nat} {sp : Sp} (S : Cn K mg base) (i j : Nat) (hd : fn[i]? = some d) (hg : fa[j]? = some (.glo x)) (hat : d.at_ = (x, Option.none)) (hdf : d.dfl = []) (hkw : d.kwd = [])
    (Sc : FnScope N ps d.scope) (len : ∀ vs H Q E, sp vs H Q E → vs.length = ps.length)
    (hb : ∀ (kV doc pm : Value) (an : Option Addr) (cdv ct : Value) (us : List Value), us.length = ps.length → bindArgs (PySem.W.fnOf d.name d.qual d.params d.body d.scope .none kV doc pm an cdv ct) ⟨us, []⟩ = pure (ps.zip us))
    (hbody : ∀ (f : Addr) (cdv : Value) (A : Around) (outer : List Env) (s : Shared) (H : Hp) (vs : List V) (Q : VK) (E : XK), Room k (A.deeper (envOfC d.qual d.scope s.heap.objs.size f cdv)) → sp vs H Q E →
      ∃ t, PSs (cxOf CX0 P w K mg base N d.qual d.scope f cdv A outer s H E).nox d.body t ∧ t { nx := fun _ H' => Q .non H', rt := Q } (start N vs) H) : Has P w K mg base x (k + 1) ps [] sp := by
  obtain ⟨fd, F⟩ := S.c.def_ i hd
  have e1 : d.dvs K = [] := by unfold He.DefD.dvs; rw [hdf]; rfl
  have e2 : d.kws K = [] := by unfold He.DefD.kws; rw [hkw]; rfl
  rw [e1, e2] at F
  have ef : He.fAd K d.at_ = He.ga K x := by rw [hat]; rfl
  have fo : FnOk P w K mg base CX0 (k + 1) (He.fAd K d.at_) fd ps sp := F.ok Sc len fun cdv A outer s H vs Q E hr h => (let ⟨t, h1, h2⟩ := hbody _ cdv A outer s H vs Q E hr h; ⟨t, h1.nox, h2⟩)
  have kp := F.kp
  have bi := F.bindsN hb
  rw [ef] at fo kp
  exact ⟨_, fd, [], S.glo j hg, kp, fo, .nil, bi⟩
/-- no call is left: a promise that nothing can ask -/
theorem has_zero {d : He.DefD} {x : Str} {ps : List Str} {sp : Sp} (S : Cn K mg base) (i j : Nat) (hd : fn[i]? = some d) (hg : fa[j]? = some (.glo x)) (hat : d.at_ = (x, Option.none)) (hdf : d.dfl = []) (hkw : d.kwd = [])
    (hb : ∀ (kV doc pm : Value) (an : Option Addr) (cdv ct : Value) (us : List Value), us.length = ps.length → bindArgs (PySem.W.fnOf d.name d.qual d.params d.body d.scope .none kV doc pm an cdv ct) ⟨us, []⟩ = pure (ps.zip us))
    (no : ∀ vs H Q E, ¬ sp vs H Q E) : Has P w K mg base x 0 ps [] sp := by
  obtain ⟨fd, F⟩ := S.c.def_ i hd
  have e1 : d.dvs K = [] := by unfold He.DefD.dvs; rw [hdf]; rfl
  have e2 : d.kws K = [] := by unfold He.DefD.kws; rw [hkw]; rfl
  rw [e1, e2] at F
  have ef : He.fAd K d.at_ = He.ga K x := by rw [hat]; rfl
  have fo : FnOk P w K mg base CX0 0 (He.fAd K d.at_) fd ps sp := ⟨fun vs H Q E h => absurd h (no vs H Q E), fun A outer s H args us vs Q E _ _ _ _ h => absurd h (no vs H Q E)⟩
  have kp := F.kp
  have bi := F.bindsN hb
  rw [ef] at fo kp
  exact ⟨_, fd, [], S.glo j hg, kp, fo, .nil, bi⟩
end
/-! ### tests whose answer is known -/
theorem ift {A B : Prop} {b : Bool} (e : b = true) (h : A) : if b = true then A else B := by rw [e]; exact iteT h
theorem iff' {A B : Prop} {b : Bool} (e : b = false) (h : B) : if b = true then A else B := by rw [e]; exact iteF h

end HW
end
section
set_option Elab.async false
set_option linter.all false
set_option maxRecDepth 100000
set_option maxHeartbeats 4000000
namespace HW
open PySem PySem.Spec PyProof.Rows L2 NdefX LamX
/-! ### comprehensions that map: each item gives a value of its own, what stands stays -/
section
variable {K : PySem.W.Frag} {T : List NTab} {a D : Addr} {xs : List V} {g : TG} {te : TE} {vs : List Nat} {σ : L2.St} {H1 : Hp} {Qd : Hp → Prop}
def MapInv (T : List NTab) (H1 : Hp) (D : Addr) (RB : Hp → Nat → V → Prop) (i : Nat) (H : Hp) : Prop :=
  ∃ ys, Gr T [] H1 H ∧ H D = some (.lst ys) ∧ ys.length = i ∧ ∀ j y, ys[j]? = some y → RB H j y
theorem mapInv0 (hT : TabsN T H1) (hD : H1 D = Option.none) (RB : Hp → Nat → V → Prop) : MapInv T H1 D RB 0 (upd H1 D (.lst [])) :=
  ⟨[], Gr.new0 hT hD, upd_same, rfl, fun j y h => by simp at h⟩
theorem mapInvS (hD : H1 D = Option.none) {RB : Hp → Nat → V → Prop} (mono : ∀ H H' i y, Gr T [] H H' → RB H i y → RB H' i y) (mu : ∀ H i y acc, H D = some (.lst acc) → RB H i y → ∀ l, RB (upd H D (.lst l)) i y)
    {i n : Nat} {H H4 : Hp} {y : V} (hi : i < n) (hn : n ≤ sizeLine) (p : MapInv T H1 D RB i H) (g4 : Gr T [] H H4) (r : RB H4 i y) :
    ∃ acc, H4 D = some (.lst acc) ∧ acc.length < sizeLine ∧ MapInv T H1 D RB (i + 1) (upd H4 D (.lst (acc ++ [y]))) := by
  obtain ⟨ys, h1, h2, h3, h4⟩ := p
  have h5 := g4.lst h2
  refine ⟨ys, h5, by omega, ys ++ [y], (h1.trans g4).mutL (.inl hD) h5, upd_same, by simp [h3], fun j z hz => ?_⟩
  by_cases hj : j < ys.length
  · rw [List.getElem?_append_left hj] at hz
    exact mu H4 j z _ h5 (mono _ _ _ _ g4 (h4 j z hz)) _
  · rw [List.getElem?_append_right (by omega)] at hz
    have ej : j = i := by
      have := List.getElem?_eq_some_iff.mp hz
      obtain ⟨h, _⟩ := this
      simp at h
      omega
    have ez : j - ys.length = 0 := by omega
    rw [ez] at hz
    simp at hz
    rw [← hz, ej]
    exact mu H4 i y _ h5 r _
theorem lc_mapT (RB : Hp → Nat → V → Prop) (hT : TabsN T H1) (hD : H1 D = Option.none) (hx : SqT K H1 a xs) (hn : xs.length ≤ sizeLine) (mono : ∀ H H' i y, Gr T [] H H' → RB H i y → RB H' i y)
    (mu : ∀ H i y acc, H D = some (.lst acc) → RB H i y → ∀ l, RB (upd H D (.lst l)) i y)
    (turn : ∀ i x H (Q' : VK) (Pz : Hp → Prop), xs[i]? = some x → Gr T [] H1 H → (∀ y H4, Gr T [] H H4 → RB H4 i y → Q' y H4) →
      g x (wipe σ vs) H fun σ2 H2 => wipe σ2 vs = wipe σ vs ∧ tYes σ2 H2 fun b H3 => if b = true then te σ2 H3 Q' else Pz H3)
    (hd : ∀ H ys, Gr T [] H1 H → H D = some (.lst ys) → ys.length = xs.length → (∀ j y, ys[j]? = some y → RB H j y) → Qd H) :
    ∃ W : Nat → Nat → Hp → Prop, (∃ m, W 0 m (upd H1 D (.lst []))) ∧ ∀ i m H, W i m H →
      ((Itt K a).stop i H ∧ Qd H) ∨ ((Itt K a).go i H ∧ ∃ Nx : Hp → Prop, (∀ H', Nx H' → ∃ m', m' < m ∧ W (i + 1) m' H') ∧ ∀ x H', (Itt K a).yld i H x H' → g x (wipe σ vs) H' fun σ2 H2 => wipe σ2 vs = wipe σ vs ∧ tYes σ2 H2 fun b H3 =>
        if b = true then te σ2 H3 fun y H4 => ∃ acc, H4 D = some (.lst acc) ∧ acc.length < sizeLine ∧ Nx (upd H4 D (.lst (acc ++ [y]))) else Nx H3) :=
  lc_tup (K := K) (a := a) (xs := xs) (MapInv T H1 D RB) (mapInv0 hT hD RB) (fun i H _ p => (let ⟨_, g, _⟩ := p; g.sqT hx))
    (fun i x H hi p => turn i x H _ _ hi (let ⟨_, g, _⟩ := p; g) fun y H4 g4 r => mapInvS hD mono mu (List.getElem?_eq_some_iff.mp hi).1 hn p g4 r) fun H p => (let ⟨ys, g, h2, h3, h4⟩ := p; hd H ys g h2 h3 h4)
theorem lc_mapL (RB : Hp → Nat → V → Prop) (hT : TabsN T H1) (hD : H1 D = Option.none) (hx : SqL K H1 a xs) (hn : xs.length ≤ sizeLine) (mono : ∀ H H' i y, Gr T [] H H' → RB H i y → RB H' i y)
    (mu : ∀ H i y acc, H D = some (.lst acc) → RB H i y → ∀ l, RB (upd H D (.lst l)) i y)
    (turn : ∀ i x H (Q' : VK) (Pz : Hp → Prop), xs[i]? = some x → Gr T [] H1 H → (∀ y H4, Gr T [] H H4 → RB H4 i y → Q' y H4) →
      g x (wipe σ vs) H fun σ2 H2 => wipe σ2 vs = wipe σ vs ∧ tYes σ2 H2 fun b H3 => if b = true then te σ2 H3 Q' else Pz H3)
    (hd : ∀ H ys, Gr T [] H1 H → H D = some (.lst ys) → ys.length = xs.length → (∀ j y, ys[j]? = some y → RB H j y) → Qd H) :
    ∃ W : Nat → Nat → Hp → Prop, (∃ m, W 0 m (upd H1 D (.lst []))) ∧ ∀ i m H, W i m H →
      ((Itl K a).stop i H ∧ Qd H) ∨ ((Itl K a).go i H ∧ ∃ Nx : Hp → Prop, (∀ H', Nx H' → ∃ m', m' < m ∧ W (i + 1) m' H') ∧ ∀ x H', (Itl K a).yld i H x H' → g x (wipe σ vs) H' fun σ2 H2 => wipe σ2 vs = wipe σ vs ∧ tYes σ2 H2 fun b H3 =>
        if b = true then te σ2 H3 fun y H4 => ∃ acc, H4 D = some (.lst acc) ∧ acc.length < sizeLine ∧ Nx (upd H4 D (.lst (acc ++ [y]))) else Nx H3) :=
  lc_list (K := K) (a := a) (xs := xs) (MapInv T H1 D RB) (mapInv0 hT hD RB) (fun i H _ p => (let ⟨_, g, _⟩ := p; g.sqL hx))
    (fun i x H hi p => turn i x H _ _ hi (let ⟨_, g, _⟩ := p; g) fun y H4 g4 r => mapInvS hD mono mu (List.getElem?_eq_some_iff.mp hi).1 hn p g4 r) fun H p => (let ⟨ys, g, h2, h3, h4⟩ := p; hd H ys g h2 h3 h4)
theorem lc_mapR {lo : Int} {n : Nat} (RB : Hp → Nat → V → Prop) (hT : TabsN T H1) (hD : H1 D = Option.none) (hn : n ≤ sizeLine) (mono : ∀ H H' i y, Gr T [] H H' → RB H i y → RB H' i y)
    (mu : ∀ H i y acc, H D = some (.lst acc) → RB H i y → ∀ l, RB (upd H D (.lst l)) i y)
    (turn : ∀ i H (Q' : VK) (Pz : Hp → Prop), i < n → Gr T [] H1 H → (∀ y H4, Gr T [] H H4 → RB H4 i y → Q' y H4) →
      g (.int (lo + i)) (wipe σ vs) H fun σ2 H2 => wipe σ2 vs = wipe σ vs ∧ tYes σ2 H2 fun b H3 => if b = true then te σ2 H3 Q' else Pz H3)
    (hd : ∀ H ys, Gr T [] H1 H → H D = some (.lst ys) → ys.length = n → (∀ j y, ys[j]? = some y → RB H j y) → Qd H) :
    ∃ W : Nat → Nat → Hp → Prop, (∃ m, W 0 m (upd H1 D (.lst []))) ∧ ∀ i m H, W i m H →
      ((Itr lo n).stop i H ∧ Qd H) ∨ ((Itr lo n).go i H ∧ ∃ Nx : Hp → Prop, (∀ H', Nx H' → ∃ m', m' < m ∧ W (i + 1) m' H') ∧ ∀ x H', (Itr lo n).yld i H x H' → g x (wipe σ vs) H' fun σ2 H2 => wipe σ2 vs = wipe σ vs ∧ tYes σ2 H2 fun b H3 =>
        if b = true then te σ2 H3 fun y H4 => ∃ acc, H4 D = some (.lst acc) ∧ acc.length < sizeLine ∧ Nx (upd H4 D (.lst (acc ++ [y]))) else Nx H3) :=
  lc_range (lo := lo) (n := n) (MapInv T H1 D RB) (mapInv0 hT hD RB)
    (fun i H hi p => turn i H _ _ hi (let ⟨_, g, _⟩ := p; g) fun y H4 g4 r => mapInvS hD mono mu hi hn p g4 r) fun H p => (let ⟨ys, g, h2, h3, h4⟩ := p; hd H ys g h2 h3 h4)
end
/-! what is in tuples alone stands whatever becomes of a list -/
theorem tup_of_upd {H : Hp} {D b : Addr} {acc : List V} {l : HO} {xs : List V} (h : H D = some (.lst acc)) (hb : H b = some (.tup xs)) : upd H D l b = some (.tup xs) := by
  rw [upd_ne (ne_of hb h fun z => by cases z)]; exact hb
mutual
theorem At.upd {H : Hp} {D : Addr} {acc : List V} {l : HO} (h : H D = some (.lst acc)) : ∀ {t : HF.T Str} {v : V}, At H t v → At (upd H D l) t v
  | .name k, _, ⟨a, e, h1⟩ => ⟨a, e, tup_of_upd h h1⟩
  | .sign u ps, _, ⟨a, b, vs, e, h1, h2, h3⟩ => ⟨a, b, vs, e, tup_of_upd h h1, tup_of_upd h h2, AtL.upd h h3⟩
  | .hole u ns, _, ⟨a, b, vs, e, h1, h2, h3⟩ => ⟨a, b, vs, e, tup_of_upd h h1, tup_of_upd h h2, AtN.upd h h3⟩
theorem AtL.upd {H : Hp} {D : Addr} {acc : List V} {l : HO} (h : H D = some (.lst acc)) : ∀ {ts : HF.Ts Str} {vs : List V}, AtL H ts vs → AtL (upd H D l) ts vs
  | .nil, _, e => e
  | .cons m t r, _, ⟨c, tv, vs', e, h1, h2, h3⟩ => ⟨c, tv, vs', e, tup_of_upd h h1, At.upd h h2, AtL.upd h h3⟩
theorem AtN.upd {H : Hp} {D : Addr} {acc : List V} {l : HO} (h : H D = some (.lst acc)) : ∀ {ns : List Nat} {vs : List V}, AtN H ns vs → AtN (upd H D l) ns vs
  | [], _, e => e
  | k :: r, _, ⟨a, vs', e, h1, h2⟩ => ⟨a, vs', e, tup_of_upd h h1, AtN.upd h h2⟩
end
theorem AtP.upd {H : Hp} {D : Addr} {acc : List V} {l : HO} (h : H D = some (.lst acc)) {q : Nat × Tm} {v : V} (p : AtP H q v) : AtP (upd H D l) q v := let ⟨c, tv, e, h1, h2⟩ := p; ⟨c, tv, e, tup_of_upd h h1, h2.upd h⟩
theorem AtPs.of {H : Hp} : ∀ {l : List (Nat × Tm)} {ys : List V}, ys.length = l.length → (∀ (j : Nat) (y : V), ys[j]? = some y → ∃ q, l[j]? = some q ∧ AtP H q y) → AtPs H l ys
  | [], ys, hl, _ => by cases ys with
    | nil => rfl
    | cons _ _ => cases hl
  | q :: r, [], hl, _ => by cases hl
  | q :: r, y :: ys, hl, h => by
    obtain ⟨z, h1, h2⟩ := h 0 y (by simp)
    simp at h1
    subst h1
    exact ⟨y, ys, rfl, h2, AtPs.of (by simpa using hl) fun j v hv => by simpa using h (j + 1) v (by simpa using hv)⟩
theorem AtN.of {H : Hp} : ∀ {l : List Nat} {ys : List V}, ys.length = l.length → (∀ (j : Nat) (y : V), ys[j]? = some y → ∃ k, l[j]? = some k ∧ At H (.name k) y) → AtN H l ys
  | [], ys, hl, _ => by cases ys with
    | nil => rfl
    | cons _ _ => cases hl
  | q :: r, [], hl, _ => by cases hl
  | q :: r, y :: ys, hl, h => by
    obtain ⟨z, h1, h2⟩ := h 0 y (by simp)
    simp at h1
    subst h1
    obtain ⟨a, e, h3⟩ := h2
    exact ⟨a, ys, by rw [e], h3, AtN.of (by simpa using hl) fun j v hv => by simpa using h (j + 1) v (by simpa using hv)⟩
/-! ### the words of the kinds -/
abbrev vN : V := .str "name"
abbrev vS : V := .str "sign"
abbrev vH : V := .str "hole"
theorem eNS : decide (vN = vS) = false := by decide +kernel
theorem eNH : decide (vN = vH) = false := by decide +kernel
theorem eSN : decide (vS = vN) = false := by decide +kernel
theorem eSH : decide (vS = vH) = false := by decide +kernel
theorem eHN : decide (vH = vN) = false := by decide +kernel
theorem eHS : decide (vH = vS) = false := by decide +kernel
theorem eRf {v : V} : decide (v = v) = true := decide_eq_true rfl
theorem szl {n : Nat} (h : n ≤ 10000000) : n ≤ sizeLine := Nat.le_trans h (by decide)
theorem szl' {n : Nat} (h : n ≤ 10000000) : n < sizeLine := Nat.lt_of_le_of_lt h (by decide)
theorem tsL_len : ∀ ps : HF.Ts Str, (tsL ps).length ≤ HF.ndL ps
  | .nil => Nat.le_refl _
  | .cons m t r => by
    have h1 := HF.nd_pos t
    have h2 := tsL_len r
    simp only [tsL, List.length_cons, HF.ndL]; omega
section
variable {X : Cx}
/-- t[i], t a tuple -/
theorem ixT {e : Expr} {te : TE} {i : Int} {j : Nat} {p pos : Pos} (h : PE X e te) : PE X (.Subscript e (.Constant (.int i) j p) pos) (tOp (rIxT X.K) te (tC (.int i))) := pe_ix ix_tup h pe_int (fun _ _ => rfl)
/-- e == 'text', a test -/
theorem ptEq {e : Expr} {te : TE} {z : Str} {j : Nat} {p pos : Pos} (h : PE X e te) : PT X (.Compare e [.Eq] [.Constant (.str z) j p] pos) (tTest (tOp rEq te (tC (.str z)))) := pt_cmpR op_eq h pe_str (nomark _)
theorem ptNe {e : Expr} {te : TE} {z : Str} {j : Nat} {p pos : Pos} (h : PE X e te) : PT X (.Compare e [.NotEq] [.Constant (.str z) j p] pos) (tTest (tOp rNe te (tC (.str z)))) := pt_cmpR op_ne h pe_str (nomark _)
end
theorem yesT {A B : Hp → Prop} {σ : L2.St} {H : Hp} (h : A H) : tYes σ H (fun b H3 => if b = true then A H3 else B H3) := iteT (B := B H) h
theorem tsL_get : ∀ {ps : HF.Ts Str} {i : Nat} {z : Nat × Tm}, HF.strtL ps → (tsL ps)[i]? = some z → HF.strt z.2 ∧ HF.ht z.2 ≤ HF.htL ps ∧ HF.nd z.2 ≤ HF.ndL ps
  | .nil, i, z, _, e => by simp [tsL] at e
  | .cons m t r, 0, z, h, e => by
    simp [tsL] at e
    subst e
    exact ⟨h.1, Nat.le_max_left _ _, Nat.le_add_right _ _⟩
  | .cons m t r, i + 1, z, h, e => by
    obtain ⟨h1, h2, h3⟩ := tsL_get (i := i) h.2 (by simpa [tsL] using e)
    exact ⟨h1, Nat.le_trans h2 (Nat.le_max_right _ _), Nat.le_trans h3 (Nat.le_add_left _ _)⟩

end HW
end
section
set_option Elab.async false
set_option linter.all false
set_option maxRecDepth 100000
set_option maxHeartbeats 4000000
namespace HW
open PySem PySem.Spec PyProof.Rows L2 NdefX LamX
/-! ### told_names, is_straight, outer_names, counted_anew, closed_over -/
def nints (ns : List Nat) : List V := ns.map fun (k : Nat) => V.int (k : Int)
theorem inV_nat {k : Nat} : ∀ {ns : List Nat}, inV (.int (k : Int)) (nints ns) = decide (k ∈ ns)
  | [] => rfl
  | a :: r => by
    have ih := inV_nat (k := k) (ns := r)
    unfold inV nints at *
    rw [List.map_cons, List.any_cons, ih]
    show ((a : Int) == (k : Int) || decide (k ∈ r)) = decide (k ∈ a :: r)
    by_cases h : a = k
    · subst h; simp
    · have h1 : ¬ k = a := fun z => h z.symm
      have h2 : ¬ ((a : Int) = (k : Int)) := by omega
      simp [h1, h2]
theorem flat_nints {ns : List Nat} : (nints ns).all flatV = true := by
  unfold nints
  rw [List.all_map]
  exact List.all_eq_true.mpr fun _ _ => rfl
theorem nints_len {ns : List Nat} : (nints ns).length = ns.length := List.length_map _
theorem nints_snoc {ns : List Nat} {k : Nat} : nints (ns ++ [k]) = nints ns ++ [.int (k : Int)] := by simp [nints]
theorem take_snoc {α : Type} {l : List α} {i : Nat} {x : α} (h : l[i]? = some x) : l.take (i + 1) = l.take i ++ [x] := by
  rw [List.take_succ, h]; rfl
section
variable {P : Program} {w : World} {K : PySem.W.Frag} {mg : Str → Option Value} {base : Heap}
/-- told_names of a straight term -/
def spTold (T : List NTab) : Sp := fun vs H Q _ => ∃ (t : Tm) (v : V), vs = [v] ∧ At H t v ∧ TabsN T H ∧ HF.strt t ∧ HF.nd t ≤ 4000000 ∧
  ∀ H', Gr T [] H H' → (match t with
    | .hole _ ns => ∀ p, H p = Option.none → H' p = some (.tup (nints ns)) → Q (.ref p) H'
    | _ => Q .non H')
theorem sc_told_names : FnScope ["term", "names", "one"] ["term"] (defScope s_told_names) := ⟨rfl, rfl, rfl, by decide +kernel, rfl, by decide +kernel, by decide +kernel⟩
theorem ok_told (S : Cn K mg base) (T : List NTab) : Has P w K mg base "told_names" 1 ["term"] [] (spTold T) := by
  refine has_of (d := d_told_names) S 9 9 rfl rfl rfl rfl rfl sc_told_names (fun vs H Q E h => ?_) (fun _ _ _ _ _ _ us hl => match us, hl with | [_], _ => rfl) (fun f cdv A outer s H vs Q E hr h => ?_)
  · obtain ⟨t, v, rfl, _⟩ := h
    rfl
  refine ⟨_, (pss_cons (ps_if (ptNe (ixT (pv 0))) (pss_one (ps_ret pe_non)) pss_nil) (pss_cons (ps_set (i := 1) sc_told_names.nd rfl (Or.inl rfl) (pe_lst pa_nil)) (pss_cons (ps_for PassesOwn.never rfl (pi_tup (ixT (pv 0))) (pg_name (i := 2) sc_told_names.nd rfl (Or.inl rfl)) (pss_cons (ps_if (PW.pt (pw_or (ptNe (ixT (pv 2))) (pw_or1 (pt_cmpR op_in_seq (ixT (pv 2)) (pv 1) (by rfl))))) (pss_one (ps_ret pe_non)) pss_nil) (pss_one (ps_expr (pe_bm PySem.F.plainAttrs_list PySem.F.slot_list_append PySem.F.type_list_append mt_append (pv 1) (pa_cons (ixT (pv 2)) pa_nil)))))) (pss_one (ps_ret (pe_callTy call_tuple_of (by rfl) (S.free 61) (by decide +kernel) (pa_cons (pv 1) pa_nil))))))), ?_⟩
  obtain ⟨t, v, rfl, ht, hT, hst, hsz, q⟩ := h
  cases t with
  | name k =>
    obtain ⟨a, rfl, h1⟩ := ht
    refine ⟨_, rfl, a, _, 0, _, rfl, rfl, SqT.of h1, rfl, rfl, _, rfl, ift rfl ?_⟩
    exact q H (Gr.refl hT)
  | sign u ps =>
    obtain ⟨a, b, vs, rfl, h1, h2, h3⟩ := ht
    refine ⟨_, rfl, a, _, 0, _, rfl, rfl, SqT.of h1, rfl, rfl, _, rfl, ift rfl ?_⟩
    exact q H (Gr.refl hT)
  | hole u ns =>
    obtain ⟨a, b, vs, rfl, h1, h2, h3⟩ := ht
    have hz : HF.nd (HF.T.hole u ns) = 1 + ns.length := rfl
    have hl := h3.len
    refine ⟨_, rfl, a, _, 0, _, rfl, rfl, SqT.of h1, rfl, rfl, _, rfl, iff' rfl ?_⟩
    refine ⟨szl (by decide), fun l hl' => ?_⟩
    have g0 := Gr.new0 (X := []) (o := .lst []) hT hl'
    refine ⟨_, rfl, a, _, 2, _, rfl, rfl, SqT.of (g0.tup _ _ h1), rfl, b, rfl, ⟨_, SqT.of (g0.tup _ _ h2)⟩, ?_⟩
    refine for_tup (K := K) (a := b) (xs := vs) (fun i σ H' => ∃ o, σ = [some (.ref a), some (.ref l), o] ∧ Gr T [] H H' ∧ H' l = some (.lst (nints (ns.take i)))) ⟨_, rfl, g0, upd_same⟩ (fun i σ H' _ ⟨o, _, g, _⟩ => SqT.of (g.tup _ _ h2)) ?_ ?_
    · rintro i x σ H' hx ⟨o, rfl, g, hl2⟩
      obtain ⟨k, e, y, rfl, p⟩ := h3.get hx
      have p' := g.tup _ _ p
      refine ⟨_, rfl, y, _, 0, _, rfl, rfl, SqT.of p', rfl, rfl, _, rfl, iff' rfl ?_⟩
      refine ⟨_, rfl, y, _, 1, _, rfl, rfl, SqT.of p', rfl, _, rfl, l, _, rfl, .inl (SqL.of hl2), rfl, flat_nints, _, rfl, iff' ?_ ?_⟩
      · show inV (.int (k : Int)) (nints (ns.take i)) = false
        rw [inV_nat]
        refine decide_eq_false fun hm => ?_
        obtain ⟨h5, h6⟩ := List.getElem?_eq_some_iff.mp e
        obtain ⟨j, hj, ej⟩ := List.mem_iff_getElem.mp hm
        rw [List.getElem_take] at ej
        have hj' : j < i := by rw [List.length_take] at hj; omega
        have := (List.getElem_inj (show ns.Nodup from hst)).mp (ej.trans h6.symm)
        omega
      · refine ⟨_, rfl, .inl ⟨rfl, _, SqL.of hl2⟩, _, rfl, y, _, 1, _, rfl, rfl, SqT.of p', rfl, l, _, _, rfl, rfl, hl2, szl' (by rw [nints_len, List.length_take]; omega), ?_⟩
        refine ⟨_, rfl, g.mutL (.inl hl') hl2, ?_⟩
        rw [upd_same, take_snoc e, nints_snoc]
    · rintro σ H' ⟨o, rfl, g, hl2⟩
      refine ⟨_, rfl, l, _, rfl, .inl ⟨SqL.of hl2, fun p hp => ?_⟩⟩
      refine q _ (g.new hp) p (g.back _ hp) ?_
      rw [upd_same, hl, List.take_length]
/-- is_straight of a straight term -/
def spStr (T : List NTab) (n : Nat) : Sp := fun vs H Q _ => ∃ (t : Tm) (v : V), vs = [v] ∧ At H t v ∧ TabsN T H ∧ HF.strt t ∧ HF.nd t ≤ 4000000 ∧ HF.ht t ≤ n ∧ ∀ H', Gr T [] H H' → Q (.bl true) H'
theorem sc_is_straight : FnScope ["term", "many", "part"] ["term"] (defScope s_is_straight) := ⟨rfl, rfl, rfl, by decide +kernel, rfl, by decide +kernel, by decide +kernel⟩
theorem ok_str1 (S : Cn K mg base) (T : List NTab) (n : Nat) (ih : Has P w K mg base "is_straight" (n + 1) ["term"] [] (spStr T n)) (hT : Has P w K mg base "told_names" 1 ["term"] [] (spTold T)) :
    Has P w K mg base "is_straight" (n + 1 + 1) ["term"] [] (spStr T (n + 1)) := by
  refine has_of (d := d_is_straight) S 10 10 rfl rfl rfl rfl rfl sc_is_straight (fun vs H Q E h => ?_) (fun _ _ _ _ _ _ us hl => match us, hl with | [_], _ => rfl) (fun f cdv A outer s H vs Q E hr h => ?_)
  · obtain ⟨t, v, rfl, _⟩ := h
    rfl
  refine ⟨_, (pss_cons (ps_if (ptEq (ixT (pv 0))) (pss_one (ps_ret pe_bl)) pss_nil) (pss_cons (ps_if (ptEq (ixT (pv 0))) (pss_one (ps_ret (pe_callB (cr_all rfl) (by rfl) (S.free 71) (by decide +kernel) (pa_cons (pe_lc (own := [("many", 1), ("part", 2)]) (g := (gTup K 2 (gCons (gName 1) (gCons (gName 2) gNil)))) (by rfl) sc_is_straight.nd (pi_tup (ixT (pv 0))) (blkOk_by (N := ["term", "many", "part"]) (sc := defScope s_is_straight) (by decide +kernel)) (fun _ _ _ _ _ => (pg_tup rfl (pgs_cons (pg_name (i := 1) sc_is_straight.nd rfl (Or.inl rfl)) (pgs_cons (pg_name (i := 2) sc_is_straight.nd rfl (Or.inl rfl)) pgs_nil)))) (fun _ _ _ _ _ => pts_nil) (fun _ _ _ _ _ => (pe_hs ih hr (by omega) rfl (pa_cons (pv 2) pa_nil)))) pa_nil)))) pss_nil) (pss_one (ps_ret (pe_cmp (pc_notN (pe_hs hT hr (by omega) rfl (pa_cons (pv 0) pa_nil))) rfl))))), ?_⟩
  obtain ⟨t, v, rfl, ht, hTb, hst, hsz, hn, q⟩ := h
  cases t with
  | name k =>
    obtain ⟨a, rfl, h1⟩ := ht
    refine ⟨_, rfl, a, _, 0, _, rfl, rfl, SqT.of h1, rfl, rfl, _, rfl, ift eRf ?_⟩
    exact q H (Gr.refl hTb)
  | sign u ps =>
    obtain ⟨a, b, vs, rfl, h1, h2, h3⟩ := ht
    have hl := h3
    refine ⟨_, rfl, a, _, 0, _, rfl, rfl, SqT.of h1, rfl, rfl, _, rfl, iff' eSN ?_⟩
    refine ⟨_, rfl, a, _, 0, _, rfl, rfl, SqT.of h1, rfl, rfl, _, rfl, ift eRf ?_⟩
    refine ⟨_, rfl, a, _, 2, _, rfl, rfl, SqT.of h1, rfl, b, rfl, ⟨_, SqT.of h2⟩, fun D hD => ?_⟩
    have h4 := atL_ps.mp h3
    have h5 := h4.len
    have h6 := tsL_len ps
    have hz : HF.nd (HF.T.sign u ps) = 1 + HF.ndL ps := rfl
    refine lc_mapT (T := T) (K := K) (a := b) (xs := vs) (fun H i y => y = .bl true) hTb hD (SqT.of h2) (szl (by omega)) (fun H H' i y g e => e) (fun H i y acc _ e l => e) (fun i x H' Q' Pz hx g hq => ?_) fun H' ys g hy hlen hr' => ?_
    · obtain ⟨z, e, p⟩ := h4.get hx
      obtain ⟨c, tv, rfl, p1, p2⟩ := p.mono g
      refine ⟨c, _, rfl, SqT.of p1, rfl, _, _, rfl, _, _, rfl, rfl, rfl, yesT ?_⟩
      have hin := tsL_get hst e
      refine ⟨_, rfl, z.2, tv, rfl, p2, g.tab, hin.1, ?_, ?_, fun H2 g2 => hq _ _ g2 rfl⟩
      · have := hin.2.2; omega
      · have := hin.2.1; have hh : HF.ht (HF.T.sign u ps) = 1 + HF.htL ps := rfl; omega
    · refine ⟨D, List.replicate vs.length true, rfl, SqL.of ?_, ?_⟩
      · rw [hy]
        have : ys = (List.replicate vs.length true).map V.bl := by
          rw [List.map_replicate]
          refine List.eq_replicate_iff.mpr ⟨hlen, fun y hm => ?_⟩
          obtain ⟨j, hj⟩ := List.mem_iff_getElem?.mp hm
          exact hr' j y hj
        rw [this]
      · have : (List.replicate vs.length true).all id = true := by simp
        rw [this]
        exact q _ g
  | hole u ns =>
    obtain ⟨a, b, vs, rfl, h1, h2, h3⟩ := ht
    refine ⟨_, rfl, a, _, 0, _, rfl, rfl, SqT.of h1, rfl, rfl, _, rfl, iff' eHN ?_⟩
    refine ⟨_, rfl, a, _, 0, _, rfl, rfl, SqT.of h1, rfl, rfl, _, rfl, iff' eHS ?_⟩
    refine ⟨_, rfl, .hole u ns, _, rfl, ⟨a, b, vs, rfl, h1, h2, h3⟩, hTb, hst, hsz, fun H' g p hp e => ?_⟩
    exact q _ g
end

end HW
end
section
set_option Elab.async false
set_option linter.all false
set_option maxRecDepth 100000
set_option maxHeartbeats 4000000
namespace HW
open PySem PySem.Spec PyProof.Rows L2 NdefX LamX
/-! ### outer_names, counted_anew, closed_over -/
theorem frL_mem {x : Nat} : ∀ {c : Nat} {ps : HF.Ts Str}, HF.frL x c ps ↔ ∃ z ∈ tsL ps, HF.fr x (c + z.1) z.2
  | c, .nil => by simp [HF.frL, tsL]
  | c, .cons m t r => by
    simp only [HF.frL, tsL, List.mem_cons, frL_mem (ps := r)]
    constructor
    · rintro (h | ⟨z, h1, h2⟩)
      · exact ⟨(m, t), .inl rfl, h⟩
      · exact ⟨z, .inr h1, h2⟩
    · rintro ⟨z, rfl | h1, h2⟩
      · exact .inl h2
      · exact .inr ⟨z, h1, h2⟩
def ndP : List (Nat × Tm) → Nat
  | [] => 0
  | z :: r => HF.nd z.2 + ndP r
theorem ndP_tsL : ∀ ps : HF.Ts Str, ndP (tsL ps) = HF.ndL ps
  | .nil => rfl
  | .cons m t r => by simp only [tsL, ndP, HF.ndL, ndP_tsL r]
theorem ndP_snoc (z : Nat × Tm) : ∀ l, ndP (l ++ [z]) = ndP l + HF.nd z.2
  | [] => by simp [ndP]
  | y :: r => by simp only [List.cons_append, ndP, ndP_snoc z r]; omega
theorem ndP_take (i : Nat) : ∀ l, ndP (l.take i) ≤ ndP l := by
  induction i with
  | zero => intro l; simp [ndP]
  | succ i ih =>
    intro l
    cases l with
    | nil => simp
    | cons y r => have := ih r; simp only [List.take_succ_cons, ndP]; omega
theorem htL_get : ∀ {ps : HF.Ts Str} {i : Nat} {z : Nat × Tm}, (tsL ps)[i]? = some z → HF.ht z.2 ≤ HF.htL ps ∧ HF.nd z.2 ≤ HF.ndL ps
  | .nil, i, z, e => by simp [tsL] at e
  | .cons m t r, 0, z, e => by
    simp [tsL] at e
    subst e
    exact ⟨Nat.le_max_left _ _, Nat.le_add_right _ _⟩
  | .cons m t r, i + 1, z, e => by
    obtain ⟨h2, h3⟩ := htL_get (i := i) (by simpa [tsL] using e)
    exact ⟨Nat.le_trans h2 (Nat.le_max_right _ _), Nat.le_trans h3 (Nat.le_add_left _ _)⟩
theorem ht_sign {u : Str} {ps : HF.Ts Str} : HF.ht (HF.T.sign u ps) = 1 + HF.htL ps := rfl
theorem nd_sign {u : Str} {ps : HF.Ts Str} : HF.nd (HF.T.sign u ps) = 1 + HF.ndL ps := rfl
theorem nd_hole {u : Str} {ns : List Nat} : HF.nd (HF.T.hole u ns) = 1 + ns.length := rfl
theorem tsL_renL (ρ : Nat → Nat) (c : Nat) : ∀ ps : HF.Ts Str, tsL (HF.renL ρ c ps) = (tsL ps).map fun z => (z.1, HF.ren ρ (c + z.1) z.2)
  | .nil => rfl
  | .cons m t r => by simp only [HF.renL, tsL, List.map_cons, tsL_renL ρ c r]
theorem At.name {H : Hp} {k : Nat} {v : V} : At H (.name k) v ↔ ∃ a, v = .ref a ∧ H a = some (.tup [.str "name", .int (k : Int)]) := Iff.rfl
section
variable {P : Program} {w : World} {K : PySem.W.Frag} {mg : Str → Option Value} {base : Heap}
def spOut (T : List NTab) (n : Nat) : Sp := fun vs H Q _ => ∃ (t : Tm) (v : V) (c : Nat), vs = [v, .int (c : Int)] ∧ At H t v ∧ TabsN T H ∧ HF.nd t ≤ 4000000 ∧ HF.ht t ≤ n ∧
  ∀ p H' xs, Gr T [] H H' → H p = Option.none → H' p = some (.lst (nints xs)) → (∀ x ∈ xs, HF.fr x c t) → xs.length ≤ HF.nd t → Q (.ref p) H'
theorem sc_outer_names : FnScope ["term", "inner", "found", "many", "part", "one"] ["term", "inner"] (defScope s_outer_names) := ⟨rfl, rfl, rfl, by decide +kernel, rfl, by decide +kernel, by decide +kernel⟩
theorem ok_out1 (S : Cn K mg base) (T : List NTab) (n : Nat) (ih : Has P w K mg base "outer_names" n ["term", "inner"] [] (spOut T n)) :
    Has P w K mg base "outer_names" (n + 1) ["term", "inner"] [] (spOut T (n + 1)) := by
  refine has_of (d := d_outer_names) S 11 11 rfl rfl rfl rfl rfl sc_outer_names (fun vs H Q E h => ?_) (fun _ _ _ _ _ _ us hl => match us, hl with | [_, _], _ => rfl) (fun f cdv A outer s H vs Q E hr h => ?_)
  · obtain ⟨t, v, c, rfl, _⟩ := h
    rfl
  refine ⟨_, (pss_cons (ps_if (ptEq (ixT (pv 0))) (pss_cons (ps_if (pt_cmpR op_lt (ixT (pv 0)) (pv 1) (nomark _)) (pss_one (ps_ret (pe_lst pa_nil))) pss_nil) (pss_one (ps_ret (pe_lst (pa_cons (pe_op op_sub (ixT (pv 0)) (pv 1)) pa_nil))))) pss_nil) (pss_cons (ps_set (i := 2) sc_outer_names.nd rfl (Or.inl rfl) (pe_lst pa_nil)) (pss_cons (ps_if (ptEq (ixT (pv 0))) (pss_one (ps_for PassesOwn.never rfl (pi_tup (ixT (pv 0))) (pg_tup rfl (pgs_cons (pg_name (i := 3) sc_outer_names.nd rfl (Or.inl rfl)) (pgs_cons (pg_name (i := 4) sc_outer_names.nd rfl (Or.inl rfl)) pgs_nil))) (pss_one (ps_expr (pe_bm PySem.F.plainAttrs_list PySem.F.slot_list_extend PySem.F.type_list_extend mt_extend (pv 2) (pa_cons (pe_hs ih hr (by omega) rfl (pa_cons (pv 4) (pa_cons (pe_op op_add (pv 1) (pv 3)) pa_nil))) pa_nil)))))) (pss_one (ps_for PassesOwn.never rfl (pi_tup (ixT (pv 0))) (pg_name (i := 5) sc_outer_names.nd rfl (Or.inl rfl)) (pss_one (ps_expr (pe_bm PySem.F.plainAttrs_list PySem.F.slot_list_extend PySem.F.type_list_extend mt_extend (pv 2) (pa_cons (pe_hs ih hr (by omega) rfl (pa_cons (pv 5) (pa_cons (pv 1) pa_nil))) pa_nil))))))) (pss_one (ps_ret (pv 2)))))), ?_⟩
  obtain ⟨t, v, c, rfl, ht, hT, hsz, hn, q⟩ := h
  cases t with
  | name k =>
    obtain ⟨a, rfl, h1⟩ := ht
    refine ⟨_, rfl, a, _, 0, _, rfl, rfl, SqT.of h1, rfl, rfl, _, rfl, ift eRf ?_⟩
    refine ⟨_, rfl, a, _, 1, _, rfl, rfl, SqT.of h1, rfl, _, rfl, _, _, rfl, rfl, _, rfl, ite2 (fun hc => ?_) (fun hc => ?_)⟩
    · exact ⟨szl (by decide), fun l hl => q l _ [] (Gr.new0 hT hl) hl upd_same (fun x hx => by cases hx) (Nat.zero_le _)⟩
    · have hc' : ¬ (k : Int) < (c : Int) := of_decide_eq_false (Bool.eq_false_iff.mpr hc)
      refine ⟨_, rfl, a, _, 1, _, rfl, rfl, SqT.of h1, rfl, _, rfl, _, _, rfl, rfl, szl (by show 1 ≤ 10000000; decide), fun l hl => ?_⟩
      refine q l _ [k - c] (Gr.new0 hT hl) hl ?_ (fun x hx => ?_) (Nat.le_refl 1)
      · rw [upd_same]
        have e : ((k : Int) - (c : Int)) = ((k - c : Nat) : Int) := by omega
        show some (HO.lst [V.int ((k : Int) - (c : Int))]) = _
        rw [e] <;> rfl
      · simp at hx
        show k = x + c
        omega
  | sign u ps =>
    obtain ⟨a, b, vs, rfl, h1, h2, h3⟩ := ht
    have h4 := atL_ps.mp h3
    refine ⟨_, rfl, a, _, 0, _, rfl, rfl, SqT.of h1, rfl, rfl, _, rfl, iff' eSN ?_⟩
    refine ⟨szl (by decide), fun l hl => ?_⟩
    have g0 := Gr.new0 (X := []) (o := .lst []) hT hl
    refine ⟨_, rfl, a, _, 0, _, rfl, rfl, SqT.of (g0.tup _ _ h1), rfl, rfl, _, rfl, ift eRf ?_⟩
    refine ⟨_, rfl, a, _, 2, _, rfl, rfl, SqT.of (g0.tup _ _ h1), rfl, b, rfl, ⟨_, SqT.of (g0.tup _ _ h2)⟩, ?_⟩
    refine for_tup (K := K) (a := b) (xs := vs) (fun i σ H' => ∃ o1 o2 o3 xs, σ = [some (.ref a), some (.int (c : Int)), some (.ref l), o1, o2, o3] ∧ Gr T [] H H' ∧ H' l = some (.lst (nints xs)) ∧ (∀ x ∈ xs, HF.frL x c ps) ∧ xs.length ≤ ndP ((tsL ps).take i))
      ⟨_, _, _, [], rfl, g0, upd_same, (fun x hx => by cases hx), Nat.zero_le _⟩ (fun i σ H' _ ⟨_, _, _, _, _, g, _⟩ => SqT.of (g.tup _ _ h2)) ?_ ?_
    · rintro i x σ H' hx ⟨o1, o2, o3, xs, rfl, g, hl2, hm, hlen⟩
      obtain ⟨z, e, p⟩ := h4.get hx
      obtain ⟨d, tv, rfl, p1, p2⟩ := p.mono g
      obtain ⟨hh, hnd⟩ := htL_get e
      refine ⟨d, _, rfl, SqT.of p1, rfl, _, _, rfl, _, _, rfl, rfl, ?_⟩
      refine ⟨_, rfl, .inl ⟨rfl, _, SqL.of hl2⟩, ?_⟩
      refine ⟨_, rfl, _, rfl, _, rfl, _, _, rfl, rfl, z.2, tv, c + z.1, rfl, p2, g.tab, ?_, ?_, fun p H2 ys g2 hp hy hf hyl => ?_⟩
      · rw [nd_sign] at hsz; omega
      · rw [ht_sign] at hn; omega
      have hb : ndP ((tsL ps).take (i + 1)) = ndP ((tsL ps).take i) + HF.nd z.2 := by rw [take_snoc e, ndP_snoc]
      have hb2 := ndP_take (i + 1) (tsL ps)
      rw [ndP_tsL] at hb2
      rw [nd_sign] at hsz
      refine ⟨l, p, _, _, rfl, rfl, g2.lst hl2, hy, szl (by rw [nints_len, nints_len]; omega), ?_⟩
      refine ⟨_, _, _, xs ++ ys, rfl, (g.trans g2).mutL (.inl hl) (g2.lst hl2), ?_, fun x hx => ?_, ?_⟩
      · rw [upd_same]
        unfold nints
        rw [List.map_append]
      · rcases List.mem_append.mp hx with hx | hx
        · exact hm x hx
        · exact frL_mem.mpr ⟨z, List.mem_of_getElem? e, hf x hx⟩
      · rw [hb, List.length_append]; omega
    · rintro σ H' ⟨o1, o2, o3, xs, rfl, g, hl2, hm, hlen⟩
      refine ⟨_, rfl, ?_⟩
      refine q l H' xs g hl hl2 hm ?_
      have := ndP_take vs.length (tsL ps)
      rw [ndP_tsL] at this
      rw [nd_sign]; omega
  | hole u ns =>
    obtain ⟨a, b, vs, rfl, h1, h2, h3⟩ := ht
    have hvl := h3.len
    refine ⟨_, rfl, a, _, 0, _, rfl, rfl, SqT.of h1, rfl, rfl, _, rfl, iff' eHN ?_⟩
    refine ⟨szl (by decide), fun l hl => ?_⟩
    have g0 := Gr.new0 (X := []) (o := .lst []) hT hl
    refine ⟨_, rfl, a, _, 0, _, rfl, rfl, SqT.of (g0.tup _ _ h1), rfl, rfl, _, rfl, iff' eHS ?_⟩
    refine ⟨_, rfl, a, _, 2, _, rfl, rfl, SqT.of (g0.tup _ _ h1), rfl, b, rfl, ⟨_, SqT.of (g0.tup _ _ h2)⟩, ?_⟩
    refine for_tup (K := K) (a := b) (xs := vs) (fun i σ H' => ∃ o1 o2 o3 xs, σ = [some (.ref a), some (.int (c : Int)), some (.ref l), o1, o2, o3] ∧ Gr T [] H H' ∧ H' l = some (.lst (nints xs)) ∧ (∀ x ∈ xs, x + c ∈ ns) ∧ xs.length ≤ i)
      ⟨_, _, _, [], rfl, g0, upd_same, (fun x hx => by cases hx), Nat.zero_le _⟩ (fun i σ H' _ ⟨_, _, _, _, _, g, _⟩ => SqT.of (g.tup _ _ h2)) ?_ ?_
    · rintro i x σ H' hx ⟨o1, o2, o3, xs, rfl, g, hl2, hm, hlen⟩
      obtain ⟨k, e, p⟩ := h3.get hx
      have hi := (List.getElem?_eq_some_iff.mp hx).1
      refine ⟨_, rfl, .inl ⟨rfl, _, SqL.of hl2⟩, ?_⟩
      refine ⟨_, rfl, _, rfl, .name k, x, c, rfl, p.mono g, g.tab, (by show 1 ≤ 4000000; decide), (by show 1 ≤ n; have h9 : HF.ht (HF.T.hole u ns) = 2 := rfl; omega), fun p H2 ys g2 hp hy hf hyl => ?_⟩
      have hyl : ys.length ≤ 1 := hyl
      rw [nd_hole] at hsz
      refine ⟨l, p, _, _, rfl, rfl, g2.lst hl2, hy, szl (by rw [nints_len, nints_len]; omega), ?_⟩
      refine ⟨_, _, _, xs ++ ys, rfl, (g.trans g2).mutL (.inl hl) (g2.lst hl2), ?_, fun x hx => ?_, ?_⟩
      · rw [upd_same]
        unfold nints
        rw [List.map_append]
      · rcases List.mem_append.mp hx with hx | hx
        · exact hm x hx
        · have h8 : k = x + c := hf x hx
          rw [← h8]
          exact List.mem_of_getElem? e
      · rw [List.length_append]; omega
    · rintro σ H' ⟨o1, o2, o3, xs, rfl, g, hl2, hm, hlen⟩
      refine ⟨_, rfl, ?_⟩
      exact q l H' xs g hl hl2 hm (by rw [nd_hole]; omega)
theorem ok_out (S : Cn K mg base) (T : List NTab) : ∀ n, Has P w K mg base "outer_names" n ["term", "inner"] [] (spOut T n)
  | 0 => by
    exact has_zero (d := d_outer_names) S 11 11 rfl rfl rfl rfl rfl (fun _ _ _ _ _ _ us hl => match us, hl with | [_, _], _ => rfl) (fun vs H Q E h => by
      obtain ⟨t, v, c, _, _, _, _, hn, _⟩ := h
      have := HF.ht_pos t
      omega)
  | n + 1 => ok_out1 S T n (ok_out S T n)
/-! counted_anew -/
theorem clo_int {ns : List Nat} {sc x : Nat} : True := trivial
def spAnew (T : List NTab) (n : Nat) : Sp := fun vs H Q _ => ∃ (t : Tm) (v : V) (d : Addr) (kvs : List (Key × V)) (bd : Int) (c : Nat) (ns : List Nat) (sc : Nat), vs = [v, .ref d, .int bd, .int (c : Int)] ∧ At H t v ∧ TabsN T H ∧ HF.nd t ≤ 4000000 ∧ HF.ht t ≤ n ∧
  H d = some (.dK kvs) ∧ (∀ x ∈ ns, valV kvs (.inl (x : Int)) = some (.int (HF.clo ns sc x : Nat))) ∧ (∀ x, HF.fr x c t → x ∈ ns) ∧ ∀ v' H', Gr T [] H H' → At H' (HF.ren (HF.clo ns sc) c t) v' → Q v' H'
theorem sc_counted_anew : FnScope ["term", "numbers", "beyond", "inner", "number", "parts", "many", "part", "one"] ["term", "numbers", "beyond", "inner"] (defScope s_counted_anew) := ⟨rfl, rfl, rfl, by decide +kernel, rfl, by decide +kernel, by decide +kernel⟩
theorem ok_anew1 (S : Cn K mg base) (T : List NTab) (n : Nat) (ih : Has P w K mg base "counted_anew" n ["term", "numbers", "beyond", "inner"] [] (spAnew T n)) :
    Has P w K mg base "counted_anew" (n + 1) ["term", "numbers", "beyond", "inner"] [] (spAnew T (n + 1)) := by
  refine has_of (d := d_counted_anew) S 12 12 rfl rfl rfl rfl rfl sc_counted_anew (fun vs H Q E h => ?_) (fun _ _ _ _ _ _ us hl => match us, hl with | [_, _, _, _], _ => rfl) (fun f cdv A outer s H vs Q E hr h => ?_)
  · obtain ⟨t, v, d, kvs, bd, c, ns, sc, rfl, _⟩ := h
    rfl
  refine ⟨_, (pss_cons (ps_if (ptEq (ixT (pv 0))) (pss_cons (ps_set (i := 4) sc_counted_anew.nd rfl (Or.inl rfl) (pe_op op_sub (ixT (pv 0)) (pv 3))) (pss_cons (ps_if (pt_cmpR op_lt (pv 4) pe_int (nomark _)) (pss_one (ps_ret (pv 0))) pss_nil) (pss_one (ps_ret (pe_tup (pa_cons pe_str (pa_cons (pe_op op_add (pe_dget2 (hu_of hr) (pv 1) (pv 4) (pe_op op_add (pv 4) (pv 2)) ⟨rfl, rfl, rfl, rfl⟩) (pv 3)) pa_nil))))))) pss_nil) (pss_cons (ps_if (ptEq (ixT (pv 0))) (pss_cons (ps_setLc (i := 5) (own := [("many", 6), ("part", 7)]) (g := (gTup K 2 (gCons (gName 6) (gCons (gName 7) gNil)))) (by rfl) sc_counted_anew.nd rfl rfl (sw_true rfl rfl rfl (by decide +kernel)) (pi_tup (ixT (pv 0))) (blkOk_by (N := ["term", "numbers", "beyond", "inner", "number", "parts", "many", "part", "one"]) (sc := defScope s_counted_anew) (by decide +kernel)) (fun _ _ _ _ _ => (pg_tup rfl (pgs_cons (pg_name (i := 6) sc_counted_anew.nd rfl (Or.inl rfl)) (pgs_cons (pg_name (i := 7) sc_counted_anew.nd rfl (Or.inl rfl)) pgs_nil)))) (fun _ _ _ _ _ => pts_nil) (fun _ _ _ _ _ => (pe_tup (pa_cons (pv 6) (pa_cons (pe_hs ih hr (by omega) rfl (pa_cons (pv 7) (pa_cons (pv 1) (pa_cons (pv 2) (pa_cons (pe_op op_add (pv 3) (pv 6)) pa_nil))))) pa_nil))))) (pss_one (ps_ret (pe_tup (pa_cons pe_str (pa_cons (ixT (pv 0)) (pa_cons (pe_callTy call_tuple_of (by rfl) (S.free 61) (by decide +kernel) (pa_cons (pv 5) pa_nil)) pa_nil))))))) pss_nil) (pss_one (ps_ret (pe_tup (pa_cons pe_str (pa_cons (ixT (pv 0)) (pa_cons (pe_callTy call_tuple_of (by rfl) (S.free 61) (by decide +kernel) (pa_cons (pe_lc (own := [("one", 8)]) (g := (gName 8)) (by rfl) sc_counted_anew.nd (pi_tup (ixT (pv 0))) (blkOk_by (N := ["term", "numbers", "beyond", "inner", "number", "parts", "many", "part", "one"]) (sc := defScope s_counted_anew) (by decide +kernel)) (fun _ _ _ _ _ => (pg_name (i := 8) sc_counted_anew.nd rfl (Or.inl rfl))) (fun _ _ _ _ _ => pts_nil) (fun _ _ _ _ _ => (pe_hs ih hr (by omega) rfl (pa_cons (pv 8) (pa_cons (pv 1) (pa_cons (pv 2) (pa_cons (pv 3) pa_nil))))))) pa_nil)) pa_nil)))))))), ?_⟩
  obtain ⟨t, v, d, kvs, bd, c, ns, sc, rfl, ht, hT, hsz, hn, hd, hk, hf, q⟩ := h
  cases t with
  | name k =>
    obtain ⟨a, rfl, h1⟩ := ht
    refine ⟨_, rfl, a, _, 0, _, rfl, rfl, SqT.of h1, rfl, rfl, _, rfl, ift eRf ?_⟩
    refine ⟨_, rfl, a, _, 1, _, rfl, rfl, SqT.of h1, rfl, _, rfl, _, _, rfl, rfl, ?_⟩
    refine ⟨_, rfl, _, _, rfl, rfl, _, rfl, ite2 (fun hc => ?_) (fun hc => ?_)⟩
    · have hc' : (k : Int) - (c : Int) < 0 := of_decide_eq_true hc
      refine ⟨_, rfl, ?_⟩
      refine q _ H (Gr.refl hT) ?_
      have : HF.lift (HF.clo ns sc) c k = k := by unfold HF.lift; rw [if_pos (by omega)]
      show At H (.name (HF.lift (HF.clo ns sc) c k)) _
      rw [this]
      exact ⟨a, rfl, h1⟩
    · have hc' : ¬ (k : Int) - (c : Int) < 0 := of_decide_eq_false (Bool.eq_false_iff.mpr hc)
      have hx : k - c ∈ ns := hf (k - c) (by show k = k - c + c; omega)
      have e : ((k : Int) - (c : Int)) = ((k - c : Nat) : Int) := by omega
      refine ⟨_, rfl, d, rfl, .inl ⟨_, .inl hd⟩, _, rfl, _, rfl, _, rfl, _, _, rfl, rfl, _, DGet.k (k := Sum.inl ((k : Int) - (c : Int))) hd, ?_⟩
      rw [e, hk _ hx]
      refine ⟨_, rfl, _, _, rfl, rfl, szl (by show 2 ≤ 10000000; decide), fun p hp => ?_⟩
      refine q _ _ (Gr.new0 hT hp) ?_
      have : HF.lift (HF.clo ns sc) c k = HF.clo ns sc (k - c) + c := by unfold HF.lift; rw [if_neg (by omega)]
      show At _ (.name (HF.lift (HF.clo ns sc) c k)) _
      rw [this]
      exact ⟨p, rfl, upd_same⟩
  | sign u ps =>
    obtain ⟨a, b, vs, rfl, h1, h2, h3⟩ := ht
    have h4 := atL_ps.mp h3
    have h5 := h4.len
    have h6 := tsL_len ps
    rw [nd_sign] at hsz
    rw [ht_sign] at hn
    refine ⟨_, rfl, a, _, 0, _, rfl, rfl, SqT.of h1, rfl, rfl, _, rfl, iff' eSN ?_⟩
    refine ⟨_, rfl, a, _, 0, _, rfl, rfl, SqT.of h1, rfl, rfl, _, rfl, ift eRf ?_⟩
    refine ⟨_, rfl, a, _, 2, _, rfl, rfl, SqT.of h1, rfl, b, rfl, ⟨_, SqT.of h2⟩, fun D hD => ?_⟩
    refine lc_mapT (T := T) (K := K) (a := b) (xs := vs) (fun H i y => ∃ z, (tsL ps)[i]? = some z ∧ AtP H (z.1, HF.ren (HF.clo ns sc) (c + z.1) z.2) y) hT hD (SqT.of h2) (szl (by omega)) (fun H H' i y g ⟨z, e, p⟩ => ⟨z, e, p.mono g⟩)
      (fun H i y acc e ⟨z, e2, p⟩ l => ⟨z, e2, p.upd e⟩) (fun i x H' Q' Pz hx g hq => ?_) fun H' ys g hy hlen hr' => ?_
    · obtain ⟨z, e, p⟩ := h4.get hx
      obtain ⟨cc, tv, rfl, p1, p2⟩ := p.mono g
      obtain ⟨hh, hnd⟩ := htL_get e
      refine ⟨cc, _, rfl, SqT.of p1, rfl, _, _, rfl, _, _, rfl, rfl, rfl, yesT ?_⟩
      refine ⟨_, rfl, _, rfl, _, rfl, _, rfl, _, rfl, _, rfl, _, _, rfl, rfl, z.2, tv, d, kvs, bd, c + z.1, ns, sc, rfl, p2, g.tab, by omega, by omega, g.dK hd, hk, fun x hx => hf x (frL_mem.mpr ⟨z, List.mem_of_getElem? e, hx⟩), fun v' H2 g2 at2 => ?_⟩
      refine ⟨szl (by show 2 ≤ 10000000; decide), fun p hp => ?_⟩
      have g3 := Gr.new (X := []) (o := .tup [.int (z.1 : Int), v']) g2 hp
      exact hq _ _ g3 ⟨z, e, p, v', rfl, upd_same, at2.mono (Gr.new0 (X := []) g2.tab hp)⟩
    · refine ⟨_, rfl, a, _, 1, _, rfl, rfl, SqT.of (g.tup _ _ h1), rfl, _, rfl, D, ys, rfl, .inl ⟨SqL.of hy, fun l hl => ?_⟩⟩
      have g2 := Gr.new (X := []) (o := .tup ys) g hl
      refine ⟨szl (by show 3 ≤ 10000000; decide), fun p hp => ?_⟩
      have g3 := Gr.new (X := []) (o := .tup [.str "sign", .str u, .ref l]) g2 hp
      refine q _ _ g3 ⟨p, l, ys, rfl, upd_same, ?_, ?_⟩
      · rw [upd_ne (ne_of_none upd_same hp)]; exact upd_same
      · refine atL_ps.mpr ((AtPs.of (by rw [hlen, h5, tsL_renL, List.length_map]) fun j y ej => ?_).mono ((Gr.new0 (X := []) (o := .tup ys) g.tab hl).new hp))
        obtain ⟨z, e1, p1⟩ := hr' j y ej
        exact ⟨_, by rw [tsL_renL, List.getElem?_map, e1] <;> rfl, p1⟩
  | hole u ms =>
    obtain ⟨a, b, vs, rfl, h1, h2, h3⟩ := ht
    have h5 := h3.len
    rw [nd_hole] at hsz
    refine ⟨_, rfl, a, _, 0, _, rfl, rfl, SqT.of h1, rfl, rfl, _, rfl, iff' eHN ?_⟩
    refine ⟨_, rfl, a, _, 0, _, rfl, rfl, SqT.of h1, rfl, rfl, _, rfl, iff' eHS ?_⟩
    refine ⟨_, rfl, a, _, 1, _, rfl, rfl, SqT.of h1, rfl, _, rfl, a, _, 2, _, rfl, rfl, SqT.of h1, rfl, b, rfl, ⟨_, SqT.of h2⟩, fun D hD => ?_⟩
    refine lc_mapT (T := T) (K := K) (a := b) (xs := vs) (fun H i y => ∃ k, ms[i]? = some k ∧ At H (.name (HF.lift (HF.clo ns sc) c k)) y) hT hD (SqT.of h2) (szl (by omega)) (fun H H' i y g ⟨z, e, p⟩ => ⟨z, e, p.mono g⟩)
      (fun H i y acc e ⟨z, e2, p⟩ l => ⟨z, e2, p.upd e⟩) (fun i x H' Q' Pz hx g hq => ?_) fun H' ys g hy hlen hr' => ?_
    · obtain ⟨k, e, p⟩ := h3.get hx
      refine ⟨rfl, yesT ?_⟩
      refine ⟨_, rfl, _, rfl, _, rfl, _, rfl, .name k, x, d, kvs, bd, c, ns, sc, rfl, p.mono g, g.tab, (by show 1 ≤ 4000000; decide), (by show 1 ≤ n; have h9 : HF.ht (HF.T.hole u ms) = 2 := rfl; omega), g.dK hd, hk, fun y hy => hf y ?_, fun v' H2 g2 at2 => hq _ _ g2 ⟨k, e, at2⟩⟩
      have hy : k = y + c := hy
      show y + c ∈ ms
      rw [← hy]; exact List.mem_of_getElem? e
    · refine ⟨D, ys, rfl, .inl ⟨SqL.of hy, fun l hl => ?_⟩⟩
      have g2 := Gr.new (X := []) (o := .tup ys) g hl
      refine ⟨szl (by show 3 ≤ 10000000; decide), fun p hp => ?_⟩
      have g3 := Gr.new (X := []) (o := .tup [.str "hole", .str u, .ref l]) g2 hp
      refine q _ _ g3 ⟨p, l, ys, rfl, upd_same, ?_, ?_⟩
      · rw [upd_ne (ne_of_none upd_same hp)]; exact upd_same
      · refine (AtN.of (by rw [hlen, h5, List.length_map]) fun j y ej => ?_).mono ((Gr.new0 (X := []) (o := .tup ys) g.tab hl).new hp)
        obtain ⟨k, e1, p1⟩ := hr' j y ej
        exact ⟨_, by rw [List.getElem?_map, e1] <;> rfl, p1⟩
theorem ok_anew (S : Cn K mg base) (T : List NTab) : ∀ n, Has P w K mg base "counted_anew" n ["term", "numbers", "beyond", "inner"] [] (spAnew T n)
  | 0 => by
    exact has_zero (d := d_counted_anew) S 12 12 rfl rfl rfl rfl rfl (fun _ _ _ _ _ _ us hl => match us, hl with | [_, _, _, _], _ => rfl) (fun vs H Q E h => by
      obtain ⟨t, v, d, kvs, bd, c, ns, sc, _, _, _, _, hn, _⟩ := h
      have := HF.ht_pos t
      omega)
  | n + 1 => ok_anew1 S T n (ok_anew S T n)
/-! closed_over -/
def spClosed (T : List NTab) (n : Nat) : Sp := fun vs H Q _ => ∃ (t : Tm) (v : V) (l : Addr) (ns : List Nat) (sc : Nat), vs = [v, .ref l, .int (sc : Int)] ∧ At H t v ∧ TabsN T H ∧ HF.nd t ≤ 4000000 ∧ HF.ht t ≤ n ∧
  H l = some (.lst (nints ns)) ∧ ns.Nodup ∧ ns.length ≤ 4000000 ∧ (∀ x, HF.fr x 0 t → x ∈ ns) ∧ ∀ v' H', Gr T [] H H' → At H' (HF.ren (HF.clo ns sc) 0 t) v' → Q v' H'
theorem sc_closed_over : FnScope ["term", "names", "bound", "number", "many", "numbers", "k"] ["term", "names", "bound"] (defScope s_closed_over) := ⟨rfl, rfl, rfl, by decide +kernel, rfl, by decide +kernel, by decide +kernel⟩
theorem ok_closed (S : Cn K mg base) (T : List NTab) (n : Nat) (hO : Has P w K mg base "outer_names" n ["term", "inner"] [] (spOut T n)) (hC : Has P w K mg base "counted_anew" n ["term", "numbers", "beyond", "inner"] [] (spAnew T n)) :
    Has P w K mg base "closed_over" (n + 1) ["term", "names", "bound"] [] (spClosed T n) := by
  refine has_of (d := d_closed_over) S 13 13 rfl rfl rfl rfl rfl sc_closed_over (fun vs H Q E h => ?_) (fun _ _ _ _ _ _ us hl => match us, hl with | [_, _, _], _ => rfl) (fun f cdv A outer s H vs Q E hr h => ?_)
  · obtain ⟨t, v, l, ns, sc, rfl, _⟩ := h
    rfl
  refine ⟨_, (pss_cons (ps_for PassesOwn.never rfl (pi_list (pe_hs hO hr (by omega) rfl (pa_cons (pv 0) (pa_cons pe_int pa_nil)))) (pg_name (i := 3) sc_closed_over.nd rfl (Or.inl rfl)) (pss_one (ps_if (PW.pt (pw_and (pt_cmpR op_lt (pv 3) (pv 2) (nomark _)) (pw_and1 (pt_cmpR op_notIn_seq (pv 3) (pv 1) (by rfl))))) (pss_one (ps_ret pe_non)) pss_nil))) (pss_cons (ps_set (i := 4) sc_closed_over.nd rfl (Or.inl rfl) (pe_callB call_len_seq (by rfl) (S.free 58) (by decide +kernel) (pa_cons (pv 1) pa_nil))) (pss_cons (ps_set (i := 5) sc_closed_over.nd rfl (Or.inl rfl) pe_dnewK) (pss_cons (ps_for PassesOwn.never rfl (pi_enum (by rfl) (S.free 63) (pa_cons (pv 1) pa_nil)) (pg_tup rfl (pgs_cons (pg_name (i := 6) sc_closed_over.nd rfl (Or.inl rfl)) (pgs_cons (pg_name (i := 3) sc_closed_over.nd rfl (Or.inl rfl)) pgs_nil))) (pss_one (ps_dput (hu_of hr) (pv 5) (pv 3) (pe_op op_sub (pe_op op_sub (pv 4) pe_int) (pv 6)) rfl))) (pss_one (ps_ret (pe_hs hC hr (by omega) rfl (pa_cons (pv 0) (pa_cons (pv 5) (pa_cons (pe_op op_sub (pv 4) (pv 2)) (pa_cons pe_int pa_nil))))))))))), ?_⟩
  obtain ⟨t, v, l, ns, sc, rfl, ht, hT, hsz, hn, hl, hnd, hlen, hf, q⟩ := h
  refine ⟨_, rfl, t, v, 0, rfl, ht, hT, hsz, hn, fun p H1 xs g1 hp hp1 hm hxl => ?_⟩
  refine ⟨p, rfl, ⟨_, SqL.of hp1⟩, ?_⟩
  refine for_list (K := K) (a := p) (xs := nints xs) (fun i σ H' => H' = H1 ∧ ∃ o1, σ = [some v, some (.ref l), some (.int (sc : Int)), o1, none, none, none]) ⟨rfl, _, rfl⟩ (fun i σ H' _ ⟨e, _⟩ => by rw [e]; exact SqL.of hp1) ?_ ?_
  · rintro i x σ H' hx ⟨rfl, o1, rfl⟩
    obtain ⟨k, ek, rfl⟩ : ∃ k, xs[i]? = some k ∧ V.int (k : Int) = x := by
      unfold nints at hx
      rw [List.getElem?_map] at hx
      cases e : xs[i]? with
      | none => rw [e] at hx; cases hx
      | some k => rw [e] at hx; exact ⟨k, rfl, Option.some.inj hx⟩
    have kin : k ∈ ns := hf k (hm k (List.mem_of_getElem? ek))
    have no : decide (k ∈ ns) = true := decide_eq_true kin
    refine ⟨_, rfl, _, rfl, _, _, rfl, rfl, _, rfl, ite2 (fun hc => ?_) (fun hc => ?_)⟩
    · refine ⟨_, rfl, _, rfl, l, _, rfl, .inl (SqL.of (g1.lst hl)), rfl, flat_nints, _, rfl, iff' ?_ ?_⟩
      · show (!inV (.int (k : Int)) (nints ns)) = false
        rw [inV_nat, no] <;> rfl
      · exact ⟨rfl, _, rfl⟩
    · exact iteF ⟨rfl, _, rfl⟩
  · rintro σ H' ⟨rfl, o1, rfl⟩
    refine ⟨_, rfl, l, _, rfl, .inl (SqL.of (g1.lst hl)), ?_⟩
    refine fun d hd => ?_
    have g2 := Gr.new (X := []) (o := .dK []) g1 hd
    have hl2 := g2.lst hl
    refine ⟨_, rfl, l, _, rfl, SqL.of hl2, ?_⟩
    refine for_it (walk_enum (K := K) (a := l) (xs := nints ns)) (fun i σ H' => ∃ o1 o2 kvs, σ = [some v, some (.ref l), some (.int (sc : Int)), o1, some (.int (nints ns).length), some (.ref d), o2] ∧ Gr T [] H H' ∧ H' d = some (.dK kvs) ∧ kvs.length ≤ i ∧
      ∀ x ∈ ns.take i, valV kvs (.inl (x : Int)) = some (.int (HF.clo ns sc x : Nat))) ⟨_, _, [], rfl, g2, upd_same, Nat.zero_le _, fun x hx => by simp at hx⟩ (fun i σ H' _ ⟨_, _, _, _, g, _⟩ => SqL.of (g.lst hl)) ?_ ?_
    · rintro i x σ H' H2 hi ⟨o1, o2, kvs, rfl, g, hd2, hkl, hk⟩ ⟨p', x1, x2, rfl, hp', rfl, e1, e2⟩
      obtain rfl : V.int (i : Nat) = x1 := Option.some.inj e1
      have e2 : (nints ns)[i]? = some x2 := e2
      obtain ⟨k, ek, rfl⟩ : ∃ k, ns[i]? = some k ∧ V.int (k : Int) = x2 := by
        unfold nints at e2
        rw [List.getElem?_map] at e2
        cases e : ns[i]? with
        | none => rw [e] at e2; cases e2
        | some k => rw [e] at e2; exact ⟨k, rfl, Option.some.inj e2⟩
      have g3 := Gr.new (X := []) (o := .tup [.int (i : Nat), .int (k : Int)]) g hp'
      have hd3 : (upd H' p' (.tup [.int (i : Nat), .int (k : Int)])) d = some (.dK kvs) := by rw [upd_ne (ne_of_none hd2 hp')]; exact hd2
      refine ⟨p', _, rfl, SqT.of upd_same, rfl, _, _, rfl, _, _, rfl, rfl, ?_⟩
      refine ⟨_, rfl, _, _, rfl, rfl, _, rfl, _, _, rfl, rfl, _, rfl, _, rfl, d, _, rfl, DPut.k (k := Sum.inl (k : Int)) hd3 (szl' (by rw [nints_len] at hi; omega)), ?_⟩
      refine ⟨_, _, _, rfl, g3.mutD (.inl (g1.back _ hd)) hd3, upd_same, Nat.le_trans (length_putK _ _ _) (by omega), fun x hx => ?_⟩
      rw [valV_put]
      rw [take_snoc ek] at hx
      have ei : ns.idxOf k = i := by
        obtain ⟨h7, h8⟩ := List.getElem?_eq_some_iff.mp ek
        rw [← h8]; exact List.Nodup.idxOf_getElem hnd i h7
      have kin : k ∈ ns := List.mem_of_getElem? ek
      by_cases hxk : x = k
      · subst hxk
        rw [if_pos rfl]
        have : HF.clo ns sc x = ns.length - 1 - i := by unfold HF.clo; rw [if_pos kin, ei]
        rw [this, nints_len]
        rw [nints_len] at hi
        exact congrArg (fun z => some (V.int z)) (by omega)
      · have hne : ¬ (Sum.inl (x : Int) : Key) = Sum.inl (k : Int) := fun z => hxk (by have := Sum.inl.inj z; omega)
        rw [if_neg hne]
        rcases List.mem_append.mp hx with hx | hx
        · exact hk x hx
        · simp at hx; exact absurd hx hxk
    · rintro σ H' ⟨o1, o2, kvs, rfl, g, hd2, hkl, hk⟩
      refine ⟨_, rfl, _, rfl, _, rfl, _, rfl, _, _, rfl, rfl, t, v, d, kvs, _, 0, ns, sc, rfl, ht.mono g, g.tab, hsz, hn, hd2, fun x hx => hk x (by rw [nints_len, List.take_length]; exact hx), fun x hx => hf x hx, fun v' H3 g3 at3 => ?_⟩
      exact q v' H3 (g.trans g3) at3
end

end HW
end
section
set_option Elab.async false
set_option linter.all false
set_option maxRecDepth 100000
set_option maxHeartbeats 4000000
namespace HW
open PySem PySem.Spec PyProof.Rows L2 NdefX LamX
/-! ### == of terms -/
def rEqB (K : PySem.W.Frag) (D : Nat) : R2 := fun x y H Q => ∃ d e, Dp K H x d ∧ Dp K H y e ∧ d.canLay0 = true ∧ e.canLay0 = true ∧ d.depth ≤ D ∧ Q (.bl (PyData.eqv d e)) H
def rNeB (K : PySem.W.Frag) (D : Nat) : R2 := fun x y H Q => ∃ d e, Dp K H x d ∧ Dp K H y e ∧ d.canLay0 = true ∧ e.canLay0 = true ∧ d.depth ≤ D ∧ Q (.bl (!PyData.eqv d e)) H
section
variable {X : Cx}
theorem op_eqB {D : Nat} (hu : X.A.units + D < cLine) : OpR X (compareOp .Eq) (rEqB X.K D) := by
  intro pins sh σ H x y v u Q I rx ry h
  obtain ⟨d, e, hd, he, c1, c2, dp, q⟩ := h
  obtain ⟨l1, r1⟩ := Dp.reads I d x v hd rx
  obtain ⟨l2, r2⟩ := Dp.reads I e y u he ry
  exact SeqAt.compareEq_reads r1 r2 c1 c2 (by have : min d.depth e.depth ≤ d.depth := Nat.min_le_left _ _; omega) ⟨.bl _, H, I, rfl, q⟩
theorem op_neB {D : Nat} (hu : X.A.units + D < cLine) : OpR X (compareOp .NotEq) (rNeB X.K D) := by
  intro pins sh σ H x y v u Q I rx ry h
  obtain ⟨d, e, hd, he, c1, c2, dp, q⟩ := h
  obtain ⟨l1, r1⟩ := Dp.reads I d x v hd rx
  obtain ⟨l2, r2⟩ := Dp.reads I e y u he ry
  exact SeqAt.compareNe_reads r1 r2 c1 c2 (by have : min d.depth e.depth ≤ d.depth := Nat.min_le_left _ _; omega) ⟨.bl _, H, I, rfl, q⟩
end
theorem Room.un {j : Nat} {A : Around} (h : Room j A) {D : Nat} (hd : D ≤ 16 * j + 200) : A.units + D < cLine := by
  have := L2.Room.un h
  omega
abbrev wOk (x : Str) : Prop := PyData.strOk x = true
mutual
/-- all words of a term are such -/
def wg (p : Str → Prop) : HF.T Str → Prop
  | .name _ => True
  | .sign u ps => p u ∧ wgL p ps
  | .hole u _ => p u
def wgL (p : Str → Prop) : HF.Ts Str → Prop
  | .nil => True
  | .cons _ t r => wg p t ∧ wgL p r
end
mutual
theorem wg_ren {p : Str → Prop} (ρ : Nat → Nat) : ∀ (c : Nat) (t : HF.T Str), wg p t → wg p (HF.ren ρ c t)
  | c, .name k, _ => True.intro
  | c, .sign u ps, h => ⟨h.1, wgL_ren ρ c ps h.2⟩
  | c, .hole u ns, h => h
theorem wgL_ren {p : Str → Prop} (ρ : Nat → Nat) : ∀ (c : Nat) (t : HF.Ts Str), wgL p t → wgL p (HF.renL ρ c t)
  | c, .nil, _ => True.intro
  | c, .cons m t r, h => ⟨wg_ren ρ (c + m) t h.1, wgL_ren ρ c r h.2⟩
end
mutual
theorem wg_fil {p : Str → Prop} {σ : Str → Option (HF.T Str)} (hσ : ∀ x u, σ x = some u → wg p u) : ∀ (t : HF.T Str), wg p t → wg p (HF.fil σ t)
  | .name k, _ => True.intro
  | .sign u ps, h => ⟨h.1, wgL_fil hσ ps h.2⟩
  | .hole u ns, h => by
    simp only [HF.fil]
    cases e : σ u with
    | none => exact h
    | some v => exact wg_ren _ 0 v (hσ u v e)
theorem wgL_fil {p : Str → Prop} {σ : Str → Option (HF.T Str)} (hσ : ∀ x u, σ x = some u → wg p u) : ∀ (t : HF.Ts Str), wgL p t → wgL p (HF.filL σ t)
  | .nil, _ => True.intro
  | .cons m t r, h => ⟨wg_fil hσ t h.1, wgL_fil hσ r h.2⟩
end
mutual
theorem wg.imp {p q : Str → Prop} (i : ∀ x, p x → q x) : ∀ {t : HF.T Str}, wg p t → wg q t
  | .name k, _ => True.intro
  | .sign u ps, h => ⟨i _ h.1, wgL.imp i h.2⟩
  | .hole u ns, h => i _ h
theorem wgL.imp {p q : Str → Prop} (i : ∀ x, p x → q x) : ∀ {t : HF.Ts Str}, wgL p t → wgL q t
  | .nil, _ => True.intro
  | .cons m t r, h => ⟨wg.imp i h.1, wgL.imp i h.2⟩
end
/-! terms as data -/
def nmD (k : Nat) : PyData := .tuple [.str "name", .int (k : Int)]
mutual
def toD : HF.T Str → PyData
  | .name k => nmD k
  | .sign u ps => .tuple [.str "sign", .str u, .tuple (toDL ps)]
  | .hole u ns => .tuple [.str "hole", .str u, .tuple (ns.map nmD)]
def toDL : HF.Ts Str → List PyData
  | .nil => []
  | .cons m t r => .tuple [.int (m : Int), toD t] :: toDL r
end
section
variable {K : PySem.W.Frag} {H : Hp}
theorem dp_name {k : Nat} {a : Addr} (h : H a = some (.tup [.str "name", .int (k : Int)])) : Dp K H (.ref a) (nmD k) := .tup (SqT.of h) (.cons (.str _) (.cons (.int _) .nil))
theorem dp_names : ∀ {ns : List Nat} {vs : List V}, AtN H ns vs → DpAll K H vs (ns.map nmD)
  | [], _, h => by rw [show _ = [] from h]; exact .nil
  | k :: r, _, ⟨a, vs', e, h1, h2⟩ => by rw [e]; exact .cons (dp_name h1) (dp_names h2)
mutual
theorem dp_of : ∀ {t : HF.T Str} {v : V}, At H t v → Dp K H v (toD t)
  | .name k, _, ⟨a, e, h⟩ => by rw [e]; exact dp_name h
  | .sign u ps, _, ⟨a, b, vs, e, h1, h2, h3⟩ => by rw [e]; exact .tup (SqT.of h1) (.cons (.str _) (.cons (.str _) (.cons (.tup (SqT.of h2) (dpL_of h3)) .nil)))
  | .hole u ns, _, ⟨a, b, vs, e, h1, h2, h3⟩ => by rw [e]; exact .tup (SqT.of h1) (.cons (.str _) (.cons (.str _) (.cons (.tup (SqT.of h2) (dp_names h3)) .nil)))
theorem dpL_of : ∀ {t : HF.Ts Str} {vs : List V}, AtL H t vs → DpAll K H vs (toDL t)
  | .nil, _, h => by rw [show _ = [] from h]; exact .nil
  | .cons m t r, _, ⟨c, tv, vs', e, h1, h2, h3⟩ => by rw [e]; exact .cons (.tup (SqT.of h1) (.cons (.int _) (.cons (dp_of h2) .nil))) (dpL_of h3)
end
end
theorem nm_ok (k : Nat) : (nmD k).canLay0 = true := by
  show (PyData.strOk "name" && true) = true
  decide +kernel
theorem nms_ok : ∀ ns : List Nat, PyData.canLayAll0 (ns.map nmD) = true
  | [] => rfl
  | k :: r => by
    show ((nmD k).canLay0 && PyData.canLayAll0 (r.map nmD)) = true
    rw [nm_ok, nms_ok r] <;> rfl
theorem sg_str : PyData.strOk "sign" = true := by decide +kernel
theorem hl_str : PyData.strOk "hole" = true := by decide +kernel
mutual
theorem toD_ok : ∀ {t : HF.T Str}, wg wOk t → (toD t).canLay0 = true
  | .name k, _ => nm_ok k
  | .sign u ps, h => by
    show (PyData.strOk "sign" && (PyData.strOk u && (PyData.canLayAll0 (toDL ps) && true))) = true
    rw [sg_str, show PyData.strOk u = true from h.1, toDL_ok h.2] <;> rfl
  | .hole u ns, h => by
    show (PyData.strOk "hole" && (PyData.strOk u && (PyData.canLayAll0 (ns.map nmD) && true))) = true
    rw [hl_str, show PyData.strOk u = true from h, nms_ok] <;> rfl
theorem toDL_ok : ∀ {t : HF.Ts Str}, wgL wOk t → PyData.canLayAll0 (toDL t) = true
  | .nil, _ => rfl
  | .cons m t r, h => by
    show ((true && ((toD t).canLay0 && true)) && PyData.canLayAll0 (toDL r)) = true
    rw [toD_ok h.1, toDL_ok h.2] <;> rfl
end
theorem nm_depth (k : Nat) : (nmD k).depth = 1 := by simp [nmD, PyData.depth, PyData.depthAll]
theorem nms_depth : ∀ ns : List Nat, PyData.depthAll (ns.map nmD) ≤ 1
  | [] => by simp [PyData.depthAll]
  | k :: r => by
    have h2 := nms_depth r
    have h1 := nm_depth k
    simp only [List.map_cons, PyData.depthAll]
    omega
mutual
theorem toD_depth : ∀ t : HF.T Str, (toD t).depth ≤ 3 * HF.ht t
  | .name k => by rw [toD, nm_depth]; show 1 ≤ 3 * 1; omega
  | .sign u ps => by
    have := toDL_depth ps
    simp only [toD, PyData.depth, PyData.depthAll, HF.ht]
    omega
  | .hole u ns => by
    have := nms_depth ns
    simp only [toD, PyData.depth, PyData.depthAll, HF.ht]
    omega
theorem toDL_depth : ∀ t : HF.Ts Str, PyData.depthAll (toDL t) ≤ 3 * HF.htL t + 1
  | .nil => by simp [toDL, PyData.depthAll]
  | .cons m t r => by
    have h1 := toD_depth t
    have h2 := toDL_depth r
    have h3 : HF.ht t ≤ HF.htL (.cons m t r) := Nat.le_max_left _ _
    have h4 : HF.htL r ≤ HF.htL (.cons m t r) := Nat.le_max_right _ _
    simp only [toDL, PyData.depth, PyData.depthAll]
    omega
end
/-! == of the data is equality of the terms -/
theorem xNS : ((("name" : Str) == ("sign" : Str)) = false) := by decide +kernel
theorem xNH : ((("name" : Str) == ("hole" : Str)) = false) := by decide +kernel
theorem xSN : ((("sign" : Str) == ("name" : Str)) = false) := by decide +kernel
theorem xSH : ((("sign" : Str) == ("hole" : Str)) = false) := by decide +kernel
theorem xHN : ((("hole" : Str) == ("name" : Str)) = false) := by decide +kernel
theorem xHS : ((("hole" : Str) == ("sign" : Str)) = false) := by decide +kernel
theorem ev_head {a b : Str} {xs ys : List PyData} (h : PyData.eqv (.tuple (.str a :: xs)) (.tuple (.str b :: ys)) = true) : (a == b) = true := (Bool.and_eq_true_iff.mp h).1
theorem eqv2 {a b c d : PyData} : PyData.eqv (.tuple [a, b]) (.tuple [c, d]) = (PyData.eqv a c && (PyData.eqv b d && true)) := rfl
theorem eqv_nm {j k : Nat} : PyData.eqv (nmD j) (nmD k) = true ↔ j = k := by
  show ((("name" : Str) == ("name" : Str)) && (((j : Int) == (k : Int)) && true)) = true ↔ j = k
  rw [beq_self_eq_true, Bool.true_and, Bool.and_true, beq_iff_eq]
  omega
theorem eqv_nms : ∀ {xs ys : List Nat}, PyData.eqvAll (xs.map nmD) (ys.map nmD) = true ↔ xs = ys
  | [], [] => by simp [PyData.eqvAll]
  | [], _ :: _ => by simp [PyData.eqvAll]
  | _ :: _, [] => by simp [PyData.eqvAll]
  | a :: r, b :: q => by
    show (PyData.eqv (nmD a) (nmD b) && PyData.eqvAll (r.map nmD) (q.map nmD)) = true ↔ _
    rw [Bool.and_eq_true, eqv_nm, eqv_nms, List.cons.injEq]
mutual
theorem eqv_toD : ∀ {a b : HF.T Str}, PyData.eqv (toD a) (toD b) = true ↔ a = b
  | .name j, .name k => by rw [toD, toD, eqv_nm, HF.T.name.injEq]
  | .name j, .sign u ps => by
    refine ⟨fun h => ?_, fun h => nomatch h⟩
    have h2 := ev_head (a := "name") (b := "sign") h
    rw [xNS] at h2; cases h2
  | .name j, .hole u ns => by
    refine ⟨fun h => ?_, fun h => nomatch h⟩
    have h2 := ev_head (a := "name") (b := "hole") h
    rw [xNH] at h2; cases h2
  | .sign v qs, .name j => by
    refine ⟨fun h => ?_, fun h => nomatch h⟩
    have h2 := ev_head (a := "sign") (b := "name") h
    rw [xSN] at h2; cases h2
  | .hole v qs, .name j => by
    refine ⟨fun h => ?_, fun h => nomatch h⟩
    have h2 := ev_head (a := "hole") (b := "name") h
    rw [xHN] at h2; cases h2
  | .sign v qs, .hole u ns => by
    refine ⟨fun h => ?_, fun h => nomatch h⟩
    have h2 := ev_head (a := "sign") (b := "hole") h
    rw [xSH] at h2; cases h2
  | .hole v qs, .sign u ps => by
    refine ⟨fun h => ?_, fun h => nomatch h⟩
    have h2 := ev_head (a := "hole") (b := "sign") h
    rw [xHS] at h2; cases h2
  | .sign v qs, .sign u ps => by
    show ((("sign" : Str) == ("sign" : Str)) && ((v == u) && (PyData.eqvAll (toDL qs) (toDL ps) && true))) = true ↔ _
    rw [beq_self_eq_true, Bool.true_and, Bool.and_true, Bool.and_eq_true, beq_iff_eq, eqv_toDL, HF.T.sign.injEq]
  | .hole v qs, .hole u ps => by
    show ((("hole" : Str) == ("hole" : Str)) && ((v == u) && (PyData.eqvAll (qs.map nmD) (ps.map nmD) && true))) = true ↔ _
    rw [beq_self_eq_true, Bool.true_and, Bool.and_true, Bool.and_eq_true, beq_iff_eq, eqv_nms, HF.T.hole.injEq]
theorem eqv_toDL : ∀ {a b : HF.Ts Str}, PyData.eqvAll (toDL a) (toDL b) = true ↔ a = b
  | .nil, .nil => by simp [toDL, PyData.eqvAll]
  | .nil, .cons _ _ _ => by simp [toDL, PyData.eqvAll]
  | .cons _ _ _, .nil => by simp [toDL, PyData.eqvAll]
  | .cons m t r, .cons k q z => by
    show ((((m : Int) == (k : Int)) && (PyData.eqv (toD t) (toD q) && true)) && PyData.eqvAll (toDL r) (toDL z)) = true ↔ _
    rw [Bool.and_true, Bool.and_eq_true, Bool.and_eq_true, beq_iff_eq, eqv_toD, eqv_toDL, HF.Ts.cons.injEq]
    constructor
    · rintro ⟨⟨h1, h2⟩, h3⟩
      exact ⟨by omega, h2, h3⟩
    · rintro ⟨h1, h2, h3⟩
      exact ⟨⟨by omega, h2⟩, h3⟩
end
theorem wgL_get {p : Str → Prop} : ∀ {ps : HF.Ts Str} {i : Nat} {z : Nat × Tm}, wgL p ps → (tsL ps)[i]? = some z → wg p z.2
  | .nil, i, z, _, e => by simp [tsL] at e
  | .cons m t r, 0, z, h, e => by
    simp [tsL] at e
    subst e
    exact h.1
  | .cons m t r, i + 1, z, h, e => wgL_get (i := i) h.2 (by simpa [tsL] using e)
theorem Has.mono {P : Program} {w : World} {K : PySem.W.Frag} {mg : Str → Option Value} {base : Heap} {x : Str} {j k : Nat} {ps : List Str} {dv : List V} {sp : Sp} (h : Has P w K mg base x j ps dv sp) (l : j ≤ k) : Has P w K mg base x k ps dv sp :=
  let ⟨f, fd, ds, a, b, c, d, e⟩ := h.ex
  ⟨f, fd, ds, a, b, c.mono l, d, e⟩
theorem andAns {t u : TT} {σ : L2.St} {H : Hp} {Q : Bool → Hp → Prop} {b1 b2 : Bool} (h1 : ∀ Q : Bool → Hp → Prop, Q b1 H → t σ H Q) (h2 : ∀ Q : Bool → Hp → Prop, Q b2 H → u σ H Q) (q : Q (b1 && b2) H) : tAnd t u σ H Q := by
  refine h1 _ ?_
  cases b1 with
  | true => exact iteT (h2 _ q)
  | false => exact iteF q
theorem orAns {t u : TT} {σ : L2.St} {H : Hp} {Q : Bool → Hp → Prop} {b1 b2 : Bool} (h1 : ∀ Q : Bool → Hp → Prop, Q b1 H → t σ H Q) (h2 : ∀ Q : Bool → Hp → Prop, Q b2 H → u σ H Q) (q : Q (b1 || b2) H) : tOr t u σ H Q := by
  refine h1 _ ?_
  cases b1 with
  | true => exact iteT q
  | false => exact iteF (h2 _ q)

end HW
end
section
set_option Elab.async false
set_option linter.all false
set_option maxRecDepth 100000
set_option maxHeartbeats 4000000
namespace HW
open PySem PySem.Spec PyProof.Rows L2 NdefX LamX
/-! ### alike_heads, leaves_of -/
theorem manys_tsL : ∀ ps : HF.Ts Str, HF.manys ps = (tsL ps).map (·.1)
  | .nil => rfl
  | .cons m t r => by simp only [HF.manys, tsL, List.map_cons, manys_tsL r]
theorem dp_ints {K : PySem.W.Frag} {H : Hp} : ∀ ns : List Nat, DpAll K H (nints ns) (ns.map fun (k : Nat) => PyData.int (k : Int))
  | [] => .nil
  | k :: r => .cons (.int _) (dp_ints r)
theorem eqv_ints : ∀ {xs ys : List Nat}, PyData.eqv (.list (xs.map fun (k : Nat) => PyData.int (k : Int))) (.list (ys.map fun (k : Nat) => PyData.int (k : Int))) = decide (xs = ys)
  | [], [] => rfl
  | [], _ :: _ => rfl
  | _ :: _, [] => rfl
  | a :: r, b :: q => by
    have ih := eqv_ints (xs := r) (ys := q)
    show (((a : Int) == (b : Int)) && PyData.eqv (.list (r.map _)) (.list (q.map _))) = _
    rw [ih]
    by_cases h : a = b
    · subst h
      by_cases h2 : r = q
      · subst h2; simp
      · simp [h2]
    · have h2 : ¬ ((a : Int) = (b : Int)) := by omega
      simp [h, h2]
theorem ints_shaped (ns : List Nat) : SeqAt.shaped (.list (ns.map fun (k : Nat) => PyData.int (k : Int))) = true := by
  have h1 : ∀ l : List Nat, PyData.canLayAll0 (l.map fun (k : Nat) => PyData.int (k : Int)) = true := fun l => by
    induction l with
    | nil => rfl
    | cons a r ih => exact ih
  have h2 : ∀ l : List Nat, PyData.depthAll (l.map fun (k : Nat) => PyData.int (k : Int)) = 0 := fun l => by
    induction l with
    | nil => rfl
    | cons a r ih => simp only [List.map_cons, PyData.depthAll, PyData.depth, ih]; rfl
  unfold SeqAt.shaped
  rw [Bool.and_eq_true]
  exact ⟨h1 ns, decide_eq_true (by simp only [PyData.depth, h2]; omega)⟩
def isSign : Tm → Bool
  | .sign _ _ => true
  | _ => false
section
variable {P : Program} {w : World} {K : PySem.W.Frag} {mg : Str → Option Value} {base : Heap}
def spAlike (T : List NTab) : Sp := fun vs H Q _ => ∃ (a b : Tm) (x y : V), vs = [x, y] ∧ At H a x ∧ At H b y ∧ TabsN T H ∧ HF.nd a ≤ 4000000 ∧ HF.nd b ≤ 4000000 ∧ ∀ c H', Gr T [] H H' → (c = true ↔ HF.alike a b) → Q (.bl c) H'
theorem sc_alike_heads : FnScope ["one", "other", "many", "part"] ["one", "other"] (defScope s_alike_heads) := ⟨rfl, rfl, rfl, by decide +kernel, rfl, by decide +kernel, by decide +kernel⟩
theorem not_alike {a b : Tm} (h : ¬ HF.alike a b) : (false = true ↔ HF.alike a b) := ⟨fun z => (by cases z), fun z => absurd z h⟩
theorem ok_alike (S : Cn K mg base) (T : List NTab) : Has P w K mg base "alike_heads" 1 ["one", "other"] [] (spAlike T) := by
  refine has_of (d := d_alike_heads) S 14 14 rfl rfl rfl rfl rfl sc_alike_heads (fun vs H Q E h => ?_) (fun _ _ _ _ _ _ us hl => match us, hl with | [_, _], _ => rfl) (fun f cdv A outer s H vs Q E hr h => ?_)
  · obtain ⟨a, b, x, y, rfl, _⟩ := h
    rfl
  refine ⟨_, (pss_cons (ps_if (PW.pt (pw_or (ptNe (ixT (pv 0))) (pw_or (ptNe (ixT (pv 1))) (pw_or1 (pt_cmpR op_ne (ixT (pv 0)) (ixT (pv 1)) (nomark _)))))) (pss_one (ps_ret pe_bl)) pss_nil) (pss_one (ps_ret (pe_cmpR (op_eqD hr.units) (pe_lc (own := [("many", 2), ("part", 3)]) (g := (gTup K 2 (gCons (gName 2) (gCons (gName 3) gNil)))) (by rfl) sc_alike_heads.nd (pi_tup (ixT (pv 0))) (blkOk_by (N := ["one", "other", "many", "part"]) (sc := defScope s_alike_heads) (by decide +kernel)) (fun _ _ _ _ _ => (pg_tup rfl (pgs_cons (pg_name (i := 2) sc_alike_heads.nd rfl (Or.inl rfl)) (pgs_cons (pg_name (i := 3) sc_alike_heads.nd rfl (Or.inl rfl)) pgs_nil)))) (fun _ _ _ _ _ => pts_nil) (fun _ _ _ _ _ => (pv 2))) (pe_lc (own := [("many", 2), ("part", 3)]) (g := (gTup K 2 (gCons (gName 2) (gCons (gName 3) gNil)))) (by rfl) sc_alike_heads.nd (pi_tup (ixT (pv 1))) (blkOk_by (N := ["one", "other", "many", "part"]) (sc := defScope s_alike_heads) (by decide +kernel)) (fun _ _ _ _ _ => (pg_tup rfl (pgs_cons (pg_name (i := 2) sc_alike_heads.nd rfl (Or.inl rfl)) (pgs_cons (pg_name (i := 3) sc_alike_heads.nd rfl (Or.inl rfl)) pgs_nil)))) (fun _ _ _ _ _ => pts_nil) (fun _ _ _ _ _ => (pv 2))) (nomark _))))), ?_⟩
  obtain ⟨a, b, x, y, rfl, ha, hb, hT, sa, sb, q⟩ := h
  cases a with
  | name k =>
    obtain ⟨p, rfl, h1⟩ := ha
    refine ⟨_, rfl, p, _, 0, _, rfl, rfl, SqT.of h1, rfl, rfl, _, rfl, ift rfl ?_⟩
    exact iteT (q _ H (Gr.refl hT) (not_alike (by simp [HF.alike])))
  | hole u ns =>
    obtain ⟨p, b', vs, rfl, h1, h2, h3⟩ := ha
    refine ⟨_, rfl, p, _, 0, _, rfl, rfl, SqT.of h1, rfl, rfl, _, rfl, ift rfl ?_⟩
    exact iteT (q _ H (Gr.refl hT) (not_alike (by simp [HF.alike])))
  | sign u ps =>
    obtain ⟨p, p2, vs, rfl, h1, h2, h3⟩ := ha
    refine ⟨_, rfl, p, _, 0, _, rfl, rfl, SqT.of h1, rfl, rfl, _, rfl, iff' rfl ?_⟩
    cases b with
    | name k =>
      obtain ⟨r, rfl, g1⟩ := hb
      refine ⟨_, rfl, r, _, 0, _, rfl, rfl, SqT.of g1, rfl, rfl, _, rfl, ift rfl ?_⟩
      exact iteT (q _ H (Gr.refl hT) (not_alike (by simp [HF.alike])))
    | hole v ns =>
      obtain ⟨r, r2, ws, rfl, g1, g2, g3⟩ := hb
      refine ⟨_, rfl, r, _, 0, _, rfl, rfl, SqT.of g1, rfl, rfl, _, rfl, ift rfl ?_⟩
      exact iteT (q _ H (Gr.refl hT) (not_alike (by simp [HF.alike])))
    | sign v qs =>
      obtain ⟨r, r2, ws, rfl, g1, g2, g3⟩ := hb
      refine ⟨_, rfl, r, _, 0, _, rfl, rfl, SqT.of g1, rfl, rfl, _, rfl, iff' rfl ?_⟩
      refine ⟨_, rfl, p, _, 1, _, rfl, rfl, SqT.of h1, rfl, _, rfl, r, _, 1, _, rfl, rfl, SqT.of g1, rfl, rfl, _, rfl, ite2 (fun hc => ?_) (fun hc => ?_)⟩
      · have hne : ¬ (V.str u = V.str v) := fun z => by rw [z] at hc; simp at hc
        exact q _ H (Gr.refl hT) (not_alike fun z => hne (by rw [z.1]))
      · have he : u = v := by
          have : decide (V.str u = V.str v) = true := by simpa using hc
          exact V.str.inj (of_decide_eq_true this)
        subst he
        have h4 := atL_ps.mp h3
        have g4 := atL_ps.mp g3
        have l1 := tsL_len ps
        have l2 := tsL_len qs
        have l3 := h4.len
        have l4 := g4.len
        rw [nd_sign] at sa sb
        refine ⟨_, rfl, p, _, 2, _, rfl, rfl, SqT.of h1, rfl, p2, rfl, ⟨_, SqT.of h2⟩, fun D hD => ?_⟩
        refine lc_mapT (T := T) (K := K) (a := p2) (xs := vs) (fun H i y => ∃ z, (tsL ps)[i]? = some z ∧ y = .int (z.1 : Int)) hT hD (SqT.of h2) (szl (by omega)) (fun H H' i y g e => e) (fun H i y acc e e2 l => e2) (fun i x H' Q' Pz hx g hq => ?_) fun H1 ys e1 hy hlen hr' => ?_
        · obtain ⟨z, e, pz⟩ := h4.get hx
          obtain ⟨cc, tv, rfl, p1, p2'⟩ := pz.mono g
          refine ⟨cc, _, rfl, SqT.of p1, rfl, _, _, rfl, _, _, rfl, rfl, rfl, yesT ?_⟩
          exact ⟨_, rfl, hq _ _ (Gr.refl g.tab) ⟨z, e, rfl⟩⟩
        refine ⟨_, rfl, r, _, 2, _, rfl, rfl, SqT.of (e1.tup _ _ g1), rfl, r2, rfl, ⟨_, SqT.of (e1.tup _ _ g2)⟩, fun D2 hD2 => ?_⟩
        refine lc_mapT (T := T) (K := K) (a := r2) (xs := ws) (fun H i y => ∃ z, (tsL qs)[i]? = some z ∧ y = .int (z.1 : Int)) e1.tab hD2 (SqT.of (e1.tup _ _ g2)) (szl (by omega)) (fun H H' i y g e => e) (fun H i y acc e e2 l => e2) (fun i x H' Q' Pz hx g hq => ?_) fun H2 zs e2 hz hlen2 hr2 => ?_
        · obtain ⟨z, e, pz⟩ := g4.get hx
          obtain ⟨cc, tv, rfl, p1, p2'⟩ := (pz.mono e1).mono g
          refine ⟨cc, _, rfl, SqT.of p1, rfl, _, _, rfl, _, _, rfl, rfl, rfl, yesT ?_⟩
          exact ⟨_, rfl, hq _ _ (Gr.refl g.tab) ⟨z, e, rfl⟩⟩
        have ey : ∀ {l : List (Nat × Tm)} {ys : List V}, ys.length = l.length → (∀ (j : Nat) (y : V), ys[j]? = some y → ∃ z, l[j]? = some z ∧ y = .int (z.1 : Int)) → ys = nints (l.map (·.1)) := fun {l ys} hl hh => by
          refine List.ext_getElem? fun j => ?_
          unfold nints
          rw [List.getElem?_map, List.getElem?_map]
          cases e : ys[j]? with
          | none =>
            have : ys.length ≤ j := List.getElem?_eq_none_iff.mp e
            rw [List.getElem?_eq_none_iff.mpr (by omega)] <;> rfl
          | some y =>
            obtain ⟨z, z1, z2⟩ := hh j y e
            rw [z1, z2] <;> rfl
        have k1 := ey (l := tsL ps) (by omega) hr'
        have k2 := ey (l := tsL qs) (by omega) hr2
        rw [← manys_tsL] at k1 k2
        subst k1 k2
        refine ⟨_, _, .lst (SqL.of (e2.lst hy)) (dp_ints _), .lst (SqL.of hz) (dp_ints _), ints_shaped _, ints_shaped _, ?_⟩
        rw [eqv_ints]
        exact q _ _ (e1.trans e2) ⟨fun z => ⟨rfl, of_decide_eq_true z⟩, fun z => decide_eq_true z.2⟩
/-! leaves -/
def AtLf (H : Hp) (ℓ : HF.Leaf Str) (v : V) : Prop := ∃ p pp xs va vb, v = .ref p ∧ H p = some (.tup [.ref pp, .int (ℓ.sc : Int), va, vb]) ∧ H pp = some (.tup xs) ∧ At H ℓ.a va ∧ At H ℓ.b vb
def AtLs (H : Hp) : List (HF.Leaf Str) → List V → Prop
  | [], vs => vs = []
  | q :: r, vs => ∃ v vs', vs = v :: vs' ∧ AtLf H q v ∧ AtLs H r vs'
theorem AtLf.mono {T : List NTab} {X : List Addr} {H H1 : Hp} (g : Gr T X H H1) {q : HF.Leaf Str} {v : V} (h : AtLf H q v) : AtLf H1 q v :=
  let ⟨p, pp, xs, va, vb, e, h1, h2, h3, h4⟩ := h
  ⟨p, pp, xs, va, vb, e, g.tup _ _ h1, g.tup _ _ h2, h3.mono g, h4.mono g⟩
theorem AtLs.mono {T : List NTab} {X : List Addr} {H H1 : Hp} (g : Gr T X H H1) : ∀ {l : List (HF.Leaf Str)} {vs : List V}, AtLs H l vs → AtLs H1 l vs
  | [], _, h => h
  | q :: r, _, ⟨v, vs', e, hx, h⟩ => ⟨v, vs', e, hx.mono g, AtLs.mono g h⟩
theorem AtLs.len {H : Hp} : ∀ {l : List (HF.Leaf Str)} {vs : List V}, AtLs H l vs → vs.length = l.length
  | [], _, h => by rw [show _ = [] from h] <;> rfl
  | q :: r, _, ⟨v, vs', e, _, h⟩ => by rw [e, List.length_cons, List.length_cons, AtLs.len h]
theorem AtLs.app {H : Hp} {k : List (HF.Leaf Str)} {ws : List V} (hk : AtLs H k ws) : ∀ {l : List (HF.Leaf Str)} {vs : List V}, AtLs H l vs → AtLs H (l ++ k) (vs ++ ws)
  | [], _, h => by rw [show _ = [] from h]; exact hk
  | z :: r, _, ⟨x, vs', e, hx, h⟩ => by rw [e]; exact ⟨x, vs' ++ ws, rfl, hx, AtLs.app hk h⟩
theorem AtLf.upd {H : Hp} {D : Addr} {acc : List V} {l : HO} (h : H D = some (.lst acc)) {q : HF.Leaf Str} {v : V} (x : AtLf H q v) : AtLf (upd H D l) q v :=
  let ⟨p, pp, xs, va, vb, e, h1, h2, h3, h4⟩ := x
  ⟨p, pp, xs, va, vb, e, tup_of_upd h h1, tup_of_upd h h2, h3.upd h, h4.upd h⟩
theorem AtLs.upd {H : Hp} {D : Addr} {acc : List V} {l : HO} (h : H D = some (.lst acc)) : ∀ {k : List (HF.Leaf Str)} {vs : List V}, AtLs H k vs → AtLs (upd H D l) k vs
  | [], _, e => e
  | q :: r, _, ⟨v, vs', e, hx, h'⟩ => ⟨v, vs', e, hx.upd h, AtLs.upd h h'⟩
noncomputable def leavesP (sc : Nat) (pl : List Nat) (k : Nat) : List (Nat × Tm) → List (Nat × Tm) → List (HF.Leaf Str)
  | x :: r, y :: r' => HF.leaves (sc + x.1) (pl ++ [k]) x.2 y.2 ++ leavesP sc pl (k + 1) r r'
  | _, _ => []
theorem leavesP_eq (sc : Nat) (pl : List Nat) : ∀ (k : Nat) (a b : HF.Ts Str), HF.leavesL sc pl k a b = leavesP sc pl k (tsL a) (tsL b)
  | k, .nil, b => by cases b <;> simp [HF.leavesL, tsL, leavesP]
  | k, .cons m t r, .nil => by simp [HF.leavesL, tsL, leavesP]
  | k, .cons m t r, .cons m' t' r' => by simp only [HF.leavesL, tsL, leavesP, leavesP_eq sc pl (k + 1) r r']
theorem leavesP_snoc (sc : Nat) (pl : List Nat) (x y : Nat × Tm) : ∀ (k : Nat) (a b : List (Nat × Tm)), a.length = b.length → leavesP sc pl k (a ++ [x]) (b ++ [y]) = leavesP sc pl k a b ++ HF.leaves (sc + x.1) (pl ++ [k + a.length]) x.2 y.2
  | k, [], [], _ => by simp [leavesP]
  | k, _ :: _, [], h => by simp at h
  | k, [], _ :: _, h => by simp at h
  | k, z :: r, z' :: r', h => by
    have h : r.length = r'.length := by simpa using h
    simp only [List.cons_append, leavesP, leavesP_snoc sc pl x y (k + 1) r r' h, List.append_assoc, List.length_cons]
    rw [show k + 1 + r.length = k + (r.length + 1) by omega]
theorem leavesP_len (sc : Nat) (pl : List Nat) : ∀ (k : Nat) (a b : List (Nat × Tm)), (leavesP sc pl k a b).length ≤ ndP a
  | k, [], b => by simp [leavesP]
  | k, x :: r, [] => by simp [leavesP]
  | k, x :: r, y :: r' => by
    have h1 := HF.leaves_len (sc := sc + x.1) (pl := pl ++ [k]) (a := x.2) (b := y.2)
    have h2 := leavesP_len sc pl (k + 1) r r'
    simp only [leavesP, List.length_append, ndP]
    omega
theorem leaves_sign {sc : Nat} {pl : List Nat} {u : Str} {ps qs : HF.Ts Str} (ne : HF.T.sign u ps ≠ HF.T.sign u qs) (hm : HF.manys ps = HF.manys qs) : HF.leaves sc pl (.sign u ps) (.sign u qs) = HF.leavesL sc pl 0 ps qs := by
  simp only [HF.leaves]
  rw [if_neg ne, if_pos ⟨trivial, hm⟩]
theorem leaves_self {sc : Nat} {pl : List Nat} {a b : Tm} (ne : a ≠ b) (h : ¬ HF.alike a b) : HF.leaves sc pl a b = [⟨pl, sc, a, b⟩] := by
  cases a with
  | name k => simp only [HF.leaves]; rw [if_neg ne]
  | hole u ns => simp only [HF.leaves]; rw [if_neg ne]
  | sign u ps =>
    cases b with
    | name k => simp only [HF.leaves]; rw [if_neg ne]
    | hole u ns => simp only [HF.leaves]; rw [if_neg ne]
    | sign v qs =>
      simp only [HF.leaves]
      rw [if_neg ne, if_neg (fun z => h (by simpa [HF.alike] using z))]
def spLeaves (T : List NTab) (n : Nat) : Sp := fun vs H Q _ => ∃ (sc : Nat) (a b : Tm) (x y : V) (pp : Addr) (xs : List V) (pl : List Nat), vs = [.int (sc : Int), x, y, .ref pp] ∧ At H a x ∧ At H b y ∧ H pp = some (.tup xs) ∧ TabsN T H ∧
  wg wOk a ∧ wg wOk b ∧ HF.nd a ≤ 4000000 ∧ HF.nd b ≤ 4000000 ∧ HF.ht a ≤ n ∧ xs.length + n ≤ 1000 ∧
  ∀ p H' items, Gr T [] H H' → H p = Option.none → H' p = some (.lst items) → AtLs H' (HF.leaves sc pl a b) items → Q (.ref p) H'
theorem sc_leaves_of : FnScope ["scope", "one", "other", "place", "found", "k", "part", "many", "inner"] ["scope", "one", "other", "place"] (defScope s_leaves_of) := ⟨rfl, rfl, rfl, by decide +kernel, rfl, by decide +kernel, by decide +kernel⟩
theorem ok_leaves1 (S : Cn K mg base) (T : List NTab) (n : Nat) (hA : Has P w K mg base "alike_heads" 1 ["one", "other"] [] (spAlike T)) (ih : Has P w K mg base "leaves_of" (n + 1) ["scope", "one", "other", "place"] [] (spLeaves T n)) :
    Has P w K mg base "leaves_of" (n + 1 + 1) ["scope", "one", "other", "place"] [] (spLeaves T (n + 1)) := by
  refine has_of (d := d_leaves_of) S 15 15 rfl rfl rfl rfl rfl sc_leaves_of (fun vs H Q E h => ?_) (fun _ _ _ _ _ _ us hl => match us, hl with | [_, _, _, _], _ => rfl) (fun f cdv A outer s H vs Q E hr h => ?_)
  · obtain ⟨sc, a, b, x, y, pp, xs, pl, rfl, _⟩ := h
    rfl
  refine ⟨_, (pss_cons (ps_if (pt_cmpR (op_eqB (D := 3 * n + 3) (Room.un hr (by omega))) (pv 1) (pv 2) (nomark _)) (pss_one (ps_ret (pe_lst pa_nil))) pss_nil) (pss_cons (ps_if (pt_not (pt_val (pe_hs hA hr (by omega) rfl (pa_cons (pv 1) (pa_cons (pv 2) pa_nil))))) (pss_one (ps_ret (pe_lst (pa_cons (pe_tup (pa_cons (pv 3) (pa_cons (pv 0) (pa_cons (pv 1) (pa_cons (pv 2) pa_nil))))) pa_nil)))) pss_nil) (pss_cons (ps_set (i := 4) sc_leaves_of.nd rfl (Or.inl rfl) (pe_lst pa_nil)) (pss_cons (ps_for PassesOwn.never rfl (pi_enumT (by rfl) (S.free 63) (pa_cons (ixT (pv 1)) pa_nil)) (pg_tup rfl (pgs_cons (pg_name (i := 5) sc_leaves_of.nd rfl (Or.inl rfl)) (pgs_cons (pg_name (i := 6) sc_leaves_of.nd rfl (Or.inl rfl)) pgs_nil))) (pss_cons (ps_asg (pv 6) (pg_tup rfl (pgs_cons (pg_name (i := 7) sc_leaves_of.nd rfl (Or.inl rfl)) (pgs_cons (pg_name (i := 8) sc_leaves_of.nd rfl (Or.inl rfl)) pgs_nil)))) (pss_one (ps_expr (pe_bm PySem.F.plainAttrs_list PySem.F.slot_list_extend PySem.F.type_list_extend mt_extend (pv 4) (pa_cons (pe_hs ih hr (by omega) rfl (pa_cons (pe_op op_add (pv 0) (pv 7)) (pa_cons (pv 8) (pa_cons (ixT (pe_ix ix_tup (ixT (pv 2)) (pv 5) (fun _ _ => rfl))) (pa_cons (pe_op op_catA (pv 3) (pe_tup (pa_cons (pv 5) pa_nil))) pa_nil))))) pa_nil)))))) (pss_one (ps_ret (pv 4))))))), ?_⟩
  obtain ⟨sc, a, b, x, y, pp, xs, pl, rfl, ha, hb, hp, hT, wa, wb, sa, sb, hn, hx, q⟩ := h
  have dep := toD_depth a
  refine ⟨_, rfl, _, rfl, _, _, dp_of ha, dp_of hb, toD_ok wa, toD_ok wb, by omega, _, rfl, ite2 (fun hc => ?_) (fun hc => ?_)⟩
  · have e := eqv_toD.mp hc
    refine ⟨szl (by decide), fun l hl => q l _ [] (Gr.new0 hT hl) hl upd_same ?_⟩
    rw [HF.leaves_eq e]
    exact rfl
  have ne : a ≠ b := fun z => hc (eqv_toD.mpr z)
  refine ⟨_, rfl, _, rfl, a, b, x, y, rfl, ha, hb, hT, sa, sb, fun c H1 g1 hal => ⟨c, rfl, ?_⟩⟩
  cases c with
  | false =>
    refine iteT ?_
    refine ⟨_, rfl, _, rfl, _, rfl, _, rfl, szl (by show 4 ≤ 10000000; decide), fun p hp' => ?_⟩
    have g2 := Gr.new (X := []) (o := .tup [.ref pp, .int (sc : Int), x, y]) g1 hp'
    refine ⟨szl (by show 1 ≤ 10000000; decide), fun l hl => ?_⟩
    have g3 := Gr.new (X := []) (o := .lst [.ref p]) g2 hl
    refine q l _ [.ref p] g3 (g2.back _ hl) upd_same ?_
    have hnal : ¬ HF.alike a b := fun z => by have := hal.mpr z; cases this
    rw [leaves_self ne hnal]
    refine ⟨_, [], rfl, ⟨p, pp, xs, x, y, rfl, ?_, g3.tup _ _ hp, ha.mono g3, hb.mono g3⟩, rfl⟩
    rw [upd_ne (ne_of_none upd_same hl)]; exact upd_same
  | true =>
    refine iteF ?_
    have hall := hal.mp rfl
    cases a with
    | name k => simp [HF.alike] at hall
    | hole u ns => simp [HF.alike] at hall
    | sign u ps =>
    cases b with
    | name k => simp [HF.alike] at hall
    | hole u ns => simp [HF.alike] at hall
    | sign v qs =>
    obtain ⟨hv, hm⟩ : u = v ∧ HF.manys ps = HF.manys qs := hall
    subst hv
    obtain ⟨r1, r2, vs, rfl, h1, h2, h3⟩ := ha
    obtain ⟨z1, z2, ws, rfl, k1, k2, k3⟩ := hb
    have h4 := atL_ps.mp h3
    have k4 := atL_ps.mp k3
    rw [nd_sign] at sa sb
    rw [ht_sign] at hn
    have lenE : (tsL ps).length = (tsL qs).length := by
      have := congrArg List.length hm
      rw [manys_tsL, manys_tsL, List.length_map, List.length_map] at this
      exact this
    refine ⟨szl (by decide), fun l hl => ?_⟩
    have g2 := Gr.new (X := []) (o := .lst []) g1 hl
    have hl0 := g1.back _ hl
    refine ⟨_, rfl, r1, _, 2, _, rfl, rfl, SqT.of (g2.tup _ _ h1), rfl, r2, vs, rfl, SqT.of (g2.tup _ _ h2), ?_⟩
    refine for_it (walk_enumT (K := K) (a := r2) (xs := vs)) (fun i σ H' => ∃ o1 o2 o3 o4 items, σ = [some (.int (sc : Int)), some (.ref r1), some (.ref z1), some (.ref pp), some (.ref l), o1, o2, o3, o4] ∧ Gr T [] H H' ∧ H' l = some (.lst items) ∧
      AtLs H' (leavesP sc pl 0 ((tsL ps).take i) ((tsL qs).take i)) items) ⟨_, _, _, _, [], rfl, g2, upd_same, rfl⟩ (fun i σ H' _ ⟨_, _, _, _, _, _, g, _⟩ => SqT.of (g.tup _ _ h2)) ?_ ?_
    · rintro i x σ H' H2 hi ⟨o1, o2, o3, o4, items, rfl, g, hl2, hat⟩ ⟨p', x1, x2, rfl, hp', rfl, e1, e2⟩
      obtain rfl : V.int (i : Nat) = x1 := Option.some.inj e1
      have e2 : vs[i]? = some x2 := e2
      obtain ⟨z, ez, pz⟩ := h4.get e2
      have g3 := Gr.new (X := []) (o := .tup [.int (i : Nat), x2]) g hp'
      obtain ⟨cc, tv, rfl, p1, p2⟩ := pz.mono g3
      have hl3 : (upd H' p' (.tup [.int (i : Nat), .ref cc])) l = some (.lst items) := by rw [upd_ne (ne_of_none hl2 hp')]; exact hl2
      have hiq : i < (tsL qs).length := by have := h4.len; omega
      obtain ⟨y, ey⟩ : ∃ y, ws[i]? = some y := ⟨ws[i]'(by rw [k4.len]; exact hiq), by simp⟩
      obtain ⟨zq, ezq, pzq⟩ := k4.get ey
      obtain ⟨cq, tq, rfl, p3, p4⟩ := pzq.mono g3
      obtain ⟨hh, hnd⟩ := htL_get ez
      obtain ⟨hh2, hnd2⟩ := htL_get ezq
      have wz := wgL_get wa.2 ez
      have wzq := wgL_get wb.2 ezq
      refine ⟨p', _, rfl, SqT.of upd_same, rfl, _, _, rfl, _, _, rfl, rfl, ?_⟩
      refine ⟨_, rfl, cc, _, rfl, SqT.of p1, rfl, _, _, rfl, _, _, rfl, rfl, ?_⟩
      refine ⟨_, rfl, .inl ⟨rfl, _, SqL.of hl3⟩, ?_⟩
      refine ⟨_, rfl, _, rfl, _, _, rfl, rfl, _, rfl, _, rfl, z1, _, 2, _, rfl, rfl, SqT.of (g3.tup _ _ k1), rfl, _, rfl, z2, _, _, _, rfl, rfl, SqT.of (g3.tup _ _ k2), atI_nat ey, cq, _, 1, _, rfl, rfl, SqT.of p3, rfl, ?_⟩
      refine ⟨_, rfl, _, rfl, szl (by show 1 ≤ 10000000; decide), fun pk hpk => ?_⟩
      have g4 := Gr.new (X := []) (o := .tup [.int (i : Nat)]) g3 hpk
      have fin : ∀ (p6 : Addr) (H6 : Hp) (it6 : List V), Gr T [] (upd (upd H' p' (.tup [.int (i : Nat), .ref cc])) pk (.tup [.int (i : Nat)])) H6 → H6 p6 = some (.lst it6) → AtLs H6 (HF.leaves (sc + z.1) (pl ++ [i]) z.2 zq.2) it6 →
          H6 l = some (.lst items) ∧ items.length + it6.length ≤ sizeLine ∧ Gr T [] H (upd H6 l (.lst (items ++ it6))) ∧ AtLs (upd H6 l (.lst (items ++ it6))) (leavesP sc pl 0 ((tsL ps).take (i + 1)) ((tsL qs).take (i + 1))) (items ++ it6) := fun p6 H6 it6 g5 hit at6 => by
        have hl6 : H6 l = some (.lst items) := g5.lst (by rw [upd_ne (ne_of_none hl3 hpk)]; exact hl3)
        have aold : AtLs H6 (leavesP sc pl 0 ((tsL ps).take i) ((tsL qs).take i)) items := hat.mono ((Gr.new0 (X := []) (o := .tup [.int (i : Nat), .ref cc]) g.tab hp').trans ((Gr.new0 (X := []) (o := .tup [.int (i : Nat)]) g3.tab hpk).trans g5))
        have len1 := aold.len
        have len2 := at6.len
        have b1 := leavesP_len sc pl 0 ((tsL ps).take i) ((tsL qs).take i)
        have b2 := ndP_take i (tsL ps)
        rw [ndP_tsL] at b2
        have b3 := HF.leaves_len (sc := sc + z.1) (pl := pl ++ [i]) (a := z.2) (b := zq.2)
        refine ⟨hl6, szl (by omega), (g4.trans g5).mutL (.inl hl0) hl6, ?_⟩
        rw [take_snoc ez, take_snoc ezq, leavesP_snoc _ _ _ _ _ _ _ (by rw [List.length_take, List.length_take, lenE])]
        have tl : ((tsL ps).take i).length = i := by rw [List.length_take]; have := h4.len; omega
        rw [tl, Nat.zero_add]
        exact AtLs.upd hl6 (AtLs.app at6 aold)
      refine ⟨pp, pk, xs, _, rfl, rfl, SqT.of (g4.tup _ _ hp), SqT.of upd_same, szl (by show xs.length + 1 ≤ 10000000; omega), fun hx0 => ?_, fun _ h0 => (by cases h0), fun _ _ pn hpn => ?_⟩
      · refine ⟨sc + z.1, z.2, zq.2, tv, tq, pk, _, pl ++ [i], rfl, (p2.mono (Gr.new0 (X := []) g3.tab hpk)).mono (Gr.refl (X := []) g4.tab), (p4.mono (Gr.new0 (X := []) g3.tab hpk)).mono (Gr.refl (X := []) g4.tab), upd_same, ((Gr.refl g4.tab) : Gr T [] _ _).tab, wz, wzq, by omega, by omega, by omega, by show 1 + n ≤ 1000; omega, fun p6 H6 it6 g6 hp6 hit at6 => ?_⟩
        obtain ⟨f1, f2, f3, f4⟩ := fin p6 H6 it6 (((Gr.refl g4.tab) : Gr T [] _ _).trans g6) hit at6
        exact ⟨l, p6, items, it6, rfl, rfl, f1, hit, f2, _, _, _, _, _, rfl, f3, upd_same, f4⟩
      · refine ⟨sc + z.1, z.2, zq.2, tv, tq, pn, _, pl ++ [i], rfl, (p2.mono (Gr.new0 (X := []) g3.tab hpk)).mono (Gr.new0 (X := []) g4.tab hpn), (p4.mono (Gr.new0 (X := []) g3.tab hpk)).mono (Gr.new0 (X := []) g4.tab hpn), upd_same, ((Gr.new0 g4.tab hpn) : Gr T [] _ _).tab, wz, wzq, by omega, by omega, by omega, by rw [List.length_append]; show xs.length + 1 + n ≤ 1000; omega, fun p6 H6 it6 g6 hp6 hit at6 => ?_⟩
        obtain ⟨f1, f2, f3, f4⟩ := fin p6 H6 it6 (((Gr.new0 g4.tab hpn) : Gr T [] _ _).trans g6) hit at6
        exact ⟨l, p6, items, it6, rfl, rfl, f1, hit, f2, _, _, _, _, _, rfl, f3, upd_same, f4⟩
    · rintro σ H' ⟨o1, o2, o3, o4, items, rfl, g, hl2, hat⟩
      refine ⟨_, rfl, q l H' items g hl0 hl2 ?_⟩
      rw [leaves_sign ne hm, leavesP_eq]
      rw [h4.len] at hat
      have t1 : (tsL ps).take (tsL ps).length = tsL ps := List.take_length
      have t2 : (tsL qs).take (tsL ps).length = tsL qs := by rw [lenE]; exact List.take_length
      rw [t1, t2] at hat
      exact hat
theorem ok_leaves0 (S : Cn K mg base) (T : List NTab) : Has P w K mg base "leaves_of" 0 ["scope", "one", "other", "place"] [] (spLeaves T 0) := by
    exact has_zero (d := d_leaves_of) S 15 15 rfl rfl rfl rfl rfl (fun _ _ _ _ _ _ us hl => match us, hl with | [_, _, _, _], _ => rfl) (fun vs H Q E h => by
      obtain ⟨sc, t, b, x, y, pp, xs, pl, _, _, _, _, _, _, _, _, _, hn, _⟩ := h
      have := HF.ht_pos t
      omega)
theorem ok_leaves (S : Cn K mg base) (T : List NTab) (hA : Has P w K mg base "alike_heads" 1 ["one", "other"] [] (spAlike T)) : ∀ n, Has P w K mg base "leaves_of" (n + 1) ["scope", "one", "other", "place"] [] (spLeaves T n)
  | 0 => (ok_leaves0 S T).mono (by omega)
  | n + 1 => ok_leaves1 S T n hA (ok_leaves S T hA n)
end

end HW
end
section
set_option Elab.async false
set_option linter.all false
set_option maxRecDepth 100000
set_option maxHeartbeats 4000000
namespace HW
open PySem PySem.Spec PyProof.Rows L2 NdefX LamX
/-! ### fault_in, fault_of, kept_of, too_much_told -/
def firstP {α : Type} (f : Nat × Tm → Option α) : List (Nat × Tm) → Option α
  | [] => Option.none
  | z :: r => match f z with
    | some x => some x
    | Option.none => firstP f r
theorem firstP_none {α : Type} {f : Nat × Tm → Option α} : ∀ {l : List (Nat × Tm)}, (∀ z ∈ l, f z = Option.none) → firstP f l = Option.none
  | [], _ => rfl
  | z :: r, h => by simp only [firstP, h z List.mem_cons_self]; exact firstP_none fun y hy => h y (List.mem_cons_of_mem _ hy)
theorem firstP_at {α : Type} {f : Nat × Tm → Option α} {x : α} {z : Nat × Tm} : ∀ {l : List (Nat × Tm)} {i : Nat}, (∀ y ∈ l.take i, f y = Option.none) → l[i]? = some z → f z = some x → firstP f l = some x
  | [], i, _, h, _ => by simp at h
  | y :: r, 0, _, h, e => by
    simp at h
    subst h
    simp only [firstP, e]
  | y :: r, i + 1, h, h2, e => by
    simp only [firstP, h y (by simp)]
    exact firstP_at (i := i) (fun q hq => h q (by simp [hq])) (by simpa using h2) e
theorem faultL_first (u : Str) (ns : List Nat) (c : Nat) : ∀ ps : HF.Ts Str, HF.faultInL u ns c ps = firstP (fun z => HF.faultIn u ns (c + z.1) z.2) (tsL ps)
  | .nil => rfl
  | .cons m t r => by simp only [HF.faultInL, tsL, firstP, faultL_first u ns c r]; cases HF.faultIn u ns (c + m) t <;> rfl
theorem tooL_first (ns : List Nat) (c : Nat) : ∀ ps : HF.Ts Str, HF.tooMuchL ns c ps = firstP (fun z => HF.tooMuch ns (c + z.1) z.2) (tsL ps)
  | .nil => rfl
  | .cons m t r => by simp only [HF.tooMuchL, tsL, firstP, tooL_first ns c r]; cases HF.tooMuch ns (c + m) t <;> rfl
def fV : Option HF.Fault → V
  | Option.none => .non
  | some .heads => .str "heads"
  | some .ring => .str "ring"
  | some .scope => .str "scope"
theorem take_all_snoc {α : Type} {p : α → Prop} {l : List α} {i : Nat} {z : α} (h : ∀ y ∈ l.take i, p y) (e : l[i]? = some z) (hz : p z) : ∀ y ∈ l.take (i + 1), p y := fun y hy => by
  rw [take_snoc e] at hy
  rcases List.mem_append.mp hy with q | q
  · exact h y q
  · simp at q; exact q ▸ hz
theorem dStr {a b : Str} : decide (V.str a = V.str b) = decide (a = b) := by
  by_cases h : a = b
  · subst h; simp
  · have : ¬ V.str a = V.str b := fun z => h (V.str.inj z)
    simp [h, this]
section
variable {P : Program} {w : World} {K : PySem.W.Frag} {mg : Str → Option Value} {base : Heap}
def spFaultIn (T : List NTab) (n : Nat) : Sp := fun vs H Q _ => ∃ (t : Tm) (v : V) (u : Str) (r : Addr) (ns : List Nat) (c : Nat), vs = [v, .str u, .ref r, .int (c : Int)] ∧ At H t v ∧ H r = some (.tup (nints ns)) ∧ TabsN T H ∧ HF.ht t ≤ n ∧
  ∀ H', Gr T [] H H' → Q (fV (HF.faultIn u ns c t)) H'
theorem sc_fault_in : FnScope ["term", "word", "names", "inner", "many", "part", "fault"] ["term", "word", "names", "inner"] (defScope s_fault_in) := ⟨rfl, rfl, rfl, by decide +kernel, rfl, by decide +kernel, by decide +kernel⟩
theorem ok_faultIn1 (S : Cn K mg base) (T : List NTab) (n : Nat) (ih : Has P w K mg base "fault_in" n ["term", "word", "names", "inner"] [] (spFaultIn T n)) :
    Has P w K mg base "fault_in" (n + 1) ["term", "word", "names", "inner"] [] (spFaultIn T (n + 1)) := by
  refine has_of (d := d_fault_in) S 16 16 rfl rfl rfl rfl rfl sc_fault_in (fun vs H Q E h => ?_) (fun _ _ _ _ _ _ us hl => match us, hl with | [_, _, _, _], _ => rfl) (fun f cdv A outer s H vs Q E hr h => ?_)
  · obtain ⟨t, v, u, r, ns, c, rfl, _⟩ := h
    rfl
  refine ⟨_, (pss_cons (ps_if (ptEq (ixT (pv 0))) (pss_cons (ps_if (pt_cmpR op_eq (ixT (pv 0)) (pv 1) (nomark _)) (pss_one (ps_ret pe_str)) pss_nil) (pss_one (ps_ret pe_non))) pss_nil) (pss_cons (ps_if (ptEq (ixT (pv 0))) (pss_cons (ps_if (PW.pt (pw_and (pt_cmpR op_ge (ixT (pv 0)) (pv 3) (nomark _)) (pw_and1 (pt_cmpR op_notIn_seq (pe_op op_sub (ixT (pv 0)) (pv 3)) (pv 2) (by rfl))))) (pss_one (ps_ret pe_str)) pss_nil) (pss_one (ps_ret pe_non))) pss_nil) (pss_cons (ps_for PassesOwn.never rfl (pi_tup (ixT (pv 0))) (pg_tup rfl (pgs_cons (pg_name (i := 4) sc_fault_in.nd rfl (Or.inl rfl)) (pgs_cons (pg_name (i := 5) sc_fault_in.nd rfl (Or.inl rfl)) pgs_nil))) (pss_cons (ps_set (i := 6) sc_fault_in.nd rfl (Or.inl rfl) (pe_hs ih hr (by omega) rfl (pa_cons (pv 5) (pa_cons (pv 1) (pa_cons (pv 2) (pa_cons (pe_op op_add (pv 3) (pv 4)) pa_nil)))))) (pss_one (ps_if (pt_cmp (pc_notN (pv 6))) (pss_one (ps_ret (pv 6))) pss_nil)))) (pss_one (ps_ret pe_non))))), ?_⟩
  obtain ⟨t, v, u, r, ns, c, rfl, ht, hr1, hT, hn, q⟩ := h
  cases t with
  | hole x ms =>
    obtain ⟨a, b, vs, rfl, h1, h2, h3⟩ := ht
    refine ⟨_, rfl, a, _, 0, _, rfl, rfl, SqT.of h1, rfl, rfl, _, rfl, ift eRf ?_⟩
    refine ⟨_, rfl, a, _, 1, _, rfl, rfl, SqT.of h1, rfl, _, rfl, rfl, _, rfl, ?_⟩
    rw [dStr]
    refine ite2 (fun hc => ?_) (fun hc => ?_)
    · have := q H (Gr.refl hT)
      rw [HF.faultIn, if_pos (of_decide_eq_true hc)] at this
      exact this
    · have := q H (Gr.refl hT)
      rw [HF.faultIn, if_neg (of_decide_eq_false (Bool.eq_false_iff.mpr hc))] at this
      exact this
  | name k =>
    obtain ⟨a, rfl, h1⟩ := ht
    refine ⟨_, rfl, a, _, 0, _, rfl, rfl, SqT.of h1, rfl, rfl, _, rfl, iff' eNH ?_⟩
    refine ⟨_, rfl, a, _, 0, _, rfl, rfl, SqT.of h1, rfl, rfl, _, rfl, ift eRf ?_⟩
    refine ⟨_, rfl, a, _, 1, _, rfl, rfl, SqT.of h1, rfl, _, rfl, _, _, rfl, rfl, _, rfl, ?_⟩
    have := q H (Gr.refl hT)
    refine ite2 (fun hc => ?_) (fun hc => ?_)
    · have hc' : (k : Int) ≥ (c : Int) := of_decide_eq_true hc
      have e : ((k : Int) - (c : Int)) = ((k - c : Nat) : Int) := by omega
      refine ⟨_, rfl, a, _, 1, _, rfl, rfl, SqT.of h1, rfl, _, rfl, _, _, rfl, rfl, _, rfl, r, _, rfl, .inr (SqT.of hr1), rfl, flat_nints, _, rfl, ?_⟩
      show if (!inV (.int ((k : Int) - (c : Int))) (nints ns)) = true then _ else _
      rw [e, inV_nat]
      by_cases hm : k - c ∈ ns
      · refine iff' (by simp [hm]) ?_
        rw [HF.faultIn, if_neg (by simp [hm])] at this
        exact this
      · refine ift (by simp [hm]) ?_
        rw [HF.faultIn, if_pos ⟨by omega, hm⟩] at this
        exact this
    · have hc' : ¬ (k : Int) ≥ (c : Int) := of_decide_eq_false (Bool.eq_false_iff.mpr hc)
      refine iteF ?_
      rw [HF.faultIn, if_neg (fun z => hc' (by have := z.1; omega))] at this
      exact this
  | sign x ps =>
    obtain ⟨a, b, vs, rfl, h1, h2, h3⟩ := ht
    have h4 := atL_ps.mp h3
    rw [ht_sign] at hn
    refine ⟨_, rfl, a, _, 0, _, rfl, rfl, SqT.of h1, rfl, rfl, _, rfl, iff' eSH ?_⟩
    refine ⟨_, rfl, a, _, 0, _, rfl, rfl, SqT.of h1, rfl, rfl, _, rfl, iff' eSN ?_⟩
    refine ⟨_, rfl, a, _, 2, _, rfl, rfl, SqT.of h1, rfl, b, rfl, ⟨_, SqT.of h2⟩, ?_⟩
    have fq : HF.faultIn u ns c (.sign x ps) = firstP (fun z => HF.faultIn u ns (c + z.1) z.2) (tsL ps) := faultL_first u ns c ps
    refine for_tup (K := K) (a := b) (xs := vs) (fun i σ H' => ∃ o1 o2 o3, σ = [some (.ref a), some (.str u), some (.ref r), some (.int (c : Int)), o1, o2, o3] ∧ Gr T [] H H' ∧ ∀ y ∈ (tsL ps).take i, HF.faultIn u ns (c + y.1) y.2 = Option.none)
      ⟨_, _, _, rfl, Gr.refl hT, fun y hy => by simp at hy⟩ (fun i σ H' _ ⟨_, _, _, _, g, _⟩ => SqT.of (g.tup _ _ h2)) ?_ ?_
    · rintro i y σ H' hx ⟨o1, o2, o3, rfl, g, hno⟩
      obtain ⟨z, e, p⟩ := h4.get hx
      obtain ⟨d, tv, rfl, p1, p2⟩ := p.mono g
      obtain ⟨hh, hnd⟩ := htL_get e
      refine ⟨d, _, rfl, SqT.of p1, rfl, _, _, rfl, _, _, rfl, rfl, ?_⟩
      refine ⟨_, rfl, _, rfl, _, rfl, _, rfl, _, rfl, _, _, rfl, rfl, z.2, tv, u, r, ns, c + z.1, rfl, p2, g.tup _ _ hr1, g.tab, by omega, fun H2 g2 => ?_⟩
      cases ef : HF.faultIn u ns (c + z.1) z.2 with
      | none => exact ⟨_, rfl, _, rfl, iff' rfl ⟨_, _, _, rfl, g.trans g2, take_all_snoc hno e ef⟩⟩
      | some f =>
        refine ⟨_, rfl, _, rfl, ift (by cases f <;> rfl) ⟨_, rfl, ?_⟩⟩
        have := q H2 (g.trans g2)
        rw [fq, firstP_at hno e ef] at this
        exact this
    · rintro σ H' ⟨o1, o2, o3, rfl, g, hno⟩
      have := q H' g
      rw [h4.len, List.take_length] at hno
      rw [fq, firstP_none hno] at this
      exact this
theorem ok_faultIn (S : Cn K mg base) (T : List NTab) : ∀ n, Has P w K mg base "fault_in" n ["term", "word", "names", "inner"] [] (spFaultIn T n)
  | 0 => by
    exact has_zero (d := d_fault_in) S 16 16 rfl rfl rfl rfl rfl (fun _ _ _ _ _ _ us hl => match us, hl with | [_, _, _, _], _ => rfl) (fun vs H Q E h => by
      obtain ⟨t, v, u, r, ns, c, _, _, _, _, hn, _⟩ := h
      have := HF.ht_pos t
      omega)
  | n + 1 => ok_faultIn1 S T n (ok_faultIn S T n)
/-! fault_of -/
def spFaultOf (T : List NTab) (n : Nat) : Sp := fun vs H Q _ => ∃ (a b : Tm) (x y : V), vs = [x, y] ∧ At H a x ∧ At H b y ∧ TabsN T H ∧ HF.strt a ∧ HF.strt b ∧ HF.nd a ≤ 4000000 ∧ HF.nd b ≤ 4000000 ∧ HF.ht a ≤ n ∧ HF.ht b ≤ n ∧
  ∀ H', Gr T [] H H' → Q (fV (HF.faultOf a b)) H'
/-- the one way round -/
def f1 : Tm → Tm → Option HF.Fault
  | .hole _ _, .hole _ _ => Option.none
  | .hole u ns, b => HF.faultIn u ns 0 b
  | _, _ => Option.none
def isHole : Tm → Bool
  | .hole _ _ => true
  | _ => false
theorem faultOf_eq {a b : Tm} (h : isHole a = true ∨ isHole b = true) : HF.faultOf a b = (match f1 a b with
    | some f => some f
    | Option.none => f1 b a) := by
  cases a <;> cases b <;> simp [HF.faultOf, f1, isHole] at h ⊢
  all_goals (split <;> simp_all)
theorem tagOf {H : Hp} {t : Tm} {v : V} (h : At H t v) : ∃ a rest, v = .ref a ∧ H a = some (.tup (.str (match t with | .name _ => "name" | .sign _ _ => "sign" | .hole _ _ => "hole") :: rest)) := by
  cases t with
  | name k => obtain ⟨a, e, h1⟩ := h; exact ⟨a, _, e, h1⟩
  | sign u ps => obtain ⟨a, b, vs, e, h1, _⟩ := h; exact ⟨a, _, e, h1⟩
  | hole u ns => obtain ⟨a, b, vs, e, h1, _⟩ := h; exact ⟨a, _, e, h1⟩
theorem tag_ne {t : Tm} : (!decide (V.str (match t with | .name _ => "name" | .sign _ _ => "sign" | .hole _ _ => "hole") = V.str "hole")) = !isHole t := by
  cases t with
  | name k => exact congrArg not eNH
  | sign u ps => exact congrArg not eSH
  | hole u ns => exact congrArg not eRf
theorem sc_fault_of : FnScope ["one", "other", "hole", "term", "names", "fault"] ["one", "other"] (defScope s_fault_of) := ⟨rfl, rfl, rfl, by decide +kernel, rfl, by decide +kernel, by decide +kernel⟩
theorem ok_faultOf (S : Cn K mg base) (T : List NTab) (n : Nat) (hT : Has P w K mg base "told_names" 1 ["term"] [] (spTold T)) (hF : Has P w K mg base "fault_in" n ["term", "word", "names", "inner"] [] (spFaultIn T n)) :
    Has P w K mg base "fault_of" (n + 1 + 1) ["one", "other"] [] (spFaultOf T n) := by
  refine has_of (d := d_fault_of) S 17 17 rfl rfl rfl rfl rfl sc_fault_of (fun vs H Q E h => ?_) (fun _ _ _ _ _ _ us hl => match us, hl with | [_, _], _ => rfl) (fun f cdv A outer s H vs Q E hr h => ?_)
  · obtain ⟨a, b, x, y, rfl, _⟩ := h
    rfl
  refine ⟨_, (pss_cons (ps_if (PW.pt (pw_and (ptNe (ixT (pv 0))) (pw_and1 (ptNe (ixT (pv 1)))))) (pss_one (ps_ret pe_str)) pss_nil) (pss_cons (ps_for PassesOwn.never rfl (pi_list (pe_lst (pa_cons (pe_tup (pa_cons (pv 0) (pa_cons (pv 1) pa_nil))) (pa_cons (pe_tup (pa_cons (pv 1) (pa_cons (pv 0) pa_nil))) pa_nil)))) (pg_tup rfl (pgs_cons (pg_name (i := 2) sc_fault_of.nd rfl (Or.inl rfl)) (pgs_cons (pg_name (i := 3) sc_fault_of.nd rfl (Or.inl rfl)) pgs_nil))) (pss_cons (ps_set (i := 4) sc_fault_of.nd rfl (Or.inl rfl) (pe_hs hT hr (by omega) rfl (pa_cons (pv 2) pa_nil))) (pss_one (ps_if (PW.pt (pw_and (pt_cmp (pc_notN (pv 4))) (pw_and1 (PW.pt (pw_or (ptNe (ixT (pv 3))) (pw_or1 (pt_cmpR op_ne (ixT (pv 3)) (ixT (pv 2)) (nomark _)))))))) (pss_cons (ps_set (i := 5) sc_fault_of.nd rfl (Or.inl rfl) (pe_hs hF hr (by omega) rfl (pa_cons (pv 3) (pa_cons (ixT (pv 2)) (pa_cons (pv 4) (pa_cons pe_int pa_nil)))))) (pss_one (ps_if (pt_cmp (pc_notN (pv 5))) (pss_one (ps_ret (pv 5))) pss_nil))) pss_nil)))) (pss_one (ps_ret pe_non)))), ?_⟩
  obtain ⟨a, b, x, y, rfl, ha, hb, hTb, sa, sb, za, zb, na, nb, q⟩ := h
  obtain ⟨p, ra, rfl, h1⟩ := tagOf ha
  obtain ⟨r, rb, rfl, k1⟩ := tagOf hb
  refine andAns (b1 := !isHole a) (b2 := !isHole b) (fun Q q => ⟨_, rfl, p, _, 0, _, rfl, rfl, SqT.of h1, atI_nat (j := 0) rfl, rfl, _, rfl, by rw [tag_ne]; exact q⟩)
    (fun Q q => ⟨_, rfl, r, _, 0, _, rfl, rfl, SqT.of k1, atI_nat (j := 0) rfl, rfl, _, rfl, by rw [tag_ne]; exact q⟩) ?_
  by_cases hh : isHole a = true ∨ isHole b = true
  · refine iff' (by rcases hh with h | h <;> simp [h]) ?_
    have fe := faultOf_eq hh
    refine ⟨_, rfl, _, rfl, szl (by show 2 ≤ 10000000; decide), fun t1 ht1 => ?_⟩
    have g1 := Gr.new0 (X := []) (o := .tup [.ref p, .ref r]) hTb ht1
    refine ⟨_, rfl, _, rfl, szl (by show 2 ≤ 10000000; decide), fun t2 ht2 => ?_⟩
    have g2 := Gr.new (X := []) (o := .tup [.ref r, .ref p]) g1 ht2
    refine ⟨szl (by show 2 ≤ 10000000; decide), fun l hl => ?_⟩
    have g3 := Gr.new (X := []) (o := .lst [.ref t1, .ref t2]) g2 hl
    have et1 : (upd (upd (upd H t1 (.tup [.ref p, .ref r])) t2 (.tup [.ref r, .ref p])) l (.lst [.ref t1, .ref t2])) t1 = some (.tup [.ref p, .ref r]) := by
      have e1 : (upd (upd H t1 (.tup [.ref p, .ref r])) t2 (.tup [.ref r, .ref p])) t1 = some (.tup [.ref p, .ref r]) := by rw [upd_ne (ne_of_none upd_same ht2)]; exact upd_same
      rw [upd_ne (ne_of_none e1 hl)]; exact e1
    have et2 : (upd (upd (upd H t1 (.tup [.ref p, .ref r])) t2 (.tup [.ref r, .ref p])) l (.lst [.ref t1, .ref t2])) t2 = some (.tup [.ref r, .ref p]) := by
      rw [upd_ne (ne_of_none upd_same hl)]; exact upd_same
    refine ⟨l, rfl, ⟨_, SqL.of upd_same⟩, ?_⟩
    refine for_list (K := K) (a := l) (xs := [.ref t1, .ref t2]) (fun i σ H' => ∃ o1 o2 o3 o4, σ = [some (.ref p), some (.ref r), o1, o2, o3, o4] ∧ Gr T [] (upd (upd (upd H t1 (.tup [.ref p, .ref r])) t2 (.tup [.ref r, .ref p])) l (.lst [.ref t1, .ref t2])) H' ∧ (0 < i → f1 a b = Option.none) ∧ (1 < i → f1 b a = Option.none))
      ⟨_, _, _, _, rfl, Gr.refl g3.tab, fun z => (by omega), fun z => (by omega)⟩ (fun i σ H' _ ⟨_, _, _, _, _, g, _⟩ => SqL.of (g.lst upd_same)) ?_ ?_
    · rintro i z σ H' hz ⟨o1, o2, o3, o4, rfl, g, n1, n2⟩
      have gg := g3.trans g
      obtain ⟨c, d, pc, pd, tt, rfl, et, hc, hd, stc, ndc, nc, ndd, hno, hso⟩ : ∃ (c d : Tm) (pc pd tt : Addr), z = .ref tt ∧ H' tt = some (.tup [.ref pc, .ref pd]) ∧ At H c (.ref pc) ∧ At H d (.ref pd) ∧ HF.strt c ∧ HF.nd c ≤ 4000000 ∧ HF.ht c ≤ n ∧ HF.ht d ≤ n ∧
          (f1 c d = Option.none → (0 < i + 1 → f1 a b = Option.none) ∧ (1 < i + 1 → f1 b a = Option.none)) ∧ (∀ f, f1 c d = some f → HF.faultOf a b = some f) := by
        match i, hz with
        | 0, hz =>
          simp at hz
          exact ⟨a, b, p, r, t1, hz.symm, g.tup _ _ et1, ha, hb, sa, za, na, nb, fun e => ⟨fun _ => e, fun z => by omega⟩, fun f e => by rw [fe, e]⟩
        | 1, hz =>
          simp at hz
          exact ⟨b, a, r, p, t2, hz.symm, g.tup _ _ et2, hb, ha, sb, zb, nb, na, fun e => ⟨fun _ => n1 (by omega), fun _ => e⟩, fun f e => by rw [fe, n1 (by omega), e]⟩
        | i + 2, hz => simp at hz
      refine ⟨tt, _, rfl, SqT.of et, rfl, _, _, rfl, _, _, rfl, rfl, ?_⟩
      refine ⟨_, rfl, c, _, rfl, hc.mono gg, g.tab, stc, ndc, fun H2 g2 => ?_⟩
      have skip : f1 c d = Option.none → ∀ (H3 : Hp) (o3 o4 : Option V), Gr T [] H' H3 → ∃ o1 o2 o3' o4', [some (.ref p), some (.ref r), some (.ref pc), some (.ref pd), o3, o4] = [some (.ref p), some (.ref r), o1, o2, o3', o4'] ∧ Gr T [] (upd (upd (upd H t1 (.tup [.ref p, .ref r])) t2 (.tup [.ref r, .ref p])) l (.lst [.ref t1, .ref t2])) H3 ∧ (0 < i + 1 → f1 a b = Option.none) ∧ (1 < i + 1 → f1 b a = Option.none) :=
        fun e H3 o3 o4 g3' => ⟨_, _, _, _, rfl, g.trans g3', (hno e).1, (hno e).2⟩
      cases c with
      | name k => exact ⟨_, rfl, _, rfl, iteF (iteF (skip (by cases d <;> rfl) H2 _ _ g2))⟩
      | sign u ps => exact ⟨_, rfl, _, rfl, iteF (iteF (skip (by cases d <;> rfl) H2 _ _ g2))⟩
      | hole u ns =>
        refine fun tn htn etn => ?_
        refine ⟨_, rfl, _, rfl, iteT ?_⟩
        have gh := gg.trans g2
        obtain ⟨ca, cb, cvs, ec, c1, c2, c3⟩ := hc
        cases ec
        have use : ∀ (dv : Tm), d = dv → (∀ v ms, dv = .hole v ms → v ≠ u) → f1 (.hole u ns) d = HF.faultIn u ns 0 d := fun dv e1 e2 => by
          cases dv with
          | name k => rw [e1]; rfl
          | sign v qs => rw [e1]; rfl
          | hole v ms =>
            rw [e1]
            show Option.none = HF.faultIn u ns 0 (.hole v ms)
            rw [HF.faultIn, if_neg (e2 v ms rfl)]
        have hd2 := hd.mono gh
        cases d with
        | name k =>
          obtain ⟨da, ed, d1⟩ := hd2
          cases ed
          refine ⟨_, rfl, pd, _, 0, _, rfl, rfl, SqT.of d1, rfl, rfl, _, rfl, iteT (iteT ?_)⟩
          refine ⟨_, rfl, _, rfl, pc, _, 1, _, rfl, rfl, SqT.of (gh.tup _ _ c1), rfl, _, rfl, .name k, _, u, tn, ns, 0, rfl, ⟨pd, rfl, d1⟩, etn, g2.tab, ndd, fun H3 g4 => ?_⟩
          have e9 := use _ rfl (fun v ms z => nomatch z)
          cases ef : HF.faultIn u ns 0 (.name k) with
          | none => exact ⟨_, rfl, _, rfl, iteF (skip (e9.trans ef) H3 _ _ (g2.trans g4))⟩
          | some f =>
            refine ⟨_, rfl, _, rfl, ift (by cases f <;> rfl) ⟨_, rfl, ?_⟩⟩
            have := q H3 (gh.trans g4)
            rw [hso f (e9.trans ef)] at this
            exact this
        | sign v qs =>
          obtain ⟨da, db, dvs, ed, d1, d2, d3⟩ := hd2
          cases ed
          refine ⟨_, rfl, pd, _, 0, _, rfl, rfl, SqT.of d1, rfl, rfl, _, rfl, iteT (iteT ?_)⟩
          refine ⟨_, rfl, _, rfl, pc, _, 1, _, rfl, rfl, SqT.of (gh.tup _ _ c1), rfl, _, rfl, .sign v qs, _, u, tn, ns, 0, rfl, ⟨pd, db, dvs, rfl, d1, d2, d3⟩, etn, g2.tab, ndd, fun H3 g4 => ?_⟩
          have e9 := use _ rfl (fun v ms z => nomatch z)
          cases ef : HF.faultIn u ns 0 (.sign v qs) with
          | none => exact ⟨_, rfl, _, rfl, iteF (skip (e9.trans ef) H3 _ _ (g2.trans g4))⟩
          | some f =>
            refine ⟨_, rfl, _, rfl, ift (by cases f <;> rfl) ⟨_, rfl, ?_⟩⟩
            have := q H3 (gh.trans g4)
            rw [hso f (e9.trans ef)] at this
            exact this
        | hole v ms =>
          obtain ⟨da, db, dvs, ed, d1, d2, d3⟩ := hd2
          cases ed
          refine ⟨_, rfl, pd, _, 0, _, rfl, rfl, SqT.of d1, rfl, rfl, _, rfl, iteF ?_⟩
          refine ⟨_, rfl, pd, _, 1, _, rfl, rfl, SqT.of d1, rfl, _, rfl, pc, _, 1, _, rfl, rfl, SqT.of (gh.tup _ _ c1), rfl, rfl, _, rfl, ?_⟩
          rw [dStr]
          by_cases hvu : v = u
          · refine iff' (by simp [hvu]) ?_
            exact skip rfl H2 _ _ g2
          · refine ift (by simp [hvu]) ?_
            refine ⟨_, rfl, _, rfl, pc, _, 1, _, rfl, rfl, SqT.of (gh.tup _ _ c1), rfl, _, rfl, .hole v ms, _, u, tn, ns, 0, rfl, ⟨pd, db, dvs, rfl, d1, d2, d3⟩, etn, g2.tab, ndd, fun H3 g4 => ?_⟩
            have ef : HF.faultIn u ns 0 (.hole v ms) = Option.none := by rw [HF.faultIn, if_neg hvu]
            rw [ef]
            exact ⟨_, rfl, _, rfl, iteF (skip rfl H3 _ _ (g2.trans g4))⟩
    · rintro σ H' ⟨o1, o2, o3, o4, rfl, g, n1, n2⟩
      have := q H' (g3.trans g)
      rw [fe, n1 (by show 0 < 2; omega), n2 (by show 1 < 2; omega)] at this
      exact this
  · have e1 : isHole a = false := by cases h : isHole a with
      | false => rfl
      | true => exact absurd (Or.inl h) hh
    have e2 : isHole b = false := by cases h : isHole b with
      | false => rfl
      | true => exact absurd (Or.inr h) hh
    refine ift (by simp [e1, e2]) ?_
    have := q H (Gr.refl hTb)
    have e : HF.faultOf a b = some .heads := by cases a <;> cases b <;> simp [HF.faultOf, isHole] at e1 e2 ⊢
    rw [e] at this
    exact this
end

end HW
end
section
set_option Elab.async false
set_option linter.all false
set_option maxRecDepth 100000
set_option maxHeartbeats 4000000
namespace HW
open PySem PySem.Spec PyProof.Rows L2 NdefX LamX
/-! ### kept_of, too_much_told -/
def keepB (gs ns : List Nat) (c k : Nat) : Bool := decide (gs.getD k 0 < c ∨ gs.getD k 0 - c ∈ ns)
theorem range_snoc (p : Nat → Bool) (i : Nat) : (List.range (i + 1)).filter p = (List.range i).filter p ++ (if p i = true then [i] else []) := by
  rw [List.range_succ, List.filter_append]
  congr 1
  cases h : p i <;> simp [h]
section
variable {P : Program} {w : World} {K : PySem.W.Frag} {mg : Str → Option Value} {base : Heap}
def spKept (T : List NTab) : Sp := fun vs H Q _ => ∃ (u : Str) (gs : List Nat) (v : V) (r : Addr) (ns : List Nat) (c : Nat), vs = [v, .ref r, .int (c : Int)] ∧ At H (.hole u gs) v ∧ H r = some (.tup (nints ns)) ∧ TabsN T H ∧ gs.length ≤ 4000000 ∧
  ∀ p H', Gr T [] H H' → H p = Option.none → H' p = some (.lst (nints (HF.keptOf gs ns c))) → Q (.ref p) H'
theorem sc_kept_of : FnScope ["hole", "names", "inner", "found", "k", "one"] ["hole", "names", "inner"] (defScope s_kept_of) := ⟨rfl, rfl, rfl, by decide +kernel, rfl, by decide +kernel, by decide +kernel⟩
theorem ok_kept (S : Cn K mg base) (T : List NTab) : Has P w K mg base "kept_of" 1 ["hole", "names", "inner"] [] (spKept T) := by
  refine has_of (d := d_kept_of) S 18 18 rfl rfl rfl rfl rfl sc_kept_of (fun vs H Q E h => ?_) (fun _ _ _ _ _ _ us hl => match us, hl with | [_, _, _], _ => rfl) (fun f cdv A outer s H vs Q E hr h => ?_)
  · obtain ⟨u, gs, v, r, ns, c, rfl, _⟩ := h
    rfl
  refine ⟨_, (pss_cons (ps_set (i := 3) sc_kept_of.nd rfl (Or.inl rfl) (pe_lst pa_nil)) (pss_cons (ps_for PassesOwn.never rfl (pi_enumT (by rfl) (S.free 63) (pa_cons (ixT (pv 0)) pa_nil)) (pg_tup rfl (pgs_cons (pg_name (i := 4) sc_kept_of.nd rfl (Or.inl rfl)) (pgs_cons (pg_name (i := 5) sc_kept_of.nd rfl (Or.inl rfl)) pgs_nil))) (pss_one (ps_if (PW.pt (pw_or (pt_cmpR op_lt (ixT (pv 5)) (pv 2) (nomark _)) (pw_or1 (pt_cmpR op_in_seq (pe_op op_sub (ixT (pv 5)) (pv 2)) (pv 1) (by rfl))))) (pss_one (ps_expr (pe_bm PySem.F.plainAttrs_list PySem.F.slot_list_append PySem.F.type_list_append mt_append (pv 3) (pa_cons (pv 4) pa_nil)))) pss_nil))) (pss_one (ps_ret (pv 3))))), ?_⟩
  obtain ⟨u, gs, v, r, ns, c, rfl, ⟨a, b, vs, rfl, h1, h2, h3⟩, hr1, hT, hsz, q⟩ := h
  have hvl := h3.len
  refine ⟨szl (by decide), fun l hl => ?_⟩
  have g0 := Gr.new0 (X := []) (o := .lst []) hT hl
  refine ⟨_, rfl, a, _, 2, _, rfl, rfl, SqT.of (g0.tup _ _ h1), rfl, b, vs, rfl, SqT.of (g0.tup _ _ h2), ?_⟩
  refine for_it (walk_enumT (K := K) (a := b) (xs := vs)) (fun i σ H' => ∃ o1 o2, σ = [some (.ref a), some (.ref r), some (.int (c : Int)), some (.ref l), o1, o2] ∧ Gr T [] H H' ∧ H' l = some (.lst (nints ((List.range i).filter (keepB gs ns c)))))
    ⟨_, _, rfl, g0, upd_same⟩ (fun i σ H' _ ⟨_, _, _, g, _⟩ => SqT.of (g.tup _ _ h2)) ?_ ?_
  · rintro i x σ H' H2 hi ⟨o1, o2, rfl, g, hl2⟩ ⟨p', x1, x2, rfl, hp', rfl, e1, e2⟩
    obtain rfl : V.int (i : Nat) = x1 := Option.some.inj e1
    have e2 : vs[i]? = some x2 := e2
    obtain ⟨k, ek, y, rfl, py⟩ := h3.get e2
    have g3 := Gr.new (X := []) (o := .tup [.int (i : Nat), .ref y]) g hp'
    have hl3 : (upd H' p' (.tup [.int (i : Nat), .ref y])) l = some (.lst (nints ((List.range i).filter (keepB gs ns c)))) := by rw [upd_ne (ne_of_none hl2 hp')]; exact hl2
    have py3 := g3.tup _ _ py
    have gd : gs.getD i 0 = k := by rw [List.getD_eq_getElem?_getD, ek]; rfl
    have flen : ((List.range i).filter (keepB gs ns c)).length ≤ i := by have := List.length_filter_le (keepB gs ns c) (List.range i); rw [List.length_range] at this; exact this
    have yes : keepB gs ns c i = true → ∃ l', V.ref l = V.ref l' ∧ True := fun _ => ⟨l, rfl, trivial⟩
    have app : keepB gs ns c i = true → nints ((List.range i).filter (keepB gs ns c)) ++ [V.int (i : Nat)] = nints ((List.range (i + 1)).filter (keepB gs ns c)) := fun hk => by
      rw [range_snoc, if_pos hk, nints_snoc]
    have noa : keepB gs ns c i = false → nints ((List.range i).filter (keepB gs ns c)) = nints ((List.range (i + 1)).filter (keepB gs ns c)) := fun hk => by
      rw [range_snoc, if_neg (by rw [hk]; simp), List.append_nil]
    refine ⟨p', _, rfl, SqT.of upd_same, rfl, _, _, rfl, _, _, rfl, rfl, ?_⟩
    refine ⟨_, rfl, y, _, 1, _, rfl, rfl, SqT.of py3, rfl, _, rfl, _, _, rfl, rfl, _, rfl, ?_⟩
    by_cases hc : (k : Int) < (c : Int)
    · have hk : keepB gs ns c i = true := decide_eq_true (Or.inl (by rw [gd]; omega))
      refine ift (decide_eq_true hc) (iteT ?_)
      refine ⟨_, rfl, .inl ⟨rfl, _, SqL.of hl3⟩, _, rfl, l, _, _, rfl, rfl, hl3, szl' (by rw [nints_len]; omega), ?_⟩
      exact ⟨_, _, rfl, g3.mutL (.inl hl) hl3, by rw [upd_same, app hk]⟩
    · refine iff' (decide_eq_false hc) ?_
      have e : ((k : Int) - (c : Int)) = ((k - c : Nat) : Int) := by omega
      refine ⟨_, rfl, y, _, 1, _, rfl, rfl, SqT.of py3, rfl, _, rfl, _, _, rfl, rfl, _, rfl, r, _, rfl, .inr (SqT.of (g3.tup _ _ hr1)), rfl, flat_nints, _, rfl, ?_⟩
      show if inV (.int ((k : Int) - (c : Int))) (nints ns) = true then _ else _
      rw [e, inV_nat]
      by_cases hm : k - c ∈ ns
      · have hk : keepB gs ns c i = true := decide_eq_true (Or.inr (by rw [gd]; exact hm))
        refine ift (decide_eq_true hm) ?_
        refine ⟨_, rfl, .inl ⟨rfl, _, SqL.of hl3⟩, _, rfl, l, _, _, rfl, rfl, hl3, szl' (by rw [nints_len]; omega), ?_⟩
        exact ⟨_, _, rfl, g3.mutL (.inl hl) hl3, by rw [upd_same, app hk]⟩
      · have hk : keepB gs ns c i = false := decide_eq_false (by rw [gd]; rintro (z | z); (· omega); exact hm z)
        refine iff' (decide_eq_false hm) ?_
        exact ⟨_, _, rfl, g3, by rw [hl3, noa hk]⟩
  · rintro σ H' ⟨o1, o2, rfl, g, hl2⟩
    refine ⟨_, rfl, q l H' g hl ?_⟩
    rw [hvl] at hl2
    exact hl2
/-! too_much_told -/
def spToo (T : List NTab) (n : Nat) : Sp := fun vs H Q _ => ∃ (t : Tm) (v : V) (r : Addr) (ns : List Nat) (c : Nat), vs = [v, .ref r, .int (c : Int)] ∧ At H t v ∧ H r = some (.tup (nints ns)) ∧ TabsN T H ∧ HF.nd t ≤ 4000000 ∧ HF.ht t ≤ n ∧
  ∀ H', Gr T [] H H' → (match HF.tooMuch ns c t with
    | Option.none => Q .non H'
    | some (g, gs, ks) => ∀ p l hv, H' p = some (.tup [hv, .ref l]) → H p = Option.none → H l = Option.none → At H' (.hole g gs) hv → H' l = some (.lst (nints ks)) → Q (.ref p) H')
theorem sc_too_much_told : FnScope ["term", "names", "inner", "kept", "many", "part", "found"] ["term", "names", "inner"] (defScope s_too_much_told) := ⟨rfl, rfl, rfl, by decide +kernel, rfl, by decide +kernel, by decide +kernel⟩
theorem ok_too1 (S : Cn K mg base) (T : List NTab) (n : Nat) (hK : Has P w K mg base "kept_of" 1 ["hole", "names", "inner"] [] (spKept T)) (ih : Has P w K mg base "too_much_told" (n + 1) ["term", "names", "inner"] [] (spToo T n)) :
    Has P w K mg base "too_much_told" (n + 1 + 1) ["term", "names", "inner"] [] (spToo T (n + 1)) := by
  refine has_of (d := d_too_much_told) S 19 19 rfl rfl rfl rfl rfl sc_too_much_told (fun vs H Q E h => ?_) (fun _ _ _ _ _ _ us hl => match us, hl with | [_, _, _], _ => rfl) (fun f cdv A outer s H vs Q E hr h => ?_)
  · obtain ⟨t, v, r, ns, c, rfl, _⟩ := h
    rfl
  refine ⟨_, (pss_cons (ps_if (ptEq (ixT (pv 0))) (pss_one (ps_ret pe_non)) pss_nil) (pss_cons (ps_if (ptEq (ixT (pv 0))) (pss_cons (ps_set (i := 3) sc_too_much_told.nd rfl (Or.inl rfl) (pe_hs hK hr (by omega) rfl (pa_cons (pv 0) (pa_cons (pv 1) (pa_cons (pv 2) pa_nil))))) (pss_cons (ps_if (pt_cmpR op_eq (pe_callB call_len_seq (by rfl) (S.free 58) (by decide +kernel) (pa_cons (pv 3) pa_nil)) (pe_callB call_len_seq (by rfl) (S.free 58) (by decide +kernel) (pa_cons (ixT (pv 0)) pa_nil)) (nomark _)) (pss_one (ps_ret pe_non)) pss_nil) (pss_one (ps_ret (pe_tup (pa_cons (pv 0) (pa_cons (pv 3) pa_nil))))))) pss_nil) (pss_cons (ps_for PassesOwn.never rfl (pi_tup (ixT (pv 0))) (pg_tup rfl (pgs_cons (pg_name (i := 4) sc_too_much_told.nd rfl (Or.inl rfl)) (pgs_cons (pg_name (i := 5) sc_too_much_told.nd rfl (Or.inl rfl)) pgs_nil))) (pss_cons (ps_set (i := 6) sc_too_much_told.nd rfl (Or.inl rfl) (pe_hs ih hr (by omega) rfl (pa_cons (pv 5) (pa_cons (pv 1) (pa_cons (pe_op op_add (pv 2) (pv 4)) pa_nil))))) (pss_one (ps_if (pt_cmp (pc_notN (pv 6))) (pss_one (ps_ret (pv 6))) pss_nil)))) (pss_one (ps_ret pe_non))))), ?_⟩
  obtain ⟨t, v, r, ns, c, rfl, ht, hr1, hT, hsz, hn, q⟩ := h
  cases t with
  | name k =>
    obtain ⟨a, rfl, h1⟩ := ht
    refine ⟨_, rfl, a, _, 0, _, rfl, rfl, SqT.of h1, rfl, rfl, _, rfl, ift eRf ?_⟩
    exact q H (Gr.refl hT)
  | hole u gs =>
    obtain ⟨a, b, vs, rfl, h1, h2, h3⟩ := ht
    rw [nd_hole] at hsz
    refine ⟨_, rfl, a, _, 0, _, rfl, rfl, SqT.of h1, rfl, rfl, _, rfl, iff' eHN ?_⟩
    refine ⟨_, rfl, a, _, 0, _, rfl, rfl, SqT.of h1, rfl, rfl, _, rfl, ift eRf ?_⟩
    refine ⟨_, rfl, _, rfl, _, rfl, u, gs, _, r, ns, c, rfl, ⟨a, b, vs, rfl, h1, h2, h3⟩, hr1, hT, by omega, fun l H1 g1 hl hl1 => ?_⟩
    refine ⟨_, rfl, l, _, rfl, .inl (SqL.of hl1), _, rfl, a, _, 2, _, rfl, rfl, SqT.of (g1.tup _ _ h1), rfl, b, _, rfl, .inr (SqT.of (g1.tup _ _ h2)), rfl, _, rfl, ?_⟩
    have hvl := h3.len
    have e : decide (V.int ((nints (HF.keptOf gs ns c)).length : Int) = V.int (vs.length : Int)) = decide ((HF.keptOf gs ns c).length = gs.length) := by
      rw [nints_len, hvl]
      by_cases z : (HF.keptOf gs ns c).length = gs.length
      · rw [z]; simp
      · have : ¬ (V.int ((HF.keptOf gs ns c).length : Int) = V.int (gs.length : Int)) := fun y => z (by have := V.int.inj y; omega)
        simp [z, this]
    rw [e]
    have := q
    refine ite2 (fun hc => ?_) (fun hc => ?_)
    · have h9 := q H1 g1
      rw [HF.tooMuch, if_pos (of_decide_eq_true hc)] at h9
      exact h9
    · refine ⟨_, rfl, _, rfl, szl (by show 2 ≤ 10000000; decide), fun p hp => ?_⟩
      have g2 := Gr.new (X := []) (o := .tup [.ref a, .ref l]) g1 hp
      have h9 := q _ g2
      rw [HF.tooMuch, if_neg (of_decide_eq_false (Bool.eq_false_iff.mpr hc))] at h9
      exact h9 p l _ upd_same (g1.back _ hp) hl ⟨a, b, vs, rfl, g2.tup _ _ h1, g2.tup _ _ h2, h3.mono g2⟩ (by rw [upd_ne (ne_of_none hl1 hp)]; exact hl1)
  | sign u ps =>
    obtain ⟨a, b, vs, rfl, h1, h2, h3⟩ := ht
    have h4 := atL_ps.mp h3
    rw [ht_sign] at hn
    rw [nd_sign] at hsz
    refine ⟨_, rfl, a, _, 0, _, rfl, rfl, SqT.of h1, rfl, rfl, _, rfl, iff' eSN ?_⟩
    refine ⟨_, rfl, a, _, 0, _, rfl, rfl, SqT.of h1, rfl, rfl, _, rfl, iff' eSH ?_⟩
    refine ⟨_, rfl, a, _, 2, _, rfl, rfl, SqT.of h1, rfl, b, rfl, ⟨_, SqT.of h2⟩, ?_⟩
    have fq : HF.tooMuch ns c (.sign u ps) = firstP (fun z => HF.tooMuch ns (c + z.1) z.2) (tsL ps) := tooL_first ns c ps
    refine for_tup (K := K) (a := b) (xs := vs) (fun i σ H' => ∃ o0 o1 o2 o3, σ = [some (.ref a), some (.ref r), some (.int (c : Int)), o0, o1, o2, o3] ∧ Gr T [] H H' ∧ ∀ y ∈ (tsL ps).take i, HF.tooMuch ns (c + y.1) y.2 = Option.none)
      ⟨_, _, _, _, rfl, Gr.refl hT, fun y hy => by simp at hy⟩ (fun i σ H' _ ⟨_, _, _, _, _, g, _⟩ => SqT.of (g.tup _ _ h2)) ?_ ?_
    · rintro i y σ H' hx ⟨o0, o1, o2, o3, rfl, g, hno⟩
      obtain ⟨z, e, p⟩ := h4.get hx
      obtain ⟨d, tv, rfl, p1, p2⟩ := p.mono g
      obtain ⟨hh, hnd⟩ := htL_get e
      refine ⟨d, _, rfl, SqT.of p1, rfl, _, _, rfl, _, _, rfl, rfl, ?_⟩
      refine ⟨_, rfl, _, rfl, _, rfl, _, rfl, _, _, rfl, rfl, z.2, tv, r, ns, c + z.1, rfl, p2, g.tup _ _ hr1, g.tab, by omega, by omega, fun H2 g2 => ?_⟩
      cases ef : HF.tooMuch ns (c + z.1) z.2 with
      | none => exact ⟨_, rfl, _, rfl, iff' rfl ⟨_, _, _, _, rfl, g.trans g2, take_all_snoc hno e ef⟩⟩
      | some f =>
        obtain ⟨gg, gs, ks⟩ := f
        refine fun p l hv hp p0 l0 hat hl => ?_
        refine ⟨_, rfl, _, rfl, iteT ⟨_, rfl, ?_⟩⟩
        have h9 := q H2 (g.trans g2)
        rw [fq, firstP_at hno e ef] at h9
        exact h9 p l hv hp (g.back _ p0) (g.back _ l0) hat hl
    · rintro σ H' ⟨o0, o1, o2, o3, rfl, g, hno⟩
      have h9 := q H' g
      rw [h4.len, List.take_length] at hno
      rw [fq, firstP_none hno] at h9
      exact h9
theorem ok_too0 (S : Cn K mg base) (T : List NTab) : Has P w K mg base "too_much_told" 0 ["term", "names", "inner"] [] (spToo T 0) := by
    exact has_zero (d := d_too_much_told) S 19 19 rfl rfl rfl rfl rfl (fun _ _ _ _ _ _ us hl => match us, hl with | [_, _, _], _ => rfl) (fun vs H Q E h => by
      obtain ⟨t, v, r, ns, c, _, _, _, _, _, hn, _⟩ := h
      have := HF.ht_pos t
      omega)
theorem ok_too (S : Cn K mg base) (T : List NTab) (hK : Has P w K mg base "kept_of" 1 ["hole", "names", "inner"] [] (spKept T)) : ∀ n, Has P w K mg base "too_much_told" (n + 1) ["term", "names", "inner"] [] (spToo T n)
  | 0 => (ok_too0 S T).mono (by omega)
  | n + 1 => ok_too1 S T n hK (ok_too S T hK n)
end

end HW
end
section
set_option Elab.async false
set_option linter.all false
set_option maxRecDepth 100000
set_option maxHeartbeats 4000000
namespace HW
open PySem PySem.Spec PyProof.Rows L2 NdefX LamX
/-! ### functions handed on: with_names -/
structure Clo (P : Program) (w : World) (K : PySem.W.Frag) (mg : Str → Option Value) (base : Heap) (T : List NTab) (j : Nat) (ρ : Nat → Nat) (H : Hp) (f : Addr) : Prop where
  ex : ∃ (F : NF) (ps fr : List Str) (ws : List (Option V)) (sp : List (Option V) → Sp), NOk P w K mg base CX0 j f F ps fr sp ∧ H f = some (FnO f F) ∧ H F.c = some (CodeO F.c F.qual) ∧ CellsT F.cl fr ws H ∧
    ∀ Hc, Gr T [] H Hc → TabsN T (drp (csOf F.cl) Hc) → ∀ (k b : Nat) (Q : VK), (∀ p H2, Gr T [] (drp (csOf F.cl) Hc) H2 → H2 p = some (.tup [.str "name", .int (HF.lift ρ b k : Nat)]) → Q (.ref p) H2) →
      sp ws [.int (k : Int), .int (b : Int)] (drp (csOf F.cl) Hc) Q E0
theorem fz_gr {T : List NTab} {H H1 : Hp} (g : Gr T [] H H1) {c : Addr} (h : Fz H c) : Fz H1 c := let ⟨o, v, e, d⟩ := h; ⟨o, v, g.ext _ _ (by simp) e fun _ z => (by cases z), d⟩
theorem cells_gr {T : List NTab} {H H1 : Hp} (g : Gr T [] H H1) {cl : List (Str × Addr)} {fr : List Str} {ws : List (Option V)} (C : CellsT cl fr ws H) : CellsT cl fr ws H1 :=
  ⟨C.len, fun y c e => fz_gr g (C.all y c e), C.inj, fun i y e => (let ⟨c, h1, h2⟩ := C.has i y e; ⟨c, h1, fun v hv => (let ⟨o, u, a, b, r⟩ := h2 v hv; ⟨o, u, g.ext _ _ (by simp) a fun _ z => (by cases z), b, r⟩)⟩)⟩
theorem fnO_tbl {f : Addr} {F : NF} (ps : Array Value) : FnO f F ≠ .tbl ps := fnO_ne ps
theorem Clo.mono {P : Program} {w : World} {K : PySem.W.Frag} {mg : Str → Option Value} {base : Heap} {T : List NTab} {j : Nat} {ρ : Nat → Nat} {H H1 : Hp} {f : Addr} (g : Gr T [] H H1) (c : Clo P w K mg base T j ρ H f) : Clo P w K mg base T j ρ H1 f :=
  let ⟨F, ps, fr, ws, sp, a, b, d, e, q⟩ := c.ex
  ⟨F, ps, fr, ws, sp, a, g.ext _ _ (by simp) b fnO_tbl, g.ext _ _ (by simp) d codeO_ne, cells_gr g e, fun Hc g2 => q Hc (g.trans g2)⟩
theorem tabs_drp {T : List NTab} {cs : List Addr} {H : Hp} (t : TabsN T H) (f : ∀ c ∈ cs, ∃ ob u, H c = some (.frz ob u)) : TabsN T (drp cs H) := fun p hp => by
  have ou : ∀ b o, H b = some o → (∀ ob u, o ≠ .frz ob u) → b ∉ cs := fun b o e n z => by
    obtain ⟨ob, v, h1⟩ := f b z
    rw [h1] at e
    exact n _ _ (Option.some.inj e).symm
  obtain ⟨ps, t1, t2, t3⟩ := t p hp
  refine ⟨ps, by rw [drp_out (ou _ _ t1 fun _ _ z => (by cases z))]; exact t1, t2, fun pos cv hc => ?_⟩
  obtain ⟨c, e1, e2⟩ := t3 pos cv hc
  exact ⟨c, e1, by rw [drp_out (ou _ _ e2 fun _ _ z => (by unfold CodeO at z; cases z))]; exact e2⟩
theorem gr_put {T : List NTab} {cs : List Addr} {H H2 : Hp} (f : ∀ c ∈ cs, Fz H c) (t : TabsN T H) (g : Gr T [] (drp cs H) H2) (n : ∀ c ∈ cs, H2 c = Option.none) : Gr T [] H (put cs H H2) := by
  have ou : ∀ b o, H2 b = some o → b ∉ cs := fun b o e z => by rw [n b z] at e; cases e
  refine ⟨fun b o _ e nt => ?_, fun b xs e => ?_, fun b e => ?_, fun p hp => ?_⟩
  · by_cases z : b ∈ cs
    · rw [put_in' z]; exact e
    · rw [put_out z]; exact g.ext b o (by simp) (by rw [drp_out z]; exact e) nt
  · have z : b ∉ cs := fun z => by
      obtain ⟨ob, v, h1, _⟩ := f b z
      rw [h1] at e
      cases e
    rw [put_out z]; exact g.tup b xs (by rw [drp_out z]; exact e)
  · by_cases z : b ∈ cs
    · rw [put_in' z] at e; exact e
    · rw [put_out z] at e
      have := g.back b e
      rw [drp_out z] at this
      exact this
  · obtain ⟨ps, t1, t2, t3⟩ := g.tab p hp
    refine ⟨ps, by rw [put_out (ou _ _ t1)]; exact t1, t2, fun pos cv hc => ?_⟩
    obtain ⟨c, e1, e2⟩ := t3 pos cv hc
    exact ⟨c, e1, by rw [put_out (ou _ _ e2)]; exact e2⟩
/-- f(k, b), f a name that holds such a function -/
def tClo (P : Program) (w : World) (K : PySem.W.Frag) (mg : Str → Option Value) (base : Heap) (T : List NTab) (j i : Nat) (ta : TA) : TE := fun σ H Q => ∃ f ρ, σ[i]? = some (some (.ref f)) ∧ Clo P w K mg base T j ρ H f ∧
  ta σ H fun vs H1 => ∃ k b : Nat, vs = [.int (k : Int), .int (b : Int)] ∧ Gr T [] H H1 ∧ ∀ p H2, Gr T [] H1 H2 → H2 p = some (.tup [.str "name", .int (HF.lift ρ b k : Nat)]) → Q (.ref p) H2
section
variable {P : Program} {w : World} {K : PySem.W.Frag} {mg : Str → Option Value} {base : Heap}
theorem pe_clo {X : Cx} {T : List NTab} {i j k : Nat} {x : Str} {e : Expr} {es : List Expr} {p pos : Pos} {ta : TA} (h1 : X.prog = P) (h2 : X.w = w) (h3 : X.K = K) (h4 : X.mg = mg) (h5 : X.base = base) (hr : Room j X.A) (hk : k ≤ j) (hN : X.N[i]? = some x) (hv : Vis X.env.scope x)
    (ha : PA X (e :: es) ta) (hd : (x == ("__debug__" : Str)) = false := by decide) (hcd : (x == ("__classdict__" : Str)) = false := by decide)
    (he : starEach (e :: es) X.env = (false, eval e X.env) :: starEach es X.env := by rfl) (hpl : (backTo pos (starEach es X.env)).any (·.1) = false := by rfl) :
    PE X (.Call (.Name x p) (e :: es) [] pos) (tClo P w K mg base T k i ta) := by
  subst h1 h2 h3 h4 h5
  refine ⟨fun pins sh σ H Q I h => ?_⟩
  obtain ⟨f, ρ, hs, hc, ht⟩ := h
  obtain ⟨F, ps, fr, ws, sp, Fn, hf, hcd', CT, q⟩ := hc.ex
  refine wpAny_Call_Name_kw (thn ((pe_var (pos := p) hN hv hd hcd).run pins sh σ H (fun v H1 => v = .ref f ∧ H1 = H) I ⟨.ref f, hs, rfl, rfl⟩) fun u s1 ⟨v, H1, I1, r1, q1⟩ => ?_)
  obtain ⟨ev, eH⟩ := q1
  subst ev
  rw [eH] at I1
  obtain rfl : u = Value.ref f := r1
  refine PySem.W.callWith_F (first := []) (fnAt_of I1 hf) (thn (ha.run pos pins s1 σ H _ I1 ht) fun us s2 ⟨vs, H2, I2, r, n, b, ev, g, qq⟩ => ?_) he hpl
  subst ev
  have hf2 := g.ext _ _ (by simp) hf fnO_tbl
  refine ⟨fnAt_of I2 hf2, ?_⟩
  have CT2 := cells_gr g CT
  have fz2 : ∀ c ∈ csOf F.cl, Fz H2 c := fun c hc => (let ⟨y, e⟩ := mem_cs hc; CT2.all y c e)
  show wpAny _ _ (call (.ref f) us) _ _ _
  refine run_clo Fn hr hk I2 hf2 (g.ext _ _ (by simp) hcd' codeO_ne) CT2 r ?_
  refine q H2 g (tabs_drp g.tab fun c hc => (let ⟨ob, _, e, _⟩ := fz2 c hc; ⟨ob, _, e⟩)) n b _ fun p3 H3 g3 e3 nn => ?_
  have g4 := gr_put fz2 g.tab g3 nn
  have np : p3 ∉ csOf F.cl := fun z => by rw [nn p3 z] at e3; cases e3
  refine qq p3 _ g4 ?_
  rw [put_out np]; exact e3
theorem fn_no {k : Nat} {f : Addr} {fd : FuncData} {ps : List Str} {sp : Sp} (no : ∀ vs H Q E, ¬ sp vs H Q E) : FnOk P w K mg base CX0 k f fd ps sp := ⟨fun vs H Q E h => absurd h (no vs H Q E), fun A outer s H args us vs Q E _ _ _ _ h => absurd h (no vs H Q E)⟩
/-- a def with one default: its promise for all arguments given, and for all but the last -/
theorem hasD {d : He.DefD} {x : Str} {ps : List Str} {k : Nat} {sp : Sp} {dx : He.Dv} (S : Cn K mg base) (i j : Nat) (hd : fn[i]? = some d) (hg : fa[j]? = some (.glo x)) (hat : d.at_ = (x, Option.none)) (hdf : d.dfl = [dx]) (hkw : d.kwd = [])
    (hb0 : ∀ (tv : Addr) (kV doc pm : Value) (an : Option Addr) (cdv ct : Value) (us its : List Value), us.length = ps.length → its.length = 1 → ∃ kk, bindArgs (PySem.W.fnOf d.name d.qual d.params d.body d.scope (.ref tv) kV doc pm an cdv ct) ⟨us, []⟩ = seqItems? (.ref tv) >>= kk ∧ kk (some its.toArray) = pure (ps.zip (us ++ its.drop 1)))
    (hb1 : ∀ (tv : Addr) (kV doc pm : Value) (an : Option Addr) (cdv ct : Value) (us its : List Value), us.length = ps.length - 1 → its.length = 1 → ∃ kk, bindArgs (PySem.W.fnOf d.name d.qual d.params d.body d.scope (.ref tv) kV doc pm an cdv ct) ⟨us, []⟩ = seqItems? (.ref tv) >>= kk ∧ kk (some its.toArray) = pure (ps.zip (us ++ its.drop 0)))
    (hp : 1 ≤ ps.length) (mkf : ∀ fd, FunD K d.name d.qual d.params d.body d.scope [dx.v K] [] (He.ga K x) fd → FnOk P w K mg base CX0 k (He.ga K x) fd ps sp) :
    Has P w K mg base x k ps [] sp ∧ Has P w K mg base x k ps [dx.v K] sp := by
  obtain ⟨fd, F⟩ := S.c.def_ i hd
  have e1 : d.dvs K = [dx.v K] := by unfold He.DefD.dvs; rw [hdf]; rfl
  have e2 : d.kws K = [] := by unfold He.DefD.kws; rw [hkw]; rfl
  rw [e1, e2] at F
  have ef : He.fAd K d.at_ = He.ga K x := by rw [hat]; rfl
  rw [ef] at F
  have fo := mkf fd F
  obtain ⟨ds0, v0, b0⟩ := F.binds1 (ps := ps) ps.length 1 (by simp) (by simp) hb0
  obtain ⟨ds1, v1, b1⟩ := F.binds1 (ps := ps) (ps.length - 1) 0 (by simp) (by simp; omega) hb1
  exact ⟨⟨_, fd, ds0, S.glo j hg, F.kp, fo, v0, b0⟩, ⟨_, fd, ds1, S.glo j hg, F.kp, fo, v1, b1⟩⟩
end
section
variable {P : Program} {w : World} {K : PySem.W.Frag} {mg : Str → Option Value} {base : Heap}
def spWith (P : Program) (w : World) (K : PySem.W.Frag) (mg : Str → Option Value) (base : Heap) (T : List NTab) (j n : Nat) : Sp := fun vs H Q _ => ∃ (t : Tm) (v : V) (f : Addr) (ρ : Nat → Nat) (c : Nat), vs = [v, .ref f, .int (c : Int)] ∧ At H t v ∧ Clo P w K mg base T j ρ H f ∧ TabsN T H ∧
  HF.nd t ≤ 4000000 ∧ HF.ht t ≤ n ∧ ∀ v' H', Gr T [] H H' → At H' (HF.ren ρ c t) v' → Q v' H'
theorem sc_with_names : FnScope ["term", "change", "bound", "parts", "many", "inner", "one"] ["term", "change", "bound"] (defScope s_with_names) := ⟨rfl, rfl, rfl, by decide +kernel, rfl, by decide +kernel, by decide +kernel⟩
theorem ok_with1 (S : Cn K mg base) (T : List NTab) (j n : Nat) (ih : Has P w K mg base "with_names" (j + n) ["term", "change", "bound"] [] (spWith P w K mg base T j n)) :
    Has P w K mg base "with_names" (j + n + 1) ["term", "change", "bound"] [] (spWith P w K mg base T j (n + 1)) ∧ Has P w K mg base "with_names" (j + n + 1) ["term", "change", "bound"] [.int 0] (spWith P w K mg base T j (n + 1)) := by
  refine hasD (d := d_with_names) S 1 1 rfl rfl rfl rfl rfl (fun _ _ _ _ _ _ _ us its hl hi => match us, its, hl, hi with | [_, _, _], [_], _, _ => ⟨_, rfl, rfl⟩) (fun _ _ _ _ _ _ _ us its hl hi => match us, its, hl, hi with | [_, _], [_], _, _ => ⟨_, rfl, rfl⟩) (by decide) (fun fd F => F.ok sc_with_names (fun vs H Q E h => ?_) fun cdv A outer s H vs Q E hr h => ?_)
  · obtain ⟨t, v, f, ρ, c, rfl, _⟩ := h
    rfl
  refine ⟨_, PSs.nox (pss_cons (ps_if (ptEq (ixT (pv 0))) (pss_one (ps_ret (pe_clo (P := P) (w := w) (K := K) (mg := mg) (base := base) (T := T) (k := j) rfl rfl rfl rfl rfl hr (by omega) rfl (Or.inr (Or.inl rfl)) (i := 1) (pa_cons (ixT (pv 0)) (pa_cons (pv 2) pa_nil))))) pss_nil) (pss_cons (ps_if (ptEq (ixT (pv 0))) (pss_one (ps_ret (pe_tup (pa_cons pe_str (pa_cons (ixT (pv 0)) (pa_cons (pe_callTy call_tuple_of (by rfl) (S.free 61) (by decide +kernel) (pa_cons (pe_lc (own := [("one", 6)]) (g := (gName 6)) (by rfl) sc_with_names.nd (pi_tup (ixT (pv 0))) (blkOk_by (N := ["term", "change", "bound", "parts", "many", "inner", "one"]) (sc := defScope s_with_names) (by decide +kernel)) (fun _ _ _ _ _ => (pg_name (i := 6) sc_with_names.nd rfl (Or.inl rfl))) (fun _ _ _ _ _ => pts_nil) (fun _ _ _ _ _ => (pe_hs ih hr (by omega) rfl (pa_cons (pv 6) (pa_cons (pv 1) (pa_cons (pv 2) pa_nil)))))) pa_nil)) pa_nil)))))) pss_nil) (pss_cons (ps_setLc (i := 3) (own := [("many", 4), ("inner", 5)]) (g := (gTup K 2 (gCons (gName 4) (gCons (gName 5) gNil)))) (by rfl) sc_with_names.nd rfl rfl (sw_true rfl rfl rfl (by decide +kernel)) (pi_tup (ixT (pv 0))) (blkOk_by (N := ["term", "change", "bound", "parts", "many", "inner", "one"]) (sc := defScope s_with_names) (by decide +kernel)) (fun _ _ _ _ _ => (pg_tup rfl (pgs_cons (pg_name (i := 4) sc_with_names.nd rfl (Or.inl rfl)) (pgs_cons (pg_name (i := 5) sc_with_names.nd rfl (Or.inl rfl)) pgs_nil)))) (fun _ _ _ _ _ => pts_nil) (fun _ _ _ _ _ => (pe_tup (pa_cons (pv 4) (pa_cons (pe_hs ih hr (by omega) rfl (pa_cons (pv 5) (pa_cons (pv 1) (pa_cons (pe_op op_add (pv 2) (pv 4)) pa_nil)))) pa_nil))))) (pss_one (ps_ret (pe_tup (pa_cons pe_str (pa_cons (ixT (pv 0)) (pa_cons (pe_callTy call_tuple_of (by rfl) (S.free 61) (by decide +kernel) (pa_cons (pv 3) pa_nil)) pa_nil))))))))), ?_⟩
  obtain ⟨t, v, f, ρ, c, rfl, ht, hC, hT, hsz, hn, q⟩ := h
  cases t with
  | name k =>
    obtain ⟨a, rfl, h1⟩ := ht
    refine ⟨_, rfl, a, _, 0, _, rfl, rfl, SqT.of h1, rfl, rfl, _, rfl, ift eRf ?_⟩
    refine ⟨f, ρ, rfl, hC, _, rfl, a, _, 1, _, rfl, rfl, SqT.of h1, rfl, _, rfl, k, c, rfl, Gr.refl hT, fun p H2 g e => ?_⟩
    exact q _ H2 g ⟨p, rfl, e⟩
  | hole u ms =>
    obtain ⟨a, b, vs, rfl, h1, h2, h3⟩ := ht
    have h5 := h3.len
    rw [nd_hole] at hsz
    refine ⟨_, rfl, a, _, 0, _, rfl, rfl, SqT.of h1, rfl, rfl, _, rfl, iff' eHN ?_⟩
    refine ⟨_, rfl, a, _, 0, _, rfl, rfl, SqT.of h1, rfl, rfl, _, rfl, ift eRf ?_⟩
    refine ⟨_, rfl, a, _, 1, _, rfl, rfl, SqT.of h1, rfl, _, rfl, a, _, 2, _, rfl, rfl, SqT.of h1, rfl, b, rfl, ⟨_, SqT.of h2⟩, fun D hD => ?_⟩
    refine lc_mapT (T := T) (K := K) (a := b) (xs := vs) (fun H i y => ∃ k, ms[i]? = some k ∧ At H (.name (HF.lift ρ c k)) y) hT hD (SqT.of h2) (szl (by omega)) (fun H H' i y g ⟨z, e, p⟩ => ⟨z, e, p.mono g⟩)
      (fun H i y acc e ⟨z, e2, p⟩ l => ⟨z, e2, p.upd e⟩) (fun i x H' Q' Pz hx g hq => ?_) fun H' ys g hy hlen hr' => ?_
    · obtain ⟨k, e, p⟩ := h3.get hx
      refine ⟨rfl, yesT ?_⟩
      exact ⟨_, rfl, _, rfl, _, rfl, .name k, x, f, ρ, c, rfl, p.mono g, hC.mono g, g.tab, (by show 1 ≤ 4000000; decide), (by show 1 ≤ n; have h9 : HF.ht (HF.T.hole u ms) = 2 := rfl; omega), fun v' H2 g2 at2 => hq _ _ g2 ⟨k, e, at2⟩⟩
    · refine ⟨D, ys, rfl, .inl ⟨SqL.of hy, fun l hl => ?_⟩⟩
      have g2 := Gr.new (X := []) (o := .tup ys) g hl
      refine ⟨szl (by show 3 ≤ 10000000; decide), fun p hp => ?_⟩
      have g3 := Gr.new (X := []) (o := .tup [.str "hole", .str u, .ref l]) g2 hp
      refine q _ _ g3 ⟨p, l, ys, rfl, upd_same, ?_, ?_⟩
      · rw [upd_ne (ne_of_none upd_same hp)]; exact upd_same
      · refine (AtN.of (by rw [hlen, h5, List.length_map]) fun i y ej => ?_).mono ((Gr.new0 (X := []) (o := .tup ys) g.tab hl).new hp)
        obtain ⟨k, e1, p1⟩ := hr' i y ej
        exact ⟨_, by rw [List.getElem?_map, e1] <;> rfl, p1⟩
  | sign u ps =>
    obtain ⟨a, b, vs, rfl, h1, h2, h3⟩ := ht
    have h4 := atL_ps.mp h3
    have h5 := h4.len
    have h6 := tsL_len ps
    rw [nd_sign] at hsz
    rw [ht_sign] at hn
    refine ⟨_, rfl, a, _, 0, _, rfl, rfl, SqT.of h1, rfl, rfl, _, rfl, iff' eSN ?_⟩
    refine ⟨_, rfl, a, _, 0, _, rfl, rfl, SqT.of h1, rfl, rfl, _, rfl, iff' eSH ?_⟩
    refine ⟨_, rfl, a, _, 2, _, rfl, rfl, SqT.of h1, rfl, b, rfl, ⟨_, SqT.of h2⟩, fun D hD => ?_⟩
    refine lc_mapT (T := T) (K := K) (a := b) (xs := vs) (fun H i y => ∃ z, (tsL ps)[i]? = some z ∧ AtP H (z.1, HF.ren ρ (c + z.1) z.2) y) hT hD (SqT.of h2) (szl (by omega)) (fun H H' i y g ⟨z, e, p⟩ => ⟨z, e, p.mono g⟩)
      (fun H i y acc e ⟨z, e2, p⟩ l => ⟨z, e2, p.upd e⟩) (fun i x H' Q' Pz hx g hq => ?_) fun H' ys g hy hlen hr' => ?_
    · obtain ⟨z, e, p⟩ := h4.get hx
      obtain ⟨cc, tv, rfl, p1, p2⟩ := p.mono g
      obtain ⟨hh, hnd⟩ := htL_get e
      refine ⟨cc, _, rfl, SqT.of p1, rfl, _, _, rfl, _, _, rfl, rfl, rfl, yesT ?_⟩
      refine ⟨_, rfl, _, rfl, _, rfl, _, rfl, _, rfl, _, _, rfl, rfl, z.2, tv, f, ρ, c + z.1, rfl, p2, hC.mono g, g.tab, by omega, by omega, fun v' H2 g2 at2 => ?_⟩
      refine ⟨szl (by show 2 ≤ 10000000; decide), fun p hp => ?_⟩
      have g3 := Gr.new (X := []) (o := .tup [.int (z.1 : Int), v']) g2 hp
      exact hq _ _ g3 ⟨z, e, p, v', rfl, upd_same, at2.mono (Gr.new0 (X := []) g2.tab hp)⟩
    · refine ⟨_, rfl, a, _, 1, _, rfl, rfl, SqT.of (g.tup _ _ h1), rfl, _, rfl, D, ys, rfl, .inl ⟨SqL.of hy, fun l hl => ?_⟩⟩
      have g2 := Gr.new (X := []) (o := .tup ys) g hl
      refine ⟨szl (by show 3 ≤ 10000000; decide), fun p hp => ?_⟩
      have g3 := Gr.new (X := []) (o := .tup [.str "sign", .str u, .ref l]) g2 hp
      refine q _ _ g3 ⟨p, l, ys, rfl, upd_same, ?_, ?_⟩
      · rw [upd_ne (ne_of_none upd_same hp)]; exact upd_same
      · refine atL_ps.mpr ((AtPs.of (by rw [hlen, h5, tsL_renL, List.length_map]) fun i y ej => ?_).mono ((Gr.new0 (X := []) (o := .tup ys) g.tab hl).new hp))
        obtain ⟨z, e1, p1⟩ := hr' i y ej
        exact ⟨_, by rw [tsL_renL, List.getElem?_map, e1] <;> rfl, p1⟩
theorem ok_with0 (S : Cn K mg base) (T : List NTab) (j : Nat) : Has P w K mg base "with_names" (j + 0) ["term", "change", "bound"] [] (spWith P w K mg base T j 0) ∧ Has P w K mg base "with_names" (j + 0) ["term", "change", "bound"] [.int 0] (spWith P w K mg base T j 0) := by
    refine hasD (d := d_with_names) S 1 1 rfl rfl rfl rfl rfl (fun _ _ _ _ _ _ _ us its hl hi => match us, its, hl, hi with | [_, _, _], [_], _, _ => ⟨_, rfl, rfl⟩) (fun _ _ _ _ _ _ _ us its hl hi => match us, its, hl, hi with | [_, _], [_], _, _ => ⟨_, rfl, rfl⟩) (by decide) (fun fd F => fn_no fun vs H Q E h => ?_)
    obtain ⟨t, v, f, ρ, c, _, _, _, _, _, hn, _⟩ := h
    have := HF.ht_pos t
    omega
theorem ok_with (S : Cn K mg base) (T : List NTab) (j : Nat) : ∀ n, Has P w K mg base "with_names" (j + n) ["term", "change", "bound"] [] (spWith P w K mg base T j n) ∧ Has P w K mg base "with_names" (j + n) ["term", "change", "bound"] [.int 0] (spWith P w K mg base T j n)
  | 0 => ok_with0 S T j
  | n + 1 => ok_with1 S T j n (ok_with S T j n).1
end

end HW
end
section
set_option Elab.async false
set_option linter.all false
set_option maxRecDepth 100000
set_option maxHeartbeats 4000000
namespace HW
open PySem PySem.Spec PyProof.Rows L2 NdefX LamX
/-! ### raised, put_in -/
def qOff : Str := (("raised" : Str) ++ (".<locals>." : Str)) ++ ("put_off" : Str)
def qRep : Str := (("put_in" : Str) ++ (".<locals>." : Str)) ++ ("replaced" : Str)
def TT (K : PySem.W.Frag) : List NTab := [((He.cT K ("raised", none)).2, fun _ _ => qOff), ((He.cT K ("put_in", none)).2, fun _ _ => qRep)]
abbrev st_off : Stmt := (defBody s_raised).getD 0 (.Pass ⟨0, 0, 0, 0⟩)
abbrev st_rep : Stmt := (defBody s_put_in).getD 1 (.Pass ⟨0, 0, 0, 0⟩)
def rsd (more inner x : Nat) : Nat := if x < inner then x else x + more
def pin (ns : List Nat) (x : Nat) : Nat := if x < ns.length then HF.sel ns x else x - ns.length
theorem atTN {H H1 : Hp} (g : ∀ b xs, H b = some (.tup xs) → H1 b = some (.tup xs)) : ∀ (ns : List Nat) (vs : List V), AtN H ns vs → AtN H1 ns vs
  | [], _, h => h
  | k :: r, _, ⟨a, vs', e, h1, h2⟩ => ⟨a, vs', e, g _ _ h1, atTN g r vs' h2⟩
mutual
theorem atT {H H1 : Hp} (g : ∀ b xs, H b = some (.tup xs) → H1 b = some (.tup xs)) : ∀ (t : HF.T Str) (v : V), At H t v → At H1 t v
  | .name k, _, ⟨a, e, h⟩ => ⟨a, e, g _ _ h⟩
  | .sign u ps, _, ⟨a, b, vs, e, h1, h2, h3⟩ => ⟨a, b, vs, e, g _ _ h1, g _ _ h2, atTL g ps vs h3⟩
  | .hole u ns, _, ⟨a, b, vs, e, h1, h2, h3⟩ => ⟨a, b, vs, e, g _ _ h1, g _ _ h2, atTN g ns vs h3⟩
theorem atTL {H H1 : Hp} (g : ∀ b xs, H b = some (.tup xs) → H1 b = some (.tup xs)) : ∀ (t : HF.Ts Str) (vs : List V), AtL H t vs → AtL H1 t vs
  | .nil, _, h => h
  | .cons m t r, _, ⟨c, tv, vs', e, h1, h2, h3⟩ => ⟨c, tv, vs', e, g _ _ h1, atT g t tv h2, atTL g r vs' h3⟩
end
section
variable {P : Program} {w : World} {K : PySem.W.Frag} {mg : Str → Option Value} {base : Heap}
theorem gr_ndef {T : List NTab} {H H1 : Hp} (e : ExtN H H1) (b : ∀ b, H1 b = Option.none → H b = Option.none) (t : TabsN T H1) : Gr T [] H H1 := ⟨fun c o _ h n => e c o h n, fun c xs h => e c _ h fun _ z => (by cases z), b, t⟩
/-- a call of a def while the cells of a function made here are tracked -/
def tTrk (sp : Sp) (dv : List V) (cl : List (Str × Addr)) (fr : List Str) (js : List Nat) (t : TA) : TE := fun σ H Q => t σ H fun vs H0 => ∀ H1, CellsT cl fr (js.map (slotAt σ)) H1 → (∀ b, b ∉ csOf cl → H1 b = H0 b) → (∀ c ∈ csOf cl, H0 c = Option.none) →
  sp (vs ++ dv) H1 (fun v H2 => (∀ c ∈ csOf cl, ∃ ob, H2 c = some (.frz ob (.own 0))) → Q v (drp (csOf cl) H2)) E0
theorem pe_trk {X : Cx} {x : Str} {k j : Nat} {ps : List Str} {dv : List V} {sp : Sp} {cl : List (Str × Addr)} {fr : List Str} {js : List Nat} {e : Expr} {es : List Expr} {p pos : Pos} {t : TA} (h : Has X.prog X.w X.K X.mg X.base x k ps dv sp) (hr : Room j X.A) (hk : k ≤ j) (hg : Gl X x)
    (hfn : ∀ x, X.fn x = true) (cp : X.Ok → Caps X cl fr js) (ha : PA X (e :: es) t)
    (hdb : (x == ("__debug__" : Str)) = false := by decide) (he : starEach (e :: es) X.env = (false, eval e X.env) :: starEach es X.env := by rfl) (hpl : (backTo pos (starEach es X.env)).any (·.1) = false := by rfl) :
    PE X (.Call (.Name x p) (e :: es) [] pos) (tTrk sp dv cl fr js t) := by
  obtain ⟨f, fd, ds, a, b, c, d, q⟩ := h.ex
  refine ⟨fun pins sh σ H Q I hh => ?_⟩
  refine wpAny_Call_Name_kw (ld_glob I hg a ?_ hdb)
  refine PySem.W.callWith_K (h₀ := X.base) I.ok.mod.kin b (thn (ha.run pos pins sh σ H _ I hh) fun us s1 ⟨vs, H1, I1, r, qq⟩ => ⟨I1.kIn, ?_⟩) he hpl
  exact run_trk c (hr.mono hk) q d hfn (cp I1.ok) I1 r qq
/-! put_off -/
def spOff (T : List NTab) : List (Option V) → Sp := fun ws vs H Q _ => ∃ k b more inner : Nat, ws = [some (.int (inner : Int)), some (.int (more : Int))] ∧ vs = [.int (k : Int), .int (b : Int)] ∧ TabsN T H ∧
  ∀ p H2, Gr T [] H H2 → H2 p = some (.tup [.str "name", .int (HF.lift (rsd more inner) b k : Nat)]) → Q (.ref p) H2
theorem nsc_off : NScope ["name", "bound", "inner", "more"] ["name", "bound"] ["inner", "more"] (C8.fnScope st_off) := nscope_by (by decide +kernel)
theorem ok_off (T : List NTab) (f c : Addr) (cl : List (Str × Addr)) : NOk P w K mg base CX0 1 f (NF.of st_off "put_off" qOff cl c) ["name", "bound"] ["inner", "more"] (spOff T) := by
  refine nok_of (N := ["name", "bound", "inner", "more"]) nsc_off (fun doc pm ctv us hl => match us, hl with | [_, _], _ => rfl) (fun ws vs H Q E h => ?_) (fun A outer s H vs ws Q E hr hf hc hw h => ?_)
  · obtain ⟨k, b, m, i, _, rfl, _⟩ := h
    rfl
  refine ⟨_, pss_cons (ps_if (pt_cmpR op_lt (pv 0) (pe_op op_add (pv 2) (pv 1)) (nomark _)) (pss_one (ps_ret (pe_tup (pa_cons pe_str (pa_cons (pv 0) pa_nil))))) pss_nil) (pss_one (ps_ret (pe_tup (pa_cons pe_str (pa_cons (pe_op op_add (pv 0) (pv 3)) pa_nil))))), ?_⟩
  obtain ⟨k, b, m, i, rfl, rfl, hT, q⟩ := h
  refine ⟨_, rfl, _, rfl, _, rfl, _, _, rfl, rfl, _, _, rfl, rfl, _, rfl, ite2 (fun hc => ?_) (fun hc => ?_)⟩
  · have hc' : (k : Int) < (i : Int) + (b : Int) := of_decide_eq_true hc
    refine ⟨_, rfl, szl (by show 2 ≤ 10000000; decide), fun p hp => q p _ (Gr.new0 hT hp) ?_⟩
    have : HF.lift (rsd m i) b k = k := by unfold HF.lift rsd; split; (· rfl); split <;> omega
    rw [upd_same, this]
  · have hc' : ¬ (k : Int) < (i : Int) + (b : Int) := of_decide_eq_false (Bool.eq_false_iff.mpr hc)
    refine ⟨_, rfl, _, rfl, _, _, rfl, rfl, szl (by show 2 ≤ 10000000; decide), fun p hp => q p _ (Gr.new0 hT hp) ?_⟩
    have : HF.lift (rsd m i) b k = k + m := by unfold HF.lift rsd; split; (· omega); split <;> omega
    rw [upd_same, this] <;> rfl
/-! raised -/
def spRaised (T : List NTab) (n : Nat) : Sp := fun vs H Q _ => ∃ (t : Tm) (v : V) (more inner : Nat), vs = [v, .int (more : Int), .int (inner : Int)] ∧ At H t v ∧ TabsN T H ∧ HF.nd t ≤ 4000000 ∧ HF.ht t ≤ n ∧ ∀ v' H', Gr T [] H H' → At H' (HF.ren (rsd more inner) 0 t) v' → Q v' H'
theorem sc_raised : FnScope ["term", "more", "inner", "put_off"] ["term", "more", "inner"] (defScope s_raised) := ⟨rfl, rfl, rfl, by decide +kernel, rfl, by decide +kernel, by decide +kernel⟩
theorem tt_ne (S : Cn K mg base) : (He.cT K ("raised", none)).2 ≠ (He.cT K ("put_in", none)).2 := of_decide_eq_true (Bool.and_eq_true_iff.mp S.al).2
theorem free_off : ∀ y ∈ (C8.fnScope st_off).names, y.2 = .free → (defScope s_raised).names.lookup y.1 = some .cell ∨ (defScope s_raised).names.lookup y.1 = some .free := by decide +kernel
theorem mem_off : ∀ y ∈ (["inner", "more"] : List Str), (y, NameKind.free) ∈ (C8.fnScope st_off).names := by decide +kernel
theorem gr_back {T : List NTab} {cs : List Addr} {H H1 Hp1 H2 : Hp} (g1 : Gr T [] H H1) (out : ∀ b, b ∉ cs → Hp1 b = H1 b) (nn : ∀ c ∈ cs, H1 c = Option.none) (g2 : Gr T [] Hp1 H2) (fz : ∀ c ∈ cs, ∃ ob, H2 c = some (.frz ob (.own 0))) : Gr T [] H (drp cs H2) := by
  have sm : ∀ b o, H1 b = some o → b ∉ cs := fun b o e z => by rw [nn b z] at e; cases e
  refine ⟨fun b o hx e n => ?_, fun b xs e => ?_, fun b e => ?_, tabs_drp g2.tab fun c hc => (let ⟨ob, e⟩ := fz c hc; ⟨ob, _, e⟩)⟩
  · have e1 := g1.ext b o hx e n
    have z := sm b o e1
    rw [drp_out z]; exact g2.ext b o hx (by rw [out b z]; exact e1) n
  · have e1 := g1.tup b xs e
    have z := sm b _ e1
    rw [drp_out z]; exact g2.tup b xs (by rw [out b z]; exact e1)
  · by_cases z : b ∈ cs
    · exact g1.back b (nn b z)
    · rw [drp_out z] at e
      have := g2.back b e
      rw [out b z] at this
      exact g1.back b this
theorem gr_trk {T : List NTab} {cs : List Addr} {H H1 : Hp} (out : ∀ b, b ∉ cs → H1 b = H b) (nn : ∀ c ∈ cs, H c = Option.none) (t : TabsN T H) : ∀ b o, H b = some o → H1 b = some o := fun b o e => by
  rw [out b fun z => by rw [nn b z] at e; cases e]
  exact e
theorem ok_raised (S : Cn K mg base) (n : Nat) (hW : Has P w K mg base "with_names" (1 + n) ["term", "change", "bound"] [.int 0] (spWith P w K mg base (TT K) 1 n)) :
    Has P w K mg base "raised" (1 + n + 1) ["term", "more", "inner"] [] (spRaised (TT K) n) ∧ Has P w K mg base "raised" (1 + n + 1) ["term", "more", "inner"] [.int 0] (spRaised (TT K) n) := by
  refine hasD (d := d_raised) S 2 2 rfl rfl rfl rfl rfl (fun _ _ _ _ _ _ _ us its hl hi => match us, its, hl, hi with | [_, _, _], [_], _, _ => ⟨_, rfl, rfl⟩) (fun _ _ _ _ _ _ _ us its hl hi => match us, its, hl, hi with | [_, _], [_], _, _ => ⟨_, rfl, rfl⟩) (by decide) (fun fd F => ?_)
  obtain ⟨oc, od, dV, kV, doc, pm, an, cdv, ct, osl, rfl, lk, hcd, _, _⟩ := F.ex
  obtain ⟨c, rfl⟩ := He.codeIn_ref hcd
  have hc : He.codeOf K ("raised", none) = c := He.codeOf_eq (p := ("raised", none)) lk rfl
  have TB : TabB base mg c (He.cT K ("raised", none)).2 := by
    have := S.tb ("raised", none) (by decide)
    rw [show (He.cT K ("raised", none)).1 = c from hc] at this
    exact this
  refine fn_of lk hcd sc_raised (fun vs H Q E h => ?_) fun A outer s H vs Q E hr h => ?_
  · obtain ⟨t, v, more, inner, rfl, _⟩ := h
    rfl
  refine ⟨_, PSs.nox (pss_cons (ps_ndefMS (T := TT K) (nm := fun _ _ => qOff) (i := 3) (name := "put_off") (st := st_off) rfl TB rfl (List.mem_cons_self) rfl (fun p hp e => ?_) free_off rfl rfl rfl sc_raised.nd rfl (Or.inl rfl) (Or.inl rfl))
    (pss_one (ps_ret (pe_trk (js := [2, 1]) (fr := ["inner", "more"]) hW hr (by omega) rfl (fun _ => rfl) (fun ok => Caps.made ok free_off mem_off rfl) (pa_cons (pv 0) (pa_cons (pv 3) pa_nil)))))), ?_⟩
  · rcases List.mem_cons.mp hp with z | z
    · rw [z]
    · rcases List.mem_cons.mp z with z | z
      · rw [z] at e; exact absurd e.symm (tt_ne S)
      · cases z
  obtain ⟨t, v, more, inner, rfl, ht, hT, hsz, hn, q⟩ := h
  refine ⟨hT, fun f c' H1 e1 b1 t1 f0 f1 c1 => ?_⟩
  have g1 := gr_ndef e1 b1 t1
  refine ⟨_, rfl, _, rfl, fun Hp1 CT out nn => ?_⟩
  have up := gr_trk out nn t1
  have tup : TabsN (TT K) Hp1 := t1.ext up
  refine ⟨t, v, f, rsd more inner, 0, rfl, atT (fun b xs e => up _ _ (g1.tup _ _ e)) t v ht, ?_, tup, hsz, hn, fun v' H2 g2 at2 fz => ?_⟩
  · refine ⟨⟨_, _, _, _, spOff (TT K), ok_off (TT K) f c' _, up _ _ f1, up _ _ c1, CT, fun Hc gc tc k b Q hq => ?_⟩⟩
    exact ⟨k, b, more, inner, rfl, rfl, tc, hq⟩
  · refine q v' _ (gr_back g1 out nn g2 fz) (atT (fun b xs e => ?_) _ v' at2)
    rw [drp_out fun z => (by obtain ⟨ob, e2⟩ := fz b z; rw [e] at e2; cases e2)]
    exact e
end

end HW
end
section
set_option Elab.async false
set_option linter.all false
set_option maxRecDepth 100000
set_option maxHeartbeats 4000000
namespace HW
open PySem PySem.Spec PyProof.Rows L2 NdefX LamX
/-! ### put_in -/
theorem nsc_rep : NScope ["name", "bound", "many", "some"] ["name", "bound"] ["many", "some"] (C8.fnScope st_rep) := nscope_by (by decide +kernel)
theorem free_rep : ∀ y ∈ (C8.fnScope st_rep).names, y.2 = .free → (defScope s_put_in).names.lookup y.1 = some .cell ∨ (defScope s_put_in).names.lookup y.1 = some .free := by decide +kernel
theorem mem_rep : ∀ y ∈ (["many", "some"] : List Str), (y, NameKind.free) ∈ (C8.fnScope st_rep).names := by decide +kernel
section
variable {P : Program} {w : World} {K : PySem.W.Frag} {mg : Str → Option Value} {base : Heap}
def spRep (T : List NTab) : List (Option V) → Sp := fun ws vs H Q _ => ∃ (k b : Nat) (l : Addr) (xs : List V) (ns : List Nat), ws = [some (.int (ns.length : Int)), some (.ref l)] ∧ vs = [.int (k : Int), .int (b : Int)] ∧ H l = some (.lst xs) ∧ AtN H ns xs ∧ TabsN T H ∧
  ∀ p H2, Gr T [] H H2 → H2 p = some (.tup [.str "name", .int (HF.lift (pin ns) b k : Nat)]) → Q (.ref p) H2
theorem ok_rep (S : Cn K mg base) (T : List NTab) (hR : Has P w K mg base "raised" 3 ["term", "more", "inner"] [.int 0] (spRaised T 1)) (f c : Addr) (cl : List (Str × Addr)) : NOk P w K mg base CX0 4 f (NF.of st_rep "replaced" qRep cl c) ["name", "bound"] ["many", "some"] (spRep T) := by
  refine nok_of (N := ["name", "bound", "many", "some"]) nsc_rep (fun doc pm ctv us hl => match us, hl with | [_, _], _ => rfl) (fun ws vs H Q E h => ?_) (fun A outer s H vs ws Q E hr hf hc hw h => ?_)
  · obtain ⟨k, b, l, xs, ns, _, rfl, _⟩ := h
    rfl
  refine ⟨_, pss_cons (ps_if (pt_cmpR op_lt (pv 0) (pv 1) (nomark _)) (pss_one (ps_ret (pe_tup (pa_cons pe_str (pa_cons (pv 0) pa_nil))))) pss_nil)
    (pss_cons (ps_if (pt_cmpR op_lt (pv 0) (pe_op op_add (pv 1) (pv 2)) (nomark _)) (pss_one (ps_ret (pe_hs hR hr (by omega) rfl (pa_cons (pe_ix ix_list (pv 3) (pe_op op_add (pe_op op_sub (pe_op op_sub (pv 2) pe_int) (pv 0)) (pv 1)) (fun _ _ => rfl)) (pa_cons (pv 1) pa_nil))))) pss_nil)
    (pss_one (ps_ret (pe_tup (pa_cons pe_str (pa_cons (pe_op op_sub (pv 0) (pv 2)) pa_nil)))))), ?_⟩
  obtain ⟨k, b, l, xs, ns, rfl, rfl, hl, hat, hT, q⟩ := h
  refine ⟨_, rfl, _, rfl, _, _, rfl, rfl, _, rfl, ite2 (fun hc => ?_) (fun hc => ?_)⟩
  · have hc' : (k : Int) < (b : Int) := of_decide_eq_true hc
    refine ⟨_, rfl, szl (by show 2 ≤ 10000000; decide), fun p hp => q p _ (Gr.new0 hT hp) ?_⟩
    have : HF.lift (pin ns) b k = k := by unfold HF.lift; rw [if_pos (by omega)]
    rw [upd_same, this]
  have hc' : ¬ (k : Int) < (b : Int) := of_decide_eq_false (Bool.eq_false_iff.mpr hc)
  refine ⟨_, rfl, _, rfl, _, rfl, _, _, rfl, rfl, _, _, rfl, rfl, _, rfl, ite2 (fun hd => ?_) (fun hd => ?_)⟩
  · have hd' : (k : Int) < (b : Int) + (ns.length : Int) := of_decide_eq_true hd
    have hlen := hat.len
    have hi : ns.length - 1 - (k - b) < xs.length := by omega
    obtain ⟨s', e1, e2⟩ := hat.get (i := ns.length - 1 - (k - b)) (v := xs[ns.length - 1 - (k - b)]) (List.getElem?_eq_getElem hi)
    refine ⟨_, rfl, _, rfl, _, _, rfl, rfl, _, rfl, _, _, rfl, rfl, _, rfl, _, _, rfl, rfl, l, xs, _, _, rfl, rfl, SqL.of hl, at_of (j := ns.length - 1 - (k - b)) (by omega) (List.getElem?_eq_getElem hi), ?_⟩
    refine ⟨_, rfl, .name s', _, b, 0, rfl, e2, hT, (by show 1 ≤ 4000000; decide), Nat.le_refl 1, fun v' H' g at2 => ?_⟩
    obtain ⟨a, rfl, h1⟩ := at2
    refine q a H' g ?_
    rw [h1]
    have e3 : HF.lift (rsd b 0) 0 s' = s' + b := by unfold HF.lift rsd; simp
    have e4 : HF.lift (pin ns) b k = s' + b := by
      unfold HF.lift pin HF.sel
      rw [if_neg (by omega), if_pos (by omega), List.getD_eq_getElem?_getD, e1]
      rfl
    rw [e3, e4]
  · have hd' : ¬ (k : Int) < (b : Int) + (ns.length : Int) := of_decide_eq_false (Bool.eq_false_iff.mpr hd)
    refine ⟨_, rfl, _, rfl, _, _, rfl, rfl, szl (by show 2 ≤ 10000000; decide), fun p hp => q p _ (Gr.new0 hT hp) ?_⟩
    have : HF.lift (pin ns) b k = k - ns.length := by unfold HF.lift pin; rw [if_neg (by omega), if_neg (by omega)]; omega
    rw [upd_same, this]
    exact congrArg (fun z => some (HO.tup [V.str "name", V.int z])) (by omega)
def spPut (T : List NTab) (n : Nat) : Sp := fun vs H Q _ => ∃ (t : Tm) (v : V) (l : Addr) (xs : List V) (ns : List Nat), vs = [v, .ref l] ∧ At H t v ∧ H l = some (.lst xs) ∧ AtN H ns xs ∧ TabsN T H ∧ HF.nd t ≤ 4000000 ∧ HF.ht t ≤ n ∧ ∀ v' H', Gr T [] H H' → At H' (HF.ren (pin ns) 0 t) v' → Q v' H'
theorem sc_put : FnScope ["term", "some", "replaced", "many"] ["term", "some"] (defScope s_put_in) := ⟨rfl, rfl, rfl, by decide +kernel, rfl, by decide +kernel, by decide +kernel⟩
theorem ok_put (S : Cn K mg base) (n : Nat) (hR : Has P w K mg base "raised" 3 ["term", "more", "inner"] [.int 0] (spRaised (TT K) 1)) (hW : Has P w K mg base "with_names" (4 + n) ["term", "change", "bound"] [.int 0] (spWith P w K mg base (TT K) 4 n)) :
    Has P w K mg base "put_in" (4 + n + 1) ["term", "some"] [] (spPut (TT K) n) := by
  obtain ⟨fd, F⟩ := S.c.def_ 3 (d := d_put_in) rfl
  have ef : He.fAd K d_put_in.at_ = He.ga K "put_in" := rfl
  rw [ef] at F
  have bi : Binds K fd ["term", "some"] [] := F.bindsN fun _ _ _ _ _ _ us hl => match us, hl with | [_, _], _ => rfl
  refine ⟨_, fd, [], S.glo 3, F.kp, ?_, .nil, bi⟩
  obtain ⟨oc, od, dV, kV, doc, pm, an, cdv, ct, osl, rfl, lk, hcd, _, _⟩ := F.ex
  obtain ⟨c, rfl⟩ := He.codeIn_ref hcd
  have hc : He.codeOf K ("put_in", none) = c := He.codeOf_eq (p := ("put_in", none)) lk rfl
  have TB : TabB base mg c (He.cT K ("put_in", none)).2 := by
    have := S.tb ("put_in", none) (by decide)
    rw [show (He.cT K ("put_in", none)).1 = c from hc] at this
    exact this
  refine fn_of lk hcd sc_put (fun vs H Q E h => ?_) fun A outer s H vs Q E hr h => ?_
  · obtain ⟨t, v, l, xs, ns, rfl, _⟩ := h
    rfl
  refine ⟨_, PSs.nox (pss_cons (ps_set (i := 3) sc_put.nd rfl (Or.inr rfl) (pe_callB call_len_seq (by rfl) (S.free 58) (by decide +kernel) (pa_cons (pv 1) pa_nil)))
    (pss_cons (ps_ndefMS (T := TT K) (nm := fun _ _ => qRep) (i := 2) (name := "replaced") (st := st_rep) rfl TB rfl (List.mem_cons_of_mem _ List.mem_cons_self) rfl (fun p hp e => ?_) free_rep rfl rfl rfl sc_put.nd rfl (Or.inl rfl) (Or.inl rfl))
    (pss_one (ps_ret (pe_trk (js := [3, 1]) (fr := ["many", "some"]) hW hr (by omega) rfl (fun _ => rfl) (fun ok => Caps.made ok free_rep mem_rep rfl) (pa_cons (pv 0) (pa_cons (pv 2) pa_nil))))))), ?_⟩
  · rcases List.mem_cons.mp hp with z | z
    · rw [z] at e; exact absurd e (tt_ne S)
    · rcases List.mem_cons.mp z with z | z
      · rw [z]
      · cases z
  obtain ⟨t, v, l, xs, ns, rfl, ht, hl, hat, hT, hsz, hn, q⟩ := h
  have hlen := hat.len
  refine ⟨_, rfl, l, _, rfl, .inl (SqL.of hl), ?_⟩
  refine ⟨hT, fun f c' H1 e1 b1 t1 f0 f1 c1 => ?_⟩
  have g1 := gr_ndef e1 b1 t1
  refine ⟨_, rfl, _, rfl, fun Hp1 CT out nn => ?_⟩
  have up := gr_trk out nn t1
  have tup : TabsN (TT K) Hp1 := t1.ext up
  have hl1 : Hp1 l = some (.lst xs) := up _ _ (g1.lst hl)
  have at1 : AtN Hp1 ns xs := atTN (fun b xs e => up _ _ (g1.tup _ _ e)) ns xs hat
  have fz1 : ∀ z ∈ csOf (cloFrom (envOfC d_put_in.qual d_put_in.scope s.heap.objs.size (He.ga K "put_in") (.ref c)).cells (C8.fnScope st_rep).names []), ∃ ob v, Hp1 z = some (.frz ob (.own 0)) ∧ ob.data = .cell v := fun z hz => (let ⟨y, e⟩ := mem_cs hz; CT.all y z e)
  refine ⟨t, v, f, pin ns, 0, rfl, atT (fun b xs e => up _ _ (g1.tup _ _ e)) t v ht, ?_, tup, hsz, hn, fun v' H2 g2 at2 fz => ?_⟩
  · refine ⟨⟨_, _, _, _, spRep (TT K), ok_rep S (TT K) hR f c' _, up _ _ f1, up _ _ c1, CT, fun Hc gc tc k b Q hq => ?_⟩⟩
    have nin : ∀ b o, Hp1 b = some o → (∀ ob u, o ≠ .frz ob u) → b ∉ csOf (cloFrom (envOfC d_put_in.qual d_put_in.scope s.heap.objs.size (He.ga K "put_in") (.ref c)).cells (C8.fnScope st_rep).names []) := fun b o e n z => by
      obtain ⟨ob, v, e2, _⟩ := fz1 b z
      rw [e] at e2
      exact n _ _ (Option.some.inj e2)
    refine ⟨k, b, l, xs, ns, ?_, rfl, ?_, ?_, tc, hq⟩
    · rw [← hlen] <;> rfl
    · show drp (csOf (cloFrom (envOfC d_put_in.qual d_put_in.scope s.heap.objs.size (He.ga K "put_in") (.ref c)).cells (C8.fnScope st_rep).names [])) Hc l = _
      rw [drp_out (nin l _ hl1 fun _ _ z => (by cases z))]
      exact gc.lst hl1
    · refine atTN (H := Hp1) (fun b ys e => ?_) ns xs at1
      show drp (csOf (cloFrom (envOfC d_put_in.qual d_put_in.scope s.heap.objs.size (He.ga K "put_in") (.ref c)).cells (C8.fnScope st_rep).names [])) Hc b = _
      rw [drp_out (nin b _ e fun _ _ z => (by cases z))]
      exact gc.tup _ _ e
  · refine q v' _ (gr_back g1 out nn g2 fz) (atT (fun b xs e => ?_) _ v' at2)
    rw [drp_out fun z => (by obtain ⟨ob, e2⟩ := fz b z; rw [e] at e2; cases e2)]
    exact e
end

end HW
end
section
set_option Elab.async false
set_option linter.all false
set_option maxRecDepth 100000
set_option maxHeartbeats 4000000
namespace HW
open PySem PySem.Spec PyProof.Rows L2
theorem nodup_len {α : Type} [DecidableEq α] : ∀ (l m : List α), l.Nodup → (∀ x ∈ l, x ∈ m) → l.length ≤ m.length
  | [], _, _, _ => Nat.zero_le _
  | a :: r, m, hd, hs => by
    obtain ⟨h1, h2⟩ := List.nodup_cons.mp hd
    have ha := hs a List.mem_cons_self
    have := nodup_len r (m.erase a) h2 fun x hx => (List.mem_erase_of_ne (fun z => h1 (by rw [← z]; exact hx))).mpr (hs x (List.mem_cons_of_mem _ hx))
    rw [List.length_erase_of_mem ha] at this
    have := List.length_pos_of_mem ha
    rw [List.length_cons]; omega
def kyS (e : Int × Value) : Str := match e.2 with | .str k _ => k | _ => Str.empty
def GoodS (w : World) (e : Int × Value) : Prop := ∃ k tk, e.2 = Value.str k tk ∧ e.1 = hashStr w k
def SetX (w : World) (h : Heap) (a : Addr) (S : Str → Bool) (n : Nat) : Prop :=
  ∃ o es ep t, h.get? a = some o ∧ o.ExactSet ∧ o.data = .set es ep t ∧ (∀ e ∈ es.toList, GoodS w e) ∧ (es.toList.map kyS).Nodup ∧ (∀ k, S k = true ↔ k ∈ es.toList.map kyS) ∧
    es.size < scanBound ∧ t.fits es.size = true ∧ es.size = n ∧ Ris t.place.toList ∧ (w.params.followText "set-order" = true ∨ t.led = true)
section
variable {P : Program} {w : World} {h h' : Heap} {a : Addr} {S : Str → Bool} {n : Nat}
theorem SetX.at (R : SetX w h a S n) (k : ∀ o, h.get? a = some o → h'.get? a = some o) : SetX w h' a S n := (let ⟨o, es, ep, t, ho, r⟩ := R; ⟨o, es, ep, t, k o ho, r⟩)
theorem SetX.congr {S' : Str → Bool} (R : SetX w h a S n) (e : ∀ k, S' k = S k) : SetX w h a S' n := by
  obtain rfl : S' = S := funext e
  exact R
theorem goodS_elems {l : List (Int × Value)} (g : ∀ e ∈ l, GoodS w e) : ElemsOf (PySem.strKind P w) l := fun e he => by
  obtain ⟨k, tk, h1, h2⟩ := g e he
  exact ⟨⟨k, by rw [h1]; exact strKind_is P w k tk, h2⟩, by rw [h1] <;> rfl⟩
theorem goodS_is {e : Int × Value} (g : GoodS w e) (k : Str) : (PySem.strKind P w).is k e.2 = true ↔ kyS e = k := by
  obtain ⟨k0, tk, h1, _⟩ := g
  unfold kyS
  rw [h1]
  constructor
  · intro z
    obtain ⟨t, e⟩ := Value.isStrOf_shape (show Value.isStrOf k (.str k0 tk) = true from z)
    exact (Value.str.inj e).1
  · rintro rfl
    exact strKind_is P w _ tk
theorem goodS_mem {l : List (Int × Value)} (g : ∀ e ∈ l, GoodS w e) (k : Str) : k ∈ l.map kyS ↔ ∃ e ∈ l, (PySem.strKind P w).is k e.2 = true := by
  rw [List.mem_map]
  exact ⟨fun ⟨e, he, q⟩ => ⟨e, he, (goodS_is (g e he) k).2 q⟩, fun ⟨e, he, q⟩ => ⟨e, he, (goodS_is (g e he) k).1 q⟩⟩
end
section
variable {P : Program} {w : World} {A : Around} {E : Value → Shared → Prop} {s : Shared} {a : Addr} {S : Str → Bool} {n : Nat}
theorem setX_add_tail {g : Bool → Sem Unit} (hg : ∀ (b : Bool) (s₁ : Shared) (Q' : Unit → Shared → Prop), Q' () s₁ → wpAny (model P w) A (g b) Q' E s₁)
    {o : Obj} {es : Array (Int × Value)} {ep : Nat} {t : SetTable} (ho : s.heap.get? a = some o) (hex : o.ExactSet) (hd : o.data = .set es ep t)
    {es1 : Array (Int × Value)} {t2 : SetTable} {S' : Str → Bool} (g1 : ∀ e ∈ es1.toList, GoodS w e) (nd1 : (es1.toList.map kyS).Nodup) (m1 : ∀ k, S' k = true ↔ k ∈ es1.toList.map kyS)
    (hb1 : es1.size < scanBound) (hf2 : t2.fits es1.size = true) (hr : Ris t2.place.toList) (hl : w.params.followText "set-order" = true ∨ t2.led = true) {wasDummy : Bool} {R : Option Bool → Shared → Prop}
    (hR : ∀ h', Heap.SameBut a s.heap h' → SetX w h' a S' es1.size → R (some true) { s with heap := h' }) :
    wpAny (model P w) A (do
        storeSet a es1 t2
        if (!wasDummy && t2.tooFull) = true then do
            g (relayAll t2 es1 (SetTable.grown es1.size)).2.2
            storeSet a (relayAll t2 es1 (SetTable.grown es1.size)).1 (relayAll t2 es1 (SetTable.grown es1.size)).2.1
            pure (some true)
          else pure (some true)) R E s := by
  refine wpAny_bind (wpAny_storeSet_of ho hd ?_ (fits_of_scanBound hb1))
  have ho1 := store_at (es' := es1) (t' := t2) ho hd
  have sb1 := Heap.SameBut.update s.heap a (Obj.putSet es1 t2)
  split
  · have pm := relayAll_perm t2 es1 (SetTable.grown es1.size)
    have hf3 := relayAll_fits t2 es1 (SetTable.grown es1.size)
    have hr3 := relayAll_ris t2 es1 (SetTable.grown es1.size)
    have hl3 := relayAll_led t2 es1 (SetTable.grown es1.size)
    generalize relayAll t2 es1 (SetTable.grown es1.size) = Z at pm hf3 hr3 hl3 ⊢
    obtain ⟨es2, t3, gave⟩ := Z
    dsimp only at pm hf3 hr3 hl3 ⊢
    have hsz : es2.size = es1.size := by rw [← Array.length_toList, pm.length_eq, Array.length_toList]
    have hb2 : es2.size < scanBound := by rw [hsz]; exact hb1
    refine wpAny_bind (hg _ _ _ ?_)
    refine wpAny_bind (wpAny_storeSet_of ho1 rfl ?_ (fits_of_scanBound hb2))
    have ho2 := store_at (es' := es2) (t' := t3) ho1 rfl
    refine wpAny_pure (hR _ (sb1.trans (Heap.SameBut.update _ a _)) ?_)
    exact ⟨_, es2, _, t3, ho2, hex, rfl, fun e he => g1 e (pm.mem_iff.mp he), (pm.map kyS).nodup_iff.mpr nd1, fun k => (m1 k).trans (pm.map kyS).mem_iff.symm, hb2, hf3, hsz, hr3,
      hl.imp id fun z => by rw [hl3]; exact z⟩
  · exact wpAny_pure (hR _ sb1 ⟨_, es1, _, t2, ho1, hex, rfl, g1, nd1, m1, hb1, hf2, rfl, hr, hl⟩)

theorem setX_add_hashed {k : Str} {tk : Tok} {Q : Bool → Shared → Prop} (R : SetX w s.heap a S n) (room : n + 1 < scanBound)
    (hQ : ∀ h', Heap.SameBut a s.heap h' → SetX w h' a (fun j => S j || decide (j = k)) (if S k = true then n else n + 1) → Q (!S k) { s with heap := h' }) :
    wpAny (model P w) A (setAddHashed a (.str k tk) ((PySem.strKind P w).hash k)) Q E s := by
  obtain ⟨o, es, ep, t, ho, hex, hd, g, nd, hm, hb, hf, hn, hr, hl⟩ := R
  have hkey : (PySem.strKind P w).is k (.str k tk) = true := strKind_is P w k tk
  have hsc : (Value.str k tk).scannable = true := rfl
  have hel : ElemsOf (PySem.strKind P w) es.toList := goodS_elems g
  unfold setAddHashed setAddHashedIn
  refine wpAny_holding (wpAny_bind (wpAny_setState_of ho hd hf ?_))
  dsimp only
  rw [byScan_of hsc hb hel]
  simp only [↓reduceIte]
  unfold setAddByScan
  refine wpAny_bind ?_
  refine wpAny_bind (wpAny_rule ?_)
  refine wpAny_bind (wpAny_setScan_of hkey ho hd hf hel ?_)
  cases hfi : List.findIdx? (fun e => (PySem.strKind P w).is k e.2) es.toList with
  | some j =>
    dsimp only
    obtain ⟨hj, pj, _⟩ := List.findIdx?_eq_some_iff_getElem.mp hfi
    have hSk : S k = true := (hm k).2 ((goodS_mem (P := P) (w := w) g k).2 ⟨es.toList[j], List.getElem_mem hj, pj⟩)
    refine wpAny_pure (wpAny_pure ?_)
    have q := hQ s.heap (Heap.SameBut.refl a s.heap) ⟨o, es, ep, t, ho, hex, hd, g, nd, fun i => by
      rw [Bool.or_eq_true, decide_eq_true_eq, ← hm i]
      exact ⟨fun z => z.elim id (fun e => e ▸ hSk), .inl⟩, hb, hf, by rw [if_pos hSk]; exact hn, hr, hl⟩
    rw [hSk] at q
    exact q
  | none =>
    dsimp only
    have hnk : k ∉ es.toList.map kyS := fun z => by
      obtain ⟨e, he, q⟩ := (goodS_mem (P := P) (w := w) g k).1 z
      have c := List.findIdx?_eq_none_iff.mp hfi e he
      rw [q] at c
      cases c
    have hSk : S k = false := by
      cases q : S k with
      | false => rfl
      | true => exact absurd ((hm k).1 q) hnk
    have hgw : ∀ (b : Bool) {s₁ : Shared} {Q' : Unit → Shared → Prop}, Q' () s₁ → wpAny (model P w) A (match b with | true => rule "set.scan.the-table-gave-way" | false => pure ()) Q' E s₁ :=
      fun b s₁ Q' q => by cases b <;> first | exact wpAny_pure q | exact wpAny_rule q
    have pm := layNew_perm t es ((PySem.strKind P w).hash k) (.str k tk)
    have hf1 := layNew_fits t es ((PySem.strKind P w).hash k) (.str k tk)
    have hr1 := layNew_ris t es ((PySem.strKind P w).hash k) (.str k tk) hr
    have hl1 := layNew_led t es ((PySem.strKind P w).hash k) (.str k tk)
    generalize layNew t es ((PySem.strKind P w).hash k) (.str k tk) = Z at pm hf1 hr1 hl1 ⊢
    obtain ⟨es1, t1, wasDummy, gave⟩ := Z
    dsimp only at pm hf1 hr1 hl1 ⊢
    rw [Array.toList_push] at pm
    have pc : es1.toList.Perm (((PySem.strKind P w).hash k, Value.str k tk) :: es.toList) := pm.trans (List.perm_append_singleton _ _)
    have pk : (es1.toList.map kyS).Perm (k :: es.toList.map kyS) := pc.map kyS
    have g1 : ∀ e ∈ es1.toList, GoodS w e := fun e he => by
      rcases List.mem_cons.mp (pc.mem_iff.mp he) with z | z
      · rw [z]; exact ⟨k, tk, rfl, rfl⟩
      · exact g e z
    have nd1 : (es1.toList.map kyS).Nodup := pk.nodup_iff.mpr (List.nodup_cons.mpr ⟨hnk, nd⟩)
    have m1 : ∀ i, (S i || decide (i = k)) = true ↔ i ∈ es1.toList.map kyS := fun i => by
      rw [Bool.or_eq_true, decide_eq_true_eq, hm i, pk.mem_iff, List.mem_cons]
      exact Or.comm
    have hsz : es1.size = n + 1 := by rw [← Array.length_toList, pc.length_eq, List.length_cons, Array.length_toList, hn]
    have hb1 : es1.size < scanBound := by rw [hsz]; exact room
    have hled : w.params.followText "set-order" = true ∨ t1.led = true := hl.imp id fun z => by rw [hl1]; exact z
    have fin : ∀ h', Heap.SameBut a s.heap h' → SetX w h' a (fun j => S j || decide (j = k)) es1.size → Q true { s with heap := h' } := fun h' sb r => by
      have q := hQ h' sb
      rw [hSk] at q
      rw [hsz] at r
      exact q r
    refine wpAny_bind (hgw _ ?_)
    split
    · refine wpAny_bind ?_
      rw [hashByValue_scannable 8 hsc]
      refine wpAny_pure ?_
      refine setX_add_tail ?_ ho hex hd g1 nd1 m1 hb1 ?_ ?_ ?_ ?_
      · intro b s₁ Q' q; cases b <;> first | exact wpAny_pure q | exact wpAny_rule q
      · first | (split <;> first | exact hf1 | exact SetTable.fits_plain_off hf1) | exact hf1
      · first | (split <;> exact hr1) | exact hr1
      · first | (split <;> exact hled) | exact hled
      · intro h' sb r; dsimp only; exact wpAny_pure (fin h' sb r)
    · refine wpAny_bind (wpAny_pure ?_)
      simp only [↓reduceIte]
      refine setX_add_tail ?_ ho hex hd g1 nd1 m1 hb1 hf1 hr1 hled ?_
      · intro b s₁ Q' q; cases b <;> first | exact wpAny_pure q | exact wpAny_rule q
      · intro h' sb r; dsimp only; exact wpAny_pure (fin h' sb r)


theorem setX_new_at {w : World} {h : Heap} {a : Addr} {ns : List Str} (ho : h.get? a = some { cls := .type "set", dict := none, data := .set #[] 0 (.fresh 0 0 (!w.params.followText "set-order")) }) : SetX w h a (fun j => decide (j ∈ ns.take 0)) 0 :=
  ⟨_, #[], 0, _, ho, ⟨rfl, rfl, rfl⟩, rfl, (fun e he => by simp at he), (by simp), (fun k => by simp), (by decide), (by rfl), rfl, List.Pairwise.nil, by
    show _ ∨ (!w.params.followText "set-order") = true
    cases w.params.followText "set-order"
    · exact .inr rfl
    · exact .inl rfl⟩
theorem strsAt {us : List Value} {xs : List Str} (h : StrsAre us xs) (i : Nat) (v : Value) (e : us[i]? = some v) : ∃ k t, xs[i]? = some k ∧ v = .str k t := by
  have hl : us.length = xs.length := StrsAre.len_eq h
  have hi : i < xs.length := by rw [← hl]; exact (List.getElem?_eq_some_iff.mp e).1
  obtain ⟨t, e2⟩ := SS.strs_at h i v e
  refine ⟨xs[i], t, List.getElem?_eq_getElem hi, ?_⟩
  rw [e2, List.getD_eq_getElem?_getD, List.getElem?_eq_getElem hi] <;> rfl
theorem set_update_strs {I : Addr} {fp wr : List Addr} {G : Array GenState → Array GenState → Prop} {n : Nat} {Pv : Nat → Value → Prop} {St : Nat → Shared → Prop} {R : Result → Shared → Prop}
    (W : WalksS P w A.in1 I fp wr G n Pv St) (S : Addr) (hSf : S ∉ fp) (ns : List Str) (hn : n = ns.length) (hb : ns.length + 1 < scanBound) (hval : ∀ i v, Pv i v → ∃ k t, ns[i]? = some k ∧ v = .str k t) :
    ∀ (k i : Nat) (s : Shared), n - i = k → i ≤ n → St i s → (∃ c, c ≤ i ∧ SetX w s.heap S (fun j => decide (j ∈ ns.take i)) c) →
      (∀ s' c, Moved (S :: wr) G s s' → c ≤ n → SetX w s'.heap S (fun j => decide (j ∈ ns)) c → R (.ok (.ret .none)) s') →
      codeAny (model P w) A (.builtin "set.update.loop" ⟨[.ref S, .ref I], []⟩) R s := by
  have hSw : S ∉ wr := fun h => hSf (W.sub _ h)
  have hsub : ∀ b ∈ wr, b ∈ S :: wr := fun b hb => List.mem_cons_of_mem _ hb
  intro k
  induction k with
  | zero =>
    intro i s hk' hi hst ⟨c, hc, hS⟩ hR
    have hin : i = n := by omega
    subst hin
    refine codeAny_builtin F.entry_set_update_loop ?_
    rw [Around.under_plainId F.plain_set_update_loop _]
    show wpAny _ A.in1 (pyNext (.ref I) >>= _) _ _ s
    refine wpAny_bind (W.done s _ _ hst fun s' hm => ?_)
    show wpAny _ A.in1 (ret Value.none) _ _ s'
    have e : ns.take i = ns := List.take_of_length_le (by omega)
    rw [e] at hS
    exact wpAny_pure (hR s' c (hm.mono hsub) hc (hS.at fun o e => hm.heap S o hSw e))
  | succ k ih =>
    intro i s hk' hi hst ⟨c, hc, hS⟩ hR
    have hlt : i < n := by omega
    refine codeAny_builtin F.entry_set_update_loop ?_
    rw [Around.under_plainId F.plain_set_update_loop _]
    show wpAny _ A.in1 (pyNext (.ref I) >>= _) _ _ s
    refine wpAny_bind (W.item i s _ _ hlt hst fun v s' hP hst' hm => ?_)
    obtain ⟨z, t, hz, rfl⟩ := hval i v hP
    have hS' : SetX w s'.heap S (fun j => decide (j ∈ ns.take i)) c := hS.at fun o e => hm.heap S o hSw e
    show wpAny _ A.in1 (holding [Value.str z t] (setAdd S (.str z t)) >>= _) _ _ s'
    refine wpAny_bind (wpAny_holding ?_)
    unfold setAdd
    refine wpAny_holding ?_
    refine wpAny_bind ((PySem.strKind P w).pyHash (k := z) (strKind_is _ _ _ _) ?_)
    refine setX_add_hashed (s := { s' with toks := s'.toks + 1 }) hS' (by omega) fun h' hsb hS2 => ?_
    have hS3 : SetX w h' S (fun j => decide (j ∈ ns.take (i + 1))) (if decide (z ∈ ns.take i) = true then c else c + 1) := hS2.congr fun j => by
      rw [List.take_add_one, hz]
      simp [List.mem_append]
    have hc3 : (if decide (z ∈ ns.take i) = true then c else c + 1) ≤ i + 1 := by
      split <;> omega
    refine wpAny_pure ⟨plainId_quiet F.plain_set_update_loop _, ih (i + 1) _ (by omega) hlt (W.frame _ s' _ _ hst' (Nat.le_succ _) fun b hb o e => ?_) ⟨_, hc3, hS3⟩ fun s'' c2 hm'' hc'' hS'' => ?_⟩
    · rw [hsb.2 b (fun h : b = S => hSf (by rw [← h]; exact hb))]; exact e
    · refine hR s'' c2 (Moved.trans W.gtrans ((hm.mono hsub).then_heap (Nat.le_succ _) fun b o hb e => ?_) hm'') hc'' hS''
      rw [hsb.2 b (fun h : b = S => hb (by rw [h]; exact List.mem_cons_self))]; exact e

set_option maxRecDepth 100000 in
set_option maxHeartbeats 3200000 in
theorem call_set_tupX {l : Addr} {items : Array Value} (ns : List Str) {Q : Value → Shared → Prop} (hh : A.handled = none) (hl : s.heap.IsTuple l items) (hit : StrsAre items.toList ns) (hb : ns.length + 1 < scanBound)
    (h : ∀ (h' : Heap) (tk c : Nat), SetX w h' s.heap.objs.size (fun j => decide (j ∈ ns)) c → c ≤ ns.length → (∀ b o, s.heap.get? b = some o → h'.get? b = some o) → Q (.ref s.heap.objs.size) { s with heap := h', toks := tk }) :
    wpAny (model P w) A (call (.type "set") [.ref l]) Q E s := by
  have hisz : items.size = ns.length := by
    have q := StrsAre.len_eq hit
    rw [Array.length_toList] at q
    exact q
  obtain ⟨c, tl, hmro⟩ := F.called_set.mro
  have hmade := F.called_set.made
  have hsub := F.called_set.sub
  refine wpAny_call (codeAny_of_tree ?_)
  show wpAny _ _ (callAny (.type "set") _) _ _ _
  refine wpAny_pure ⟨Code.quiet_builtin _ (by decide +kernel), codeAny_builtin F.entry_type_call ?_⟩
  rw [Around.under_plain (weight_type_call_type "set" [.ref l] []) rfl]
  have h1 := F.called_set.notType
  have h2 := F.called_set.canCreate
  have hct := F.typeCall_set_1 (.ref l)
  repeat (any_goals (first | assumption | wp_step))

  refine codeAny_mono (code_set_led1 (.ref l) (E := E) (Q₁ := fun obj s₁ => obj = .ref s.heap.objs.size ∧ s₁ = { s with heap := s.heap.push { cls := .type "set", dict := none, data := .set #[] 0 (.fresh 0 0 (!w.params.followText "set-order")) } }) ⟨rfl, rfl⟩) fun r s₁ hr => ?_
  cases r with
  | error e => exact hr
  | ok fl =>
    cases fl with
    | ret obj =>
      obtain ⟨rfl, rfl⟩ := hr
      have hS : (s.heap.push { cls := .type "set", dict := none, data := .set #[] 0 (.fresh 0 0 (!w.params.followText "set-order")) }).get? s.heap.objs.size = some { cls := .type "set", dict := none, data := .set #[] 0 (.fresh 0 0 (!w.params.followText "set-order")) } := Heap.get?_push_size _ rfl
      have hT : Shared.TypeIs { s with heap := s.heap.push { cls := .type "set", dict := none, data := .set #[] 0 (.fresh 0 0 (!w.params.followText "set-order")) } } (.ref s.heap.objs.size) "set" := ⟨_, hS, rfl⟩
      have hli := F.called_set.init.lookup
      have hbi := F.called_set.init.bind (.ref s.heap.objs.size)
      repeat (any_goals (first | assumption | wp_step))

      refine codeAny_mono (codeAny_call_builtin (R := wants (fun r s₂ => r = .none ∧ ∃ h' tk c, s₂ = { s with heap := h', toks := tk } ∧ SetX w h' s.heap.objs.size (fun j => decide (j ∈ ns)) c ∧ c ≤ ns.length ∧
          (∀ b o, s.heap.get? b = some o → h'.get? b = some o)) E) F.called_set.init.plain F.entry_set_init (check_set_init_1 hT ?_)) fun r₂ s₂ hr₂ => ?_
      · obtain ⟨ol, hol, hcl, nl, hdl⟩ := hl
        obtain ⟨ocls, odict, odata, oslots⟩ := ol
        simp only at hcl hdl
        subst hcl; subst hdl
        have hol' : (s.heap.push { cls := .type "set", dict := none, data := .set #[] 0 (.fresh 0 0 (!w.params.followText "set-order")) }).get? l = some { cls := .type "tuple", dict := odict, data := .seq items nl, slots := oslots } := Heap.get?_push_of_some _ hol
        have hsls := F.sub_tuple_set
        have hslf := F.sub_tuple_frozenset
        have hne : (Value.type "tuple" == Value.type "dict") = false := by decide
        have hl1 : (s.heap.push { cls := .type "set", dict := none, data := .set #[] 0 (.fresh 0 0 (!w.params.followText "set-order")) }).IsTuple l items := ⟨_, hol', rfl, nl, rfl⟩
        unfold Builtin.«set.__init__» noKeywords Builtin.Frozenset.updateFrom
        generalize hPI : pyIter = PI
        wp_walk
        subst hPI

        refine wpAny_pyIter_tuple hl1 ?_
        refine wpAny_bind (wpAny_runValue ?_)
        have hlS : l < s.heap.objs.size := Heap.lt_size hol
        have hh3 : A.in1.in1.in1.handled = none := by simp [hh]
        have hz1 : (s.heap.push { cls := .type "set", dict := none, data := .set #[] 0 (.fresh 0 0 (!w.params.followText "set-order")) }).objs.size = s.heap.objs.size + 1 := Heap.size_push ..
        have hneI : l ≠ (s.heap.push { cls := .type "set", dict := none, data := .set #[] 0 (.fresh 0 0 (!w.params.followText "set-order")) }).objs.size := by
          rw [Heap.size_push]; exact Nat.ne_of_lt (Nat.lt_succ_of_lt hlS)
        have hSf : s.heap.objs.size ∉ [(s.heap.push { cls := .type "set", dict := none, data := .set #[] 0 (.fresh 0 0 (!w.params.followText "set-order")) }).objs.size, l] := by
          rw [Heap.size_push]; simp only [List.mem_cons, List.mem_singleton, List.not_mem_nil, or_false, not_or]
          exact ⟨Nat.ne_of_lt (Nat.lt_succ_self _), Nat.ne_of_gt hlS⟩
        have hval : ∀ (i : Nat) (v : Value), items[i]? = some v → ∃ k t, ns[i]? = some k ∧ v = .str k t := fun i v hv => strsAt hit i v (by rw [Array.getElem?_toList]; exact hv)
        refine set_update_strs ((Walks.tuple hh3 _ l hneI items).toS) s.heap.objs.size
          hSf ns hisz hb hval (items.size - 0) 0 _ (by omega) (Nat.zero_le _)
          ⟨⟨_, Heap.get?_push_size _ rfl, rfl, rfl⟩, (hl1.push _)⟩ ?hS0 ?hR
        case hS0 =>
          have hget : ((s.heap.push { cls := .type "set", dict := none, data := .set #[] 0 (.fresh 0 0 (!w.params.followText "set-order")) }).push { cls := .type "tuple_iterator", data := .fields #[.ref l, .int 0 0] }).get? s.heap.objs.size
              = some { cls := .type "set", dict := none, data := .set #[] 0 (.fresh 0 0 (!w.params.followText "set-order")) } := Heap.get?_push_of_some _ hS
          exact ⟨0, Nat.le_refl 0, setX_new_at hget⟩
        case hR =>
          intro s' c' hm hc' hS'
          obtain ⟨h', g2, d', tk', os'⟩ := s'
          have eg : g2 = s.gens := hm.gens
          have ed : d' = s.drawn := hm.drawn
          have eo : os' = s.os := hm.os
          subst eg; subst ed; subst eo
          show wpAny _ _ _ _ _ _
          refine wpAny_pure ?_
          show wpAny _ _ (ret Value.none) _ _ _
          rw [hisz] at hc'
          refine wpAny_pure ⟨rfl, h', tk', c', rfl, hS', hc', fun b o e => ?_⟩
          have hb0 : b < s.heap.objs.size := Heap.lt_size e
          have hb1 : b ≠ s.heap.objs.size := Nat.ne_of_lt hb0
          have hb2 : b ≠ (s.heap.push { cls := .type "set", dict := none, data := .set #[] 0 (.fresh 0 0 (!w.params.followText "set-order")) }).objs.size := by
            rw [Heap.size_push]; exact Nat.ne_of_lt (Nat.lt_succ_of_lt hb0)
          exact hm.heap b o (by simp only [List.mem_cons, List.mem_singleton, List.not_mem_nil, or_false, not_or]; exact ⟨hb1, hb2⟩) (Heap.get?_push_of_some _ (Heap.get?_push_of_some _ e))

      · cases r₂ with
        | error e => exact hr₂
        | ok fl₂ =>
          cases fl₂ with
          | ret r =>
            obtain ⟨rfl, h', tk, c', rfl, hS', hc', hk'⟩ := hr₂
            repeat (any_goals (first | assumption | wp_step))
            exact h _ _ _ hS' hc' hk'
          | _ => exact hr₂.elim
    | _ => exact hr.elim

set_option maxRecDepth 100000 in
set_option maxHeartbeats 3200000 in
theorem call_set_lstX {l : Addr} {items : Array Value} (ns : List Str) {Q : Value → Shared → Prop} (hh : A.handled = none) (hl : s.heap.IsList l items) (hit : StrsAre items.toList ns) (hb : ns.length + 1 < scanBound)
    (h : ∀ (h' : Heap) (tk c : Nat), SetX w h' s.heap.objs.size (fun j => decide (j ∈ ns)) c → c ≤ ns.length → (∀ b o, s.heap.get? b = some o → h'.get? b = some o) → Q (.ref s.heap.objs.size) { s with heap := h', toks := tk }) :
    wpAny (model P w) A (call (.type "set") [.ref l]) Q E s := by
  have hisz : items.size = ns.length := by
    have q := StrsAre.len_eq hit
    rw [Array.length_toList] at q
    exact q
  obtain ⟨c, tl, hmro⟩ := F.called_set.mro
  have hmade := F.called_set.made
  have hsub := F.called_set.sub
  refine wpAny_call (codeAny_of_tree ?_)
  show wpAny _ _ (callAny (.type "set") _) _ _ _
  refine wpAny_pure ⟨Code.quiet_builtin _ (by decide +kernel), codeAny_builtin F.entry_type_call ?_⟩
  rw [Around.under_plain (weight_type_call_type "set" [.ref l] []) rfl]
  have h1 := F.called_set.notType
  have h2 := F.called_set.canCreate
  have hct := F.typeCall_set_1 (.ref l)
  repeat (any_goals (first | assumption | wp_step))

  refine codeAny_mono (code_set_led1 (.ref l) (E := E) (Q₁ := fun obj s₁ => obj = .ref s.heap.objs.size ∧ s₁ = { s with heap := s.heap.push { cls := .type "set", dict := none, data := .set #[] 0 (.fresh 0 0 (!w.params.followText "set-order")) } }) ⟨rfl, rfl⟩) fun r s₁ hr => ?_
  cases r with
  | error e => exact hr
  | ok fl =>
    cases fl with
    | ret obj =>
      obtain ⟨rfl, rfl⟩ := hr
      have hS : (s.heap.push { cls := .type "set", dict := none, data := .set #[] 0 (.fresh 0 0 (!w.params.followText "set-order")) }).get? s.heap.objs.size = some { cls := .type "set", dict := none, data := .set #[] 0 (.fresh 0 0 (!w.params.followText "set-order")) } := Heap.get?_push_size _ rfl
      have hT : Shared.TypeIs { s with heap := s.heap.push { cls := .type "set", dict := none, data := .set #[] 0 (.fresh 0 0 (!w.params.followText "set-order")) } } (.ref s.heap.objs.size) "set" := ⟨_, hS, rfl⟩
      have hli := F.called_set.init.lookup
      have hbi := F.called_set.init.bind (.ref s.heap.objs.size)
      repeat (any_goals (first | assumption | wp_step))

      refine codeAny_mono (codeAny_call_builtin (R := wants (fun r s₂ => r = .none ∧ ∃ h' tk c, s₂ = { s with heap := h', toks := tk } ∧ SetX w h' s.heap.objs.size (fun j => decide (j ∈ ns)) c ∧ c ≤ ns.length ∧
          (∀ b o, s.heap.get? b = some o → h'.get? b = some o)) E) F.called_set.init.plain F.entry_set_init (check_set_init_1 hT ?_)) fun r₂ s₂ hr₂ => ?_
      · obtain ⟨ol, hol, hcl, nl, hdl⟩ := hl
        obtain ⟨ocls, odict, odata, oslots⟩ := ol
        simp only at hcl hdl
        subst hcl; subst hdl
        have hol' : (s.heap.push { cls := .type "set", dict := none, data := .set #[] 0 (.fresh 0 0 (!w.params.followText "set-order")) }).get? l = some { cls := .type "list", dict := odict, data := .seq items nl, slots := oslots } := Heap.get?_push_of_some _ hol
        have hsls := F.sub_list_set
        have hslf := F.sub_list_frozenset
        have hne : (Value.type "list" == Value.type "dict") = false := by decide
        have hl1 : (s.heap.push { cls := .type "set", dict := none, data := .set #[] 0 (.fresh 0 0 (!w.params.followText "set-order")) }).IsList l items := ⟨_, hol', rfl, nl, rfl⟩
        unfold Builtin.«set.__init__» noKeywords Builtin.Frozenset.updateFrom
        generalize hPI : pyIter = PI
        wp_walk
        subst hPI

        refine wpAny_pyIter_list hl1 ?_
        refine wpAny_bind (wpAny_runValue ?_)
        have hlS : l < s.heap.objs.size := Heap.lt_size hol
        have hh3 : A.in1.in1.in1.handled = none := by simp [hh]
        have hz1 : (s.heap.push { cls := .type "set", dict := none, data := .set #[] 0 (.fresh 0 0 (!w.params.followText "set-order")) }).objs.size = s.heap.objs.size + 1 := Heap.size_push ..
        have hneI : l ≠ (s.heap.push { cls := .type "set", dict := none, data := .set #[] 0 (.fresh 0 0 (!w.params.followText "set-order")) }).objs.size := by
          rw [Heap.size_push]; exact Nat.ne_of_lt (Nat.lt_succ_of_lt hlS)
        have hSf : s.heap.objs.size ∉ [(s.heap.push { cls := .type "set", dict := none, data := .set #[] 0 (.fresh 0 0 (!w.params.followText "set-order")) }).objs.size, l] := by
          rw [Heap.size_push]; simp only [List.mem_cons, List.mem_singleton, List.not_mem_nil, or_false, not_or]
          exact ⟨Nat.ne_of_lt (Nat.lt_succ_self _), Nat.ne_of_gt hlS⟩
        have hval : ∀ (i : Nat) (v : Value), items[i]? = some v → ∃ k t, ns[i]? = some k ∧ v = .str k t := fun i v hv => strsAt hit i v (by rw [Array.getElem?_toList]; exact hv)
        refine set_update_strs ((Walks.list hh3 _ l hneI items).toS) s.heap.objs.size
          hSf ns hisz hb hval (items.size - 0) 0 _ (by omega) (Nat.zero_le _)
          ⟨⟨_, Heap.get?_push_size _ rfl, rfl, rfl⟩, (hl1.push _)⟩ ?hS0 ?hR
        case hS0 =>
          have hget : ((s.heap.push { cls := .type "set", dict := none, data := .set #[] 0 (.fresh 0 0 (!w.params.followText "set-order")) }).push { cls := .type "list_iterator", data := .fields #[.ref l, .int 0 0] }).get? s.heap.objs.size
              = some { cls := .type "set", dict := none, data := .set #[] 0 (.fresh 0 0 (!w.params.followText "set-order")) } := Heap.get?_push_of_some _ hS
          exact ⟨0, Nat.le_refl 0, setX_new_at hget⟩
        case hR =>
          intro s' c' hm hc' hS'
          obtain ⟨h', g2, d', tk', os'⟩ := s'
          have eg : g2 = s.gens := hm.gens
          have ed : d' = s.drawn := hm.drawn
          have eo : os' = s.os := hm.os
          subst eg; subst ed; subst eo
          show wpAny _ _ _ _ _ _
          refine wpAny_pure ?_
          show wpAny _ _ (ret Value.none) _ _ _
          rw [hisz] at hc'
          refine wpAny_pure ⟨rfl, h', tk', c', rfl, hS', hc', fun b o e => ?_⟩
          have hb0 : b < s.heap.objs.size := Heap.lt_size e
          have hb1 : b ≠ s.heap.objs.size := Nat.ne_of_lt hb0
          have hb2 : b ≠ (s.heap.push { cls := .type "set", dict := none, data := .set #[] 0 (.fresh 0 0 (!w.params.followText "set-order")) }).objs.size := by
            rw [Heap.size_push]; exact Nat.ne_of_lt (Nat.lt_succ_of_lt hb0)
          exact hm.heap b o (by simp only [List.mem_cons, List.mem_singleton, List.not_mem_nil, or_false, not_or]; exact ⟨hb1, hb2⟩) (Heap.get?_push_of_some _ (Heap.get?_push_of_some _ e))

      · cases r₂ with
        | error e => exact hr₂
        | ok fl₂ =>
          cases fl₂ with
          | ret r =>
            obtain ⟨rfl, h', tk, c', rfl, hS', hc', hk'⟩ := hr₂
            repeat (any_goals (first | assumption | wp_step))
            exact h _ _ _ hS' hc' hk'
          | _ => exact hr₂.elim
    | _ => exact hr.elim


def rawS : Value → Str | .str k _ => k | _ => Str.empty
theorem strs_ofV : ∀ (l : List Value), (∀ v ∈ l, ∃ k tk, v = Value.str k tk) → StrsAre l (l.map rawS)
  | [], _ => .nil
  | v :: l, h => by
    obtain ⟨k, tk, rfl⟩ := h v List.mem_cons_self
    exact .cons k tk (strs_ofV l fun u hu => h u (List.mem_cons_of_mem _ hu))

theorem sorted_setX {Q : Value → Shared → Prop} (R : SetX w s.heap a S n) (hh : A.handled = none) (h64 : n < 64)
    (hQ : ∀ s' p (out : Array Value) (c : Nat) (ns : List Str), (∀ b o, s.heap.get? b = some o → s'.heap.get? b = some o) → s'.gens = s.gens → s'.os = s.os → s.heap.objs.size ≤ p →
      s'.heap.get? p = some (seqObj "list" out c) → StrsAre out.toList ns → ns.Nodup → (∀ k, k ∈ ns ↔ S k = true) → ns.length = n → Q (.ref p) s') :
    wpAny (model P w) A (call (.builtin "sorted") [.ref a]) Q E s := by
  obtain ⟨o, es, ep, t, ho, hex, hd, g, nd, hm, hb, hf, hn, hr, hl⟩ := R
  refine Calls.call_function_entry kind_sorted plain_sorted entry_sorted (args_sorted1 _) ?_
  unfold Builtin.«sorted»
  refine wpAny_bind (m := checkCount "sorted" 1 1 _) (wpAny_pure ?_)
  refine wpAny_bind (collect_set (A := A.in1) hh ⟨o, ho, hex.1, hd⟩ hf hb hr hl fun s1 vs k1 hz g1 o1 pm => ?_)
  have hvl : vs.length = n := by rw [pm.length_eq, List.length_map, Array.length_toList]; exact hn
  have hI : StrsAre vs (vs.map rawS) := strs_ofV vs fun v hv => by
    obtain ⟨e, he, q⟩ := List.mem_map.mp (pm.mem_iff.mp hv)
    obtain ⟨k, tk, h1, _⟩ := g e he
    exact ⟨k, tk, by rw [← q]; exact h1⟩
  have pk : (vs.map rawS).Perm (es.toList.map kyS) := by
    have q := pm.map rawS
    rw [List.map_map] at q
    exact q
  refine wpAny_bind (wpAny_newList ?_ (by rw [hvl, sizeLine_eq]; omega))
  have hoL : (s1.heap.push (seqObj "list" vs.toArray 0)).get? s1.heap.objs.size = some (seqObj "list" vs.toArray 0) := Heap.get?_push_size _ rfl
  refine wpAny_bind (wpAny_holding (wpAny_call_entry slot_list_sort ⟨_, hoL, rfl⟩ entry_list_sort (list_sort_treeK strKind_oneLt hoL hI.keysOf (fun v₁ v₂ rest e => keyKind_strs (by rw [← e]; exact hI)) (by rw [hvl]; exact h64) fun st' hp hs => ⟨_, rfl, ?_⟩) (args_list_sort _)))
  obtain ⟨ns', a1, a2, a3⟩ := sorted_out_str hI hp hs
  generalize (arrOf st').map (·.2) = out at a1 ⊢
  obtain ⟨c, hc⟩ := sortedHeap_at (vs := vs) (out := out) hoL
  have pn : ns'.Perm (es.toList.map kyS) := a2.trans pk
  refine wpAny_pure ⟨_, rfl, hQ _ s1.heap.objs.size out c ns' (fun b u e => ?_) g1 o1 hz hc a1 (pn.nodup_iff.mpr nd) (fun k => by rw [pn.mem_iff, ← hm k]) ?_⟩
  · have q := k1 b u e
    have hlt := Heap.lt_size q
    show (sortedHeap (s1.heap.push (seqObj "list" vs.toArray 0)) s1.heap.objs.size vs out).get? b = some u
    rw [sortedHeap_old (Nat.ne_of_lt hlt) (by rw [size_push']; exact Nat.lt_succ_of_lt hlt)]
    exact Heap.get?_push_of_some _ q
  · rw [pn.length_eq, List.length_map, Array.length_toList]; exact hn

end
section
variable {X : Cx}
def SetS (w : World) (a : Addr) (S : Str → Bool) (n : Nat) : HO := .ext fun h => SetX w h a S n
theorem setS_new {w : World} {P : Program} {H : Hp} {h : Heap} {a : Addr} {S : Str → Bool} {n : Nat} (R : SetX w h a S n) : ObjOk P w H h a (SetS w a S n) := by
  have ⟨o, _, _, _, ho, _⟩ := R
  exact ⟨R, ⟨o, ho⟩, fun h1 h2 p k => SetX.at p k⟩
theorem setS_get {pins : List (Addr × Obj)} {σ : L2.St} {H : Hp} {s : Shared} {a : Addr} {S : Str → Bool} {n : Nat} (I : Inv X pins σ H s) (ha : H a = some (SetS X.w a S n)) : SetX X.w s.heap a S n := (I.hok a _ ha).1
/-- set(xs) of texts, a list or a tuple -/
def rSetX (K : PySem.W.Frag) (w : World) : List V → Hp → VK → Prop := fun vs H Q => ∃ (a : Addr) (xs : List Str), vs = [V.ref a] ∧ (SqL K H a (xs.map V.str) ∨ SqT K H a (xs.map V.str)) ∧ xs.length < 1000 ∧
  ∀ (p : Addr) (n : Nat), n ≤ xs.length → (xs.Nodup → n = xs.length) → (∀ m : List Str, (∀ x ∈ xs, x ∈ m) → n ≤ m.length) → H p = none → Q (.ref p) (upd H p (SetS w p (fun j => decide (j ∈ xs)) n))
theorem cr_setX (hc : X.calm = true) : CallR X (.type "set") (rSetX X.K X.w) := by
  intro pins s σ H vs us Q I r h
  obtain ⟨a, xs, rfl, hs, hn, q⟩ := h
  rw [Vals.ref1 r]
  have fin : ∀ (h' : Heap) (tk c : Nat), SetX X.w h' s.heap.objs.size (fun j => decide (j ∈ xs)) c → c ≤ xs.length → (∀ b o, s.heap.get? b = some o → h'.get? b = some o) →
      EP X pins σ Q (.ref s.heap.objs.size) { s with heap := h', toks := tk } := fun h' tk c R hcl hk =>
    ⟨.ref _, _, I.laid (t' := tk) hk (Nat.le_refl _) (setS_new R), rfl, q s.heap.objs.size c hcl (fun dn => (by
      obtain ⟨o, es, ep, t, _, _, _, _, nd, hm, _, _, hn, _⟩ := R
      have pp : (es.toList.map kyS).Perm xs := (List.perm_ext_iff_of_nodup nd dn).mpr fun k => by rw [← hm k]; simp
      have q := pp.length_eq
      rw [List.length_map, Array.length_toList, hn] at q
      exact q)) (fun m hm2 => (by
      obtain ⟨o, es, ep, t, _, _, _, _, nd, hm, _, _, hn, _⟩ := R
      have q := nodup_len (es.toList.map kyS) m nd fun k hk => hm2 k (of_decide_eq_true ((hm k).mpr hk))
      rw [List.length_map, Array.length_toList, hn] at q
      exact q)) (I.hok.fresh (Nat.le_refl _))⟩
  rcases hs with hs | hs
  · obtain ⟨its, rv, hl, _⟩ := I.list hs
    exact call_set_lstX xs (I.ok.hd hc) hl.isList (by simpa using rv.strs) (by unfold scanBound; omega) fin
  · obtain ⟨its, rv, hl, _⟩ := I.tuple hs
    exact call_set_tupX xs (I.ok.hd hc) hl (by simpa using rv.strs) (by unfold scanBound; omega) fin
/-- sorted(a set of texts) -/
def rSortedX (w : World) : List V → Hp → VK → Prop := fun vs H Q => ∃ (a : Addr) (S : Str → Bool) (n : Nat), vs = [V.ref a] ∧ H a = some (SetS w a S n) ∧ n < 64 ∧
  ∀ (ns : List Str) (p : Addr), ns.Nodup → (∀ k : Str, k ∈ ns ↔ S k = true) → ns.length = n → H p = none → Q (.ref p) (upd H p (.lst (ns.map V.str)))
theorem cr_sortedX (hc : X.calm = true) : CallR X (.builtin "sorted") (rSortedX X.w) := by
  intro pins s σ H vs us Q I r h
  obtain ⟨a, S, n, rfl, ha, h64, q⟩ := h
  have R := setS_get I ha
  rw [Vals.ref1 r]
  refine sorted_setX R (I.ok.hd hc) h64 fun s' p out c ns k g o hp hg hi hs hm hl => ?_
  have hlen : (ns.map V.str).length ≤ sizeLine := by rw [List.length_map, hl, sizeLine_eq]; omega
  have hn : H p = none := I.hok.fresh hp
  have J : Inv X pins σ (upd H p (.lst (ns.map V.str))) { s with heap := s'.heap, gens := s'.gens, drawn := s'.drawn, toks := s'.toks } :=
    I.call (ch := []) (Un.laid k hp hn) (I.hok.laid k hp ⟨hlen, out.toList, c, vals_of_strs hi, hg⟩) (by rw [g]; exact I.bare) (fun _ z => nomatch z)
  have e : s' = { s with heap := s'.heap, gens := s'.gens, drawn := s'.drawn, toks := s'.toks } := by
    cases s'; cases s; simp only at o g ⊢; subst o; rfl
  rw [e]
  exact ⟨.ref p, _, J, rfl, q ns p hs hm hl hn⟩
/-- len(a set of texts) -/
def rLenX (w : World) : List V → Hp → VK → Prop := fun vs H Q => ∃ (a : Addr) (S : Str → Bool) (n : Nat), vs = [V.ref a] ∧ H a = some (SetS w a S n) ∧ Q (.int n) H
theorem cr_lenX : CallR X (.builtin "len") (rLenX X.w) := by
  intro pins s σ H vs us Q I r h
  obtain ⟨a, S, n, rfl, ha, q⟩ := h
  obtain ⟨o, es, ep, t, ho, hex, hd, g, nd, hm, hb, hf, hn, _⟩ := setS_get I ha
  rw [Vals.ref1 r]
  exact call_len_set ho hex hd hf (by unfold scanBound at hb; omega) ⟨.int n, H, I.tok _, ⟨_, by rw [hn]⟩, q⟩
end
end HW
end
section
set_option Elab.async false
set_option linter.all false
set_option maxRecDepth 100000
set_option maxHeartbeats 4000000
/-! d.update(e), two dicts with int and text keys -/
namespace HW
open PySem PySem.Spec PyProof.Rows L2
theorem kv_merge : ∀ {more : List (Key × V)} {mv : List (Key × Value)} {kvs : List (Key × V)} {vs : List (Key × Value)}, KV kvs vs → KV more mv → KV (mergeK kvs more) (merged vs mv)
  | [], [], _, _, r, _ => r
  | [], _ :: _, _, _, _, m => nomatch m
  | _ :: _, [], _, _, _, m => nomatch m
  | (k, y) :: r, (k', u) :: s, kvs, vs, a, m => by
    cases m with
    | cons h t =>
      obtain ⟨e, ry⟩ := h
      have e : k = k' := e
      subst e
      show KV (mergeK (putK kvs k y) r) (merged (stored vs k u) s)
      exact kv_merge (KV.put a k ry) t
theorem mergeK_len : ∀ (more kvs : List (Key × V)), (mergeK kvs more).length ≤ kvs.length + more.length
  | [], kvs => Nat.le_refl _
  | p :: r, kvs => by
    have h1 := mergeK_len r (putK kvs p.1 p.2)
    have h2 := length_putK kvs p.1 p.2
    have h3 : (mergeK kvs (p :: r)).length = (mergeK (putK kvs p.1 p.2) r).length := rfl
    rw [h3, List.length_cons]; omega
def rUpdD : V → List V → Hp → VK → Prop := fun x vs H Q => ∃ d o kvs more, x = .ref d ∧ vs = [.ref o] ∧ H d = some (.dK kvs) ∧ H o = some (.dK more) ∧ d ≠ o ∧ kvs.length + more.length ≤ sizeLine ∧ Q .non (upd H d (.dK (mergeK kvs more)))
theorem mt_update {X : Cx} : MtR X "dict.update" rUpdD := by
  intro pins sh σ H x xs v us Q I rx rs h
  obtain ⟨d, o, kvs, more, rfl, rfl, hd, ho, ne, hz, q⟩ := h
  obtain rfl : v = Value.ref d := rx
  cases rs with
  | cons r1 rr =>
    cases rr
    cases r1
    obtain ⟨z1, n1, vs1, rel1, dd1⟩ := dk_of I.hok hd
    obtain ⟨z2, n2, vs2, rel2, dd2⟩ := dk_of I.hok ho
    refine call_meetsIn PySem.F.slot_dict_update dd1.typeIs PySem.F.entry_dict_update (PySem.F.args_dict_update_2 _ _) (meets_dict_update (mixKind X.prog X.w) d o ne n2) ⟨vs1, vs2, dd1, dd2, by rw [← rel1.length, ← rel2.length]; exact hz, fun h' dd' _ hs => ?_⟩
    have he : ∃ ob, h'.get? d = some ob := (let ⟨ob, _, _, hq, _⟩ := dd'; ⟨ob, hq⟩)
    have lim : (mergeK kvs more).length ≤ sizeLine := Nat.le_trans (mergeK_len more kvs) hz
    exact ⟨.non, _, d_write (t' := sh.toks) I (by rw [hd]; exact True.intro) hs he (dk_new lim n1 (kv_merge rel1 rel2) dd'), rfl, q⟩
end HW
end
section
set_option Elab.async false
set_option linter.all false
set_option maxRecDepth 100000
set_option maxHeartbeats 4000000
namespace HW
open PySem PySem.Spec PyProof.Rows L2 NdefX LamX
/-! ### dicts of counts -/
theorem mem_putK {kvs : List (Key × V)} {k : Key} {v : V} {z : Key × V} (h : z ∈ putK kvs k v) : z = (k, v) ∨ z ∈ kvs := by
  unfold putK at h
  split at h
  · obtain ⟨y, hy, e⟩ := List.mem_map.mp h
    by_cases c : y.1 = k
    · rw [if_pos c] at e
      exact .inl (by rw [← e, c])
    · rw [if_neg c] at e
      exact .inr (e ▸ hy)
  · rcases List.mem_append.mp h with q | q
    · exact .inr q
    · exact .inl (List.mem_singleton.mp q)
def fnl (S : List (Str × Nat)) : Prop := ∀ u c d, (u, c) ∈ S → (u, d) ∈ S → c = d
theorem fnl.mono {S S' : List (Str × Nat)} (h : fnl S) (s : ∀ p ∈ S', p ∈ S) : fnl S' := fun u c d a b => h u c d (s _ a) (s _ b)
structure Cnt (kvs : List (Key × V)) (S : List (Str × Nat)) : Prop where
  mem : ∀ z ∈ kvs, ∃ u c, z = (.inr u, .int ((c : Nat) : Int)) ∧ (u, c) ∈ S
  val : ∀ u c, (u, c) ∈ S → valV kvs (.inr u) = some (.int ((c : Nat) : Int))
  len : kvs.length ≤ S.length
theorem Cnt.nil : Cnt [] [] := ⟨fun _ h => (by cases h), fun _ _ h => (by cases h), Nat.le_refl _⟩
theorem Cnt.put {kvs : List (Key × V)} {S : List (Str × Nat)} (h : Cnt kvs S) {u : Str} {c : Nat} (f : fnl (S ++ [(u, c)])) : Cnt (putK kvs (.inr u) (.int ((c : Nat) : Int))) (S ++ [(u, c)]) := by
  refine ⟨fun z hz => ?_, fun x d hx => ?_, ?_⟩
  · rcases mem_putK hz with e | e
    · exact ⟨u, c, e, by simp⟩
    · obtain ⟨x, d, e1, e2⟩ := h.mem z e
      exact ⟨x, d, e1, List.mem_append_left _ e2⟩
  · rw [valV_put]
    by_cases e : (Sum.inr x : Key) = .inr u
    · rw [if_pos e]
      obtain rfl : x = u := Sum.inr.inj e
      rw [f x c d (by simp) hx]
    · rw [if_neg e]
      rcases List.mem_append.mp hx with q | q
      · exact h.val x d q
      · exact absurd (by rw [show x = u from congrArg Prod.fst (List.mem_singleton.mp q)]) e
  · rw [List.length_append]
    exact Nat.le_trans (length_putK _ _ _) (Nat.succ_le_succ h.len)
theorem mem_of_valV {kvs : List (Key × V)} {k : Key} {v : V} (h : valV kvs k = some v) : (k, v) ∈ kvs := by
  induction kvs with
  | nil => cases h
  | cons p r ih =>
    by_cases e : p.1 = k
    · rw [valV_pos e] at h
      have : p = (k, v) := by rw [← e, ← Option.some.inj h]
      rw [this]; exact List.mem_cons_self
    · rw [valV_neg e] at h
      exact List.mem_cons_of_mem _ (ih h)
/-- the pairs that such a dict holds -/
def cntOf (kvs : List (Key × V)) : List (Str × Nat) := kvs.filterMap fun z => match z with | (.inr u, .int c) => some (u, c.toNat) | _ => Option.none
theorem Cnt.of {kvs : List (Key × V)} {S : List (Str × Nat)} (h : Cnt kvs S) {u : Str} {c : Nat} : (u, c) ∈ cntOf kvs → (u, c) ∈ S := fun hm => by
  obtain ⟨z, hz, e⟩ := List.mem_filterMap.mp hm
  obtain ⟨x, d, rfl, q⟩ := h.mem z hz
  have : (x, d) = (u, c) := by simpa using e
  rw [← this]; exact q
theorem Cnt.to {kvs : List (Key × V)} {S : List (Str × Nat)} (h : Cnt kvs S) {u : Str} {c : Nat} (hm : (u, c) ∈ S) : (u, c) ∈ cntOf kvs :=
  List.mem_filterMap.mpr ⟨_, mem_of_valV (h.val u c hm), by simp⟩
/-- a dict of counts, put behind another -/
theorem Cnt.mergeT {kvs : List (Key × V)} {S S2 : List (Str × Nat)} : ∀ {more : List (Key × V)}, Cnt kvs S → (∀ z ∈ more, ∃ u c, z = (.inr u, .int ((c : Nat) : Int)) ∧ (u, c) ∈ S2) → fnl (S ++ S2) → Cnt (mergeK kvs more) (S ++ cntOf more) := by
  intro more
  induction more generalizing kvs S with
  | nil => intro h _ _; exact ⟨fun z hz => (let ⟨u, c, e, q⟩ := h.mem z hz; ⟨u, c, e, List.mem_append_left _ q⟩), fun u c hm => h.val u c (by simpa [cntOf] using hm), by simpa [cntOf, mergeK] using h.len⟩
  | cons p r ih =>
    intro h hm f
    obtain ⟨u, c, rfl, q⟩ := hm p List.mem_cons_self
    have h2 := h.put (u := u) (c := c) (f.mono fun x hx => by
      rcases List.mem_append.mp hx with a | a
      · exact List.mem_append_left _ a
      · rw [List.mem_singleton.mp a]; exact List.mem_append_right _ q)
    have h3 := ih h2 (fun z hz => hm z (List.mem_cons_of_mem _ hz)) (f.mono fun x hx => by
      rcases List.mem_append.mp hx with a | a
      · rcases List.mem_append.mp a with b | b
        · exact List.mem_append_left _ b
        · rw [List.mem_singleton.mp b]; exact List.mem_append_right _ q
      · exact List.mem_append_right _ a)
    have e : cntOf ((Sum.inr u, V.int ((c : Nat) : Int)) :: r) = (u, c) :: cntOf r := by simp [cntOf]
    rw [e]
    have e2 : (S ++ [(u, c)]) ++ cntOf r = S ++ (u, c) :: cntOf r := by simp
    rw [← e2]
    exact h3
theorem Cnt.merge {kvs more : List (Key × V)} {S S2 : List (Str × Nat)} (h : Cnt kvs S) (g : Cnt more S2) (f : fnl (S ++ S2)) : Cnt (mergeK kvs more) (S ++ S2) := by
  have h1 := h.mergeT (more := more) g.mem f
  refine ⟨fun z hz => ?_, fun u c hm => ?_, ?_⟩
  · obtain ⟨u, c, e, q⟩ := h1.mem z hz
    refine ⟨u, c, e, ?_⟩
    rcases List.mem_append.mp q with a | a
    · exact List.mem_append_left _ a
    · exact List.mem_append_right _ (g.of a)
  · refine h1.val u c ?_
    rcases List.mem_append.mp hm with a | a
    · exact List.mem_append_left _ a
    · exact List.mem_append_right _ (g.to a)
  · have := h1.len
    rw [List.length_append] at this ⊢
    have h2 : (cntOf more).length ≤ more.length := List.length_filterMap_le _ _
    have := g.len
    omega
theorem Cnt.mem_imp {kvs : List (Key × V)} {S S2 : List (Str × Nat)} (h : Cnt kvs S) (e : ∀ p, p ∈ S ↔ p ∈ S2) (hl : S.length ≤ S2.length) : Cnt kvs S2 :=
  ⟨fun z hz => (let ⟨u, c, a, q⟩ := h.mem z hz; ⟨u, c, a, (e _).mp q⟩), fun u c hm => h.val u c ((e _).mpr hm), Nat.le_trans h.len hl⟩
theorem valV_mem {kvs : List (Key × V)} {k : Key} {z : V} (h : (k, z) ∈ kvs) : (valV kvs k).isSome = true := by
  induction kvs with
  | nil => cases h
  | cons p r ih =>
    by_cases e : p.1 = k
    · rw [valV_pos e] <;> rfl
    · rw [valV_neg e]
      rcases List.mem_cons.mp h with q | q
      · exact absurd (by rw [← q]) e
      · exact ih q
/-- is the word among them -/
theorem Cnt.has {kvs : List (Key × V)} {S : List (Str × Nat)} (h : Cnt kvs S) (u : Str) : (valV kvs (.inr u)).isSome = true ↔ ∃ c, (u, c) ∈ S := by
  constructor
  · intro e
    cases hv : valV kvs (.inr u) with
    | none => rw [hv] at e; cases e
    | some v =>
      obtain ⟨x, c, e1, q⟩ := h.mem _ (mem_of_valV hv)
      cases e1
      exact ⟨c, q⟩
  · rintro ⟨c, hc⟩
    rw [h.val u c hc] <;> rfl
theorem mergeK_take {kvs more : List (Key × V)} {i : Nat} {z : Key × V} (h : more[i]? = some z) : mergeK kvs (more.take (i + 1)) = putK (mergeK kvs (more.take i)) z.1 z.2 := by
  rw [take_snoc h]
  unfold mergeK
  rw [List.foldl_append] <;> rfl
/-- what is made here, locked for good -/
def tFrz (t : TE) : TE := fun σ H Q => t σ H fun x H1 => ∃ d u, x = .ref d ∧ H1 d = some u ∧ Mut (some u) ∧ ∀ od, Q x (upd H1 d (.frz od u))
theorem pe_frz {X : Cx} {e : Expr} {t : TE} (h : PE X e t) : PE X e (tFrz t) := by
  refine ⟨fun pins sh σ H Q I hw => ?_⟩
  refine thn (h.run pins sh σ H _ I hw) fun v s1 ⟨x, H1, I1, r, d, u, e1, hd, mu, q⟩ => ?_
  obtain ⟨od, I2⟩ := I1.lock hd mu
  exact ⟨x, _, I2, r, q od⟩

end HW
end
section
set_option Elab.async false
set_option linter.all false
set_option maxRecDepth 100000
set_option maxHeartbeats 4000000
namespace HW
open PySem PySem.Spec PyProof.Rows L2 NdefX LamX
def innerT : Tm → List (Nat × Tm)
  | .name _ => []
  | .sign _ ps => tsL ps
  | .hole _ ns => ns.map fun k => (0, .name k)
def spInner (T : List NTab) : Sp := fun vs H Q _ => ∃ (t : Tm) (v : V), vs = [v] ∧ At H t v ∧ TabsN T H ∧ HF.nd t ≤ 4000000 ∧
  ∀ p H' items, Gr T [] H H' → H p = Option.none → H' p = some (.lst items) → AtPs H' (innerT t) items → Q (.ref p) H'
section
variable {P : Program} {w : World} {K : PySem.W.Frag} {mg : Str → Option Value} {base : Heap}
theorem sc_inner : FnScope ["term", "one"] ["term"] (defScope s_inner_terms) := ⟨rfl, rfl, rfl, by decide +kernel, rfl, by decide +kernel, by decide +kernel⟩
theorem ok_inner (S : Cn K mg base) (T : List NTab) : Has P w K mg base "inner_terms" 1 ["term"] [] (spInner T) := by
  refine has_of (d := d_inner_terms) S 0 0 rfl rfl rfl rfl rfl sc_inner (fun vs H Q E h => ?_) (fun _ _ _ _ _ _ us hl => match us, hl with | [_], _ => rfl) (fun f cdv A outer s H vs Q E hr h => ?_)
  · obtain ⟨t, v, rfl, _⟩ := h
    rfl
  refine ⟨_, pss_cons (ps_if (ptEq (ixT (pv 0))) (pss_one (ps_ret (pe_lst pa_nil))) pss_nil)
    (pss_cons (ps_if (ptEq (ixT (pv 0))) (pss_one (ps_ret (pe_callTy call_list_of (by rfl) (S.free 60) (by decide +kernel) (pa_cons (ixT (pv 0)) pa_nil)))) pss_nil)
    (pss_one (ps_ret (pe_lc (own := [("one", 1)]) (g := gName 1) (by rfl) sc_inner.nd (pi_tup (ixT (pv 0))) (blkOk_by (N := ["term", "one"]) (sc := defScope s_inner_terms) (by decide +kernel))
      (fun _ _ _ _ _ => pg_name (i := 1) sc_inner.nd rfl (Or.inl rfl)) (fun _ _ _ _ _ => pts_nil) (fun _ _ _ _ _ => pe_tup (pa_cons pe_int (pa_cons (pv 1) pa_nil))))))), ?_⟩
  obtain ⟨t, v, rfl, ht, hT, hsz, q⟩ := h
  cases t with
  | name k =>
    obtain ⟨a, rfl, h1⟩ := ht
    refine ⟨_, rfl, a, _, 0, _, rfl, rfl, SqT.of h1, rfl, rfl, _, rfl, ift eRf ?_⟩
    exact ⟨szl (by decide), fun l hl => q l _ [] (Gr.new0 hT hl) hl upd_same rfl⟩
  | sign u ps =>
    obtain ⟨a, b, vs, rfl, h1, h2, h3⟩ := ht
    refine ⟨_, rfl, a, _, 0, _, rfl, rfl, SqT.of h1, rfl, rfl, _, rfl, iff' eSN ?_⟩
    refine ⟨_, rfl, a, _, 0, _, rfl, rfl, SqT.of h1, rfl, rfl, _, rfl, ift eRf ?_⟩
    refine ⟨_, rfl, a, _, 2, _, rfl, rfl, SqT.of h1, rfl, b, vs, rfl, .inr (SqT.of h2), fun l hl => ?_⟩
    exact q l _ vs (Gr.new0 hT hl) hl upd_same ((atL_ps.mp h3).mono (Gr.new0 (X := []) hT hl))
  | hole u ns =>
    obtain ⟨a, b, vs, rfl, h1, h2, h3⟩ := ht
    refine ⟨_, rfl, a, _, 0, _, rfl, rfl, SqT.of h1, rfl, rfl, _, rfl, iff' eHN ?_⟩
    refine ⟨_, rfl, a, _, 0, _, rfl, rfl, SqT.of h1, rfl, rfl, _, rfl, iff' eHS ?_⟩
    refine ⟨_, rfl, a, _, 2, _, rfl, rfl, SqT.of h1, rfl, b, rfl, ⟨_, SqT.of h2⟩, fun D hD => ?_⟩
    have hl := h3.len
    have hz : HF.nd (HF.T.hole u ns) = 1 + ns.length := rfl
    refine lc_mapT (T := T) (K := K) (a := b) (xs := vs) (fun H i y => ∃ k, ns[i]? = some k ∧ AtP H (0, .name k) y) hT hD (SqT.of h2) (szl (by omega)) (fun H H' i y g ⟨k, e, p⟩ => ⟨k, e, p.mono g⟩)
      (fun H i y acc e ⟨k, e2, p⟩ l => ⟨k, e2, p.upd e⟩) (fun i x H' Q' Pz hx g hq => ?_) fun H' ys g hy hlen hr => ?_
    · obtain ⟨k, e, p⟩ := h3.get hx
      refine ⟨rfl, yesT ?_⟩
      refine ⟨_, rfl, szl (by show 2 ≤ 10000000; decide), fun p' hp' => ?_⟩
      have g2 := Gr.new0 (X := []) (o := .tup [.int 0, x]) g.tab hp'
      exact hq _ _ g2 ⟨k, e, p', x, rfl, upd_same, (p.mono g).mono g2⟩
    · refine q D H' ys g hD hy (AtPs.of (by rw [hlen, hl]; exact (List.length_map _).symm) fun j y e => ?_)
      obtain ⟨k, e1, p⟩ := hr j y e
      exact ⟨_, by rw [innerT, List.getElem?_map, e1] <;> rfl, p⟩
end

end HW
end
section
set_option Elab.async false
set_option linter.all false
set_option maxRecDepth 100000
set_option maxHeartbeats 4000000
namespace HW
open PySem PySem.Spec PyProof.Rows L2 NdefX LamX
/-! ### holes_of -/
def hsP (l : List (Nat × Tm)) : List (Str × Nat) := l.flatMap fun z => HF.hs z.2
theorem hsL_P : ∀ ps : HF.Ts Str, HF.hsL ps = hsP (tsL ps)
  | .nil => rfl
  | .cons m t r => by
    have := hsL_P r
    simp only [HF.hsL, tsL, hsP, List.flatMap_cons, this]
theorem hsP_snoc {l : List (Nat × Tm)} {z : Nat × Tm} : hsP (l ++ [z]) = hsP l ++ HF.hs z.2 := by simp [hsP]
def hsO : Tm → List (Str × Nat)
  | .hole u ns => [(u, ns.length)]
  | _ => []
theorem hs_split (t : Tm) : HF.hs t = hsO t ++ hsP (innerT t) := by
  cases t with
  | name k => rfl
  | sign u ps => exact hsL_P ps
  | hole u ns =>
    have : hsP (innerT (.hole u ns)) = [] := by
      unfold hsP innerT
      induction ns with
      | nil => rfl
      | cons a r ih => simpa [HF.hs] using ih
    rw [this]
    rfl
theorem hs_nd : (∀ t : Tm, (HF.hs t).length ≤ HF.nd t) ∧ True := by
  refine ⟨fun t => ?_, trivial⟩
  refine HF.T.rec (motive_1 := fun t => (HF.hs t).length ≤ HF.nd t) (motive_2 := fun ts => (HF.hsL ts).length ≤ HF.ndL ts) ?_ ?_ ?_ ?_ ?_ t
  · intro k; exact Nat.zero_le _
  · intro u ps ih; exact Nat.le_trans ih (by rw [nd_sign]; omega)
  · intro u ns; rw [nd_hole]; show 1 ≤ _; omega
  · exact Nat.zero_le _
  · intro m t r h1 h2
    simp only [HF.hsL, HF.ndL, List.length_append]
    omega
theorem ht_inner {t : Tm} {z : Nat × Tm} (h : z ∈ innerT t) : HF.ht z.2 + 1 ≤ HF.ht t ∧ HF.nd z.2 ≤ HF.nd t := by
  cases t with
  | name k => cases h
  | sign u ps =>
    obtain ⟨i, hi⟩ := List.mem_iff_getElem?.mp h
    obtain ⟨a, b⟩ := htL_get hi
    rw [ht_sign, nd_sign]; omega
  | hole u ns =>
    obtain ⟨k, hk, rfl⟩ := List.mem_map.mp h
    have h1 : HF.ht (HF.T.hole u ns) = 2 := rfl
    have h2 : HF.ht (HF.T.name k : Tm) = 1 := rfl
    have h3 : HF.nd (HF.T.name k : Tm) = 1 := rfl
    rw [h1, h2, h3, nd_hole]; omega
theorem nd_inner {t : Tm} : (innerT t).length ≤ HF.nd t := by
  cases t with
  | name k => exact Nat.zero_le _
  | sign u ps => exact Nat.le_trans (tsL_len ps) (by rw [nd_sign]; omega)
  | hole u ns => rw [nd_hole]; simp [innerT]
theorem tagH {H : Hp} {t : Tm} {v : V} (h : At H t v) : ∃ a tg rest, v = .ref a ∧ H a = some (.tup (.str tg :: rest)) ∧
    ((∃ u b vs ns, t = .hole u ns ∧ tg = "hole" ∧ rest = [.str u, .ref b] ∧ H b = some (.tup vs) ∧ AtN H ns vs) ∨ (decide (V.str tg = V.str "hole") = false ∧ hsO t = [])) := by
  cases t with
  | name k => obtain ⟨a, e, h1⟩ := h; exact ⟨a, _, _, e, h1, .inr ⟨eNH, rfl⟩⟩
  | sign u ps => obtain ⟨a, b, vs, e, h1, h2, h3⟩ := h; exact ⟨a, _, _, e, h1, .inr ⟨eSH, rfl⟩⟩
  | hole u ns => obtain ⟨a, b, vs, e, h1, h2, h3⟩ := h; exact ⟨a, _, _, e, h1, .inl ⟨u, b, vs, ns, rfl, rfl, rfl, h2, h3⟩⟩
theorem itAt {kvs : List (Key × V)} {j : Nat} {k : Key} {v x1 x2 : V} (e : kvs[j]? = some (k, v)) (h1 : (kvs[j]?.map fun kv => kV kv.1) = some x1) (h2 : (kvs[j]?.map Prod.snd) = some x2) : kV k = x1 ∧ v = x2 := by
  rw [e] at h1 h2
  exact ⟨Option.some.inj h1, Option.some.inj h2⟩
abbrev put1 (u : Str) (c : Nat) : List (Key × V) := putK ([] : List (Key × V)) (Sum.inr u) (.int (c : Int))
section
variable {P : Program} {w : World} {K : PySem.W.Frag} {mg : Str → Option Value} {base : Heap}
def spHoles (T : List NTab) (n : Nat) : Sp := fun vs H Q _ => ∃ (t : Tm) (v : V), vs = [v] ∧ At H t v ∧ TabsN T H ∧ HF.nd t ≤ 4000000 ∧ HF.ht t ≤ n ∧ fnl (HF.hs t) ∧
  ∀ d H' kvs, Gr T [] H H' → H d = Option.none → H' d = some (.dK kvs) → Cnt kvs (HF.hs t) → Q (.ref d) H'
theorem sc_holes_of : FnScope ["term", "found", "many", "inner", "word", "count"] ["term"] (defScope s_holes_of) := ⟨rfl, rfl, rfl, by decide +kernel, rfl, by decide +kernel, by decide +kernel⟩
theorem ok_holes1 (S : Cn K mg base) (T : List NTab) (n : Nat) (hI : Has P w K mg base "inner_terms" 1 ["term"] [] (spInner T)) (ih : Has P w K mg base "holes_of" (n + 1) ["term"] [] (spHoles T n)) :
    Has P w K mg base "holes_of" (n + 1 + 1) ["term"] [] (spHoles T (n + 1)) := by
  refine has_of (d := d_holes_of) S 4 4 rfl rfl rfl rfl rfl sc_holes_of (fun vs H Q E h => ?_) (fun _ _ _ _ _ _ us hl => match us, hl with | [_], _ => rfl) (fun f cdv A outer s H vs Q E hr h => ?_)
  · obtain ⟨t, v, rfl, _⟩ := h
    rfl
  refine ⟨_, (pss_cons (ps_set (i := 1) sc_holes_of.nd rfl (Or.inl rfl) pe_dnewK) (pss_cons (ps_if (ptEq (ixT (pv 0))) (pss_one (ps_dput (hu_of hr) (pv 1) (ixT (pv 0)) (pe_callB call_len_seq (by rfl) (S.free 58) (by decide +kernel) (pa_cons (ixT (pv 0)) pa_nil)) rfl)) pss_nil) (pss_cons (ps_for PassesOwn.never rfl (pi_list (pe_hs hI hr (by omega) rfl (pa_cons (pv 0) pa_nil))) (pg_tup rfl (pgs_cons (pg_name (i := 2) sc_holes_of.nd rfl (Or.inl rfl)) (pgs_cons (pg_name (i := 3) sc_holes_of.nd rfl (Or.inl rfl)) pgs_nil))) (pss_one (ps_for PassesOwn.never rfl (pi_items (pe_frz (pe_hs ih hr (by omega) rfl (pa_cons (pv 3) pa_nil)))) (pg_tup rfl (pgs_cons (pg_name (i := 4) sc_holes_of.nd rfl (Or.inl rfl)) (pgs_cons (pg_name (i := 5) sc_holes_of.nd rfl (Or.inl rfl)) pgs_nil))) (pss_one (ps_dput (hu_of hr) (pv 1) (pv 4) (pv 5) rfl))))) (pss_one (ps_ret (pv 1)))))), ?_⟩
  obtain ⟨t, v, rfl, ht, hT, hsz, hn, hf, q⟩ := h
  refine fun d hd => ?_
  have g0 := Gr.new0 (X := []) (o := .dK []) hT hd
  have hsd := hs_split t
  obtain ⟨a, tgx, rest, rfl, h1, alt⟩ := tagH ht
  have h1' := g0.tup _ _ h1
  rcases alt with ⟨u, b, vs, ns, et, rfl, rfl, h2, h3⟩ | ⟨ne, e0⟩
  case' inl =>
    refine ⟨_, rfl, a, _, 0, _, rfl, rfl, SqT.of h1', rfl, rfl, _, rfl, ift eRf ?_⟩
    refine ⟨_, rfl, a, _, 2, _, rfl, rfl, SqT.of h1', rfl, b, _, rfl, .inr (SqT.of (g0.tup _ _ h2)), ?_⟩
    refine ⟨_, rfl, _, rfl, a, _, 1, _, rfl, rfl, SqT.of h1', rfl, d, _, rfl, DPut.k (k := Sum.inr u) upd_same (szl' (by decide)), ?_⟩
    have g1 := g0.mutD (o := .dK (put1 u vs.length)) (.inl hd) upd_same
    have e1 : upd (upd H d (.dK [])) d (.dK (put1 u vs.length)) d = _ := upd_same
    have c1 : Cnt (put1 u vs.length) (hsO t) := by
      rw [et, h3.len]
      refine Cnt.nil.put (u := u) (c := ns.length) fun x c d p q => ?_
      have p := congrArg Prod.snd (List.mem_singleton.mp p)
      have q := congrArg Prod.snd (List.mem_singleton.mp q)
      exact p.trans q.symm
    generalize upd (upd H d (.dK [])) d (.dK (put1 u vs.length)) = H1 at g1 e1 ⊢
    generalize put1 u vs.length = kvs0 at e1 c1
    clear et h2 h3
  case' inr =>
    refine ⟨_, rfl, a, _, 0, _, rfl, rfl, SqT.of h1', at_of (j := 0) rfl rfl, rfl, _, rfl, iff' ne ?_⟩
    have g1 := g0
    have e1 : upd H d (.dK []) d = _ := upd_same
    have c1 : Cnt [] (hsO t) := by rw [e0]; exact Cnt.nil
    generalize upd H d (.dK []) = H1 at g1 e1 ⊢
    generalize ([] : List (Key × V)) = kvs0 at e1 c1
    clear ne
  all_goals
    refine ⟨_, rfl, t, _, rfl, ht.mono g1, g1.tab, hsz, fun p H2 items g2 hp hp2 hit => ?_⟩
    have g12 := g1.trans g2
    refine ⟨p, rfl, ⟨_, SqL.of hp2⟩, ?_⟩
    have hlen := hit.len
    have hni := nd_inner (t := t)
    refine for_list (K := K) (a := p) (xs := items) (fun i σ H' => ∃ o1 o2 o3 o4 kvs, σ = [some (.ref a), some (.ref d), o1, o2, o3, o4] ∧ Gr T [] H H' ∧ Gr T [d] H2 H' ∧ H' d = some (.dK kvs) ∧ Cnt kvs (hsO t ++ hsP ((innerT t).take i)))
      ⟨_, _, _, _, _, rfl, g12, Gr.refl g2.tab, g2.dK e1, by simpa [hsP] using c1⟩ (fun i σ H' _ ⟨_, _, _, _, _, _, _, g, _⟩ => SqL.of (g.lst hp2 (by simp; rintro rfl; rw [e1] at hp; cases hp))) ?_ ?_
    · rintro i x σ H' hx ⟨o1, o2, o3, o4, kvs, rfl, ga, gb, hd', hc⟩
      obtain ⟨z, ez, pz⟩ := hit.get hx
      obtain ⟨cc, tv, rfl, p1, p2⟩ := pz.mono gb
      have hz := ht_inner (List.mem_of_getElem? ez)
      have hfz : ∀ q ∈ HF.hs z.2, q ∈ hsP (innerT t) := fun q hq => List.mem_flatMap.mpr ⟨z, List.mem_of_getElem? ez, hq⟩
      have hft : ∀ q ∈ hsP ((innerT t).take i), q ∈ hsP (innerT t) := fun q hq => (let ⟨y, h5, h6⟩ := List.mem_flatMap.mp hq; List.mem_flatMap.mpr ⟨y, List.mem_of_mem_take h5, h6⟩)
      have fz : fnl (HF.hs z.2) := hf.mono fun q hq => by rw [hsd]; exact List.mem_append_right _ (hfz q hq)
      refine ⟨cc, _, rfl, SqT.of p1, rfl, _, _, rfl, _, _, rfl, rfl, ?_⟩
      refine ⟨_, rfl, z.2, tv, rfl, p2, gb.tab, by omega, by omega, fz, fun d2 H3 kvs2 g3 hd2 hd3 hc2 => ?_⟩
      refine ⟨d2, _, rfl, hd3, trivial, fun od => ?_⟩
      have g4 := g3.mutD (o := .frz od (.dK kvs2)) (.inl hd2) hd3
      refine ⟨d2, od, kvs2, rfl, upd_same, ?_⟩
      have nd2 : d2 ≠ d := fun z => by rw [z, hd'] at hd2; cases hd2
      have ff : fnl ((hsO t ++ hsP ((innerT t).take i)) ++ HF.hs z.2) := hf.mono fun q hq => by
        rw [hsd]
        rcases List.mem_append.mp hq with q1 | q1
        · rcases List.mem_append.mp q1 with q2 | q2
          · exact List.mem_append_left _ q2
          · exact List.mem_append_right _ (hft q q2)
        · exact List.mem_append_right _ (hfz q q1)
      refine for_it (walk_items (d := d2) (o := od) (kvs := kvs2)) (fun j σ H' => ∃ o1 o2 o3 o4, σ = [some (.ref a), some (.ref d), o1, o2, o3, o4] ∧ Gr T [] H H' ∧ Gr T [d] H2 H' ∧ H' d2 = some (.frz od (.dK kvs2)) ∧ H' d = some (.dK (mergeK kvs (kvs2.take j))))
        ⟨_, _, _, _, rfl, ga.trans g4, gb.trans g4.wide, upd_same, g4.dK hd'⟩ (fun j σ H' _ ⟨_, _, _, _, _, _, _, e, _⟩ => e) ?_ ?_
      · rintro j x σ H5 H6 hj ⟨o1, o2, o3, o4, rfl, gc, gd, ed2, ed⟩ ⟨p', x1, x2, rfl, hp', rfl, ex1, ex2⟩
        obtain ⟨y, ey⟩ : ∃ y, kvs2[j]? = some y := ⟨_, List.getElem?_eq_getElem hj⟩
        obtain ⟨u, c, rfl, hm⟩ := hc2.mem y (List.mem_of_getElem? ey)
        obtain ⟨rfl, rfl⟩ := itAt ey ex1 ex2
        have g7 := Gr.new (X := []) (o := .tup [.str u, .int ((c : Nat) : Int)]) gc hp'
        have g8 := Gr.new (X := [d]) (o := .tup [.str u, .int ((c : Nat) : Int)]) gd hp'
        have ed3 : (upd H5 p' (.tup [.str u, .int ((c : Nat) : Int)])) d = some (.dK (mergeK kvs (kvs2.take j))) := by rw [upd_ne (ne_of_none ed hp')]; exact ed
        have ed4 : (upd H5 p' (.tup [.str u, .int ((c : Nat) : Int)])) d2 = some (.frz od (.dK kvs2)) := by rw [upd_ne (ne_of_none ed2 hp')]; exact ed2
        have hl9 : (mergeK kvs (kvs2.take j)).length < sizeLine := szl' (by
          have b1 := mergeK_len (kvs2.take j) kvs
          have b2 := hc.len
          have b3 := hc2.len
          have b4 := hs_nd.1 z.2
          have b5 := hs_nd.1 t
          have b6 : (hsO t ++ hsP ((innerT t).take i)).length ≤ (HF.hs t).length := by
            rw [hsd, List.length_append, List.length_append]
            have : (hsP ((innerT t).take i)).length ≤ (hsP (innerT t)).length := by
              unfold hsP
              conv => rhs; rw [← List.take_append_drop i (innerT t)]
              rw [List.flatMap_append, List.length_append]
              omega
            omega
          rw [List.length_take] at b1
          omega)
        refine ⟨p', _, rfl, SqT.of upd_same, rfl, _, _, rfl, _, _, rfl, rfl, ?_⟩
        refine ⟨_, rfl, _, rfl, _, rfl, d, _, rfl, DPut.k (k := Sum.inr u) ed3 hl9, ?_⟩
        refine ⟨_, _, _, _, rfl, g7.mutD (.inl hd) ed3, g8.mutD (.inr (by simp)) ed3, ?_, ?_⟩
        · rw [upd_ne nd2]; exact ed4
        · rw [upd_same, mergeK_take ey]
      · rintro σ H5 ⟨o1, o2, o3, o4, rfl, gc, gd, ed2, ed⟩
        refine ⟨_, _, _, _, _, rfl, gc, gd, ed, ?_⟩
        rw [List.take_length, take_snoc ez, hsP_snoc, ← List.append_assoc]
        exact hc.merge hc2 ff
    · rintro σ H' ⟨o1, o2, o3, o4, kvs, rfl, ga, gb, hd', hc⟩
      refine ⟨_, rfl, q d H' kvs ga hd hd' ?_⟩
      rw [hlen, List.take_length, ← hsd] at hc
      exact hc
theorem ok_holes (S : Cn K mg base) (T : List NTab) (hI : Has P w K mg base "inner_terms" 1 ["term"] [] (spInner T)) : ∀ n, Has P w K mg base "holes_of" (n + 1) ["term"] [] (spHoles T n)
  | 0 => by
    refine Has.imp (Has.mono (has_zero (d := d_holes_of) S 4 4 (ps := ["term"]) (sp := fun _ _ _ _ => False) rfl rfl rfl rfl rfl (fun _ _ _ _ _ _ us hl => match us, hl with | [_], _ => rfl) (fun vs H Q E h => h)) (Nat.zero_le _)) fun vs H Q E h => ?_
    obtain ⟨t, v, _, _, _, _, hn, _⟩ := h
    have := HF.ht_pos t
    omega
  | n + 1 => ok_holes1 S T n hI (ok_holes S T hI n)
end

end HW
end
section
set_option Elab.async false
set_option linter.all false
set_option maxRecDepth 100000
set_option maxHeartbeats 4000000
namespace HW
open PySem PySem.Spec PyProof.Rows L2 NdefX LamX
/-! ### plain_signs -/
def isL (c : Nat) : Bool := decide (c ∈ ("abcdefghijklmnopqrstuvwxyz" : Str).cps.toList)
/-- a word: small letters, one to eight -/
structure Wd (u : Str) : Prop where
  all : ∀ c ∈ u.cps.toList, isL c = true
  one : 1 ≤ u.length
  few : u.length ≤ 8
theorem isL_iff {c : Nat} : isL c = true ↔ 97 ≤ c ∧ c ≤ 122 := by
  have e : ("abcdefghijklmnopqrstuvwxyz" : Str).cps.toList = List.range' 97 26 := by decide +kernel
  unfold isL
  rw [decide_eq_true_iff, e, List.mem_range'_1]
  omega
theorem Wd.ok {u : Str} (h : Wd u) : wOk u := by
  show u.cps.all (· < 0x110000) = true
  rw [Array.all_eq_true_iff_forall_mem]
  intro c hc
  have := isL_iff.mp (h.all c (by simpa using hc))
  simp only [decide_eq_true_eq]
  omega
mutual
/-- sign words among B, three parts at most, each binding two names at most, holes have words -/
def gt (B : List Str) : HF.T Str → Prop
  | .name _ => True
  | .sign u ps => u ∈ B ∧ ((tsL ps).length ≤ 3 ∧ ∀ z ∈ tsL ps, z.1 ≤ 2) ∧ gtL B ps
  | .hole u _ => Wd u
def gtL (B : List Str) : HF.Ts Str → Prop
  | .nil => True
  | .cons _ t r => gt B t ∧ gtL B r
end
mutual
theorem gt.wg {B : List Str} (hB : ∀ u ∈ B, wOk u) : ∀ {t : HF.T Str}, gt B t → wg wOk t
  | .name _, _ => trivial
  | .sign _ _, h => ⟨hB _ h.1, gtL.wg hB h.2.2⟩
  | .hole _ _, h => Wd.ok h
theorem gtL.wg {B : List Str} (hB : ∀ u ∈ B, wOk u) : ∀ {t : HF.Ts Str}, gtL B t → wgL wOk t
  | .nil, _ => trivial
  | .cons _ _ _, h => ⟨gt.wg hB h.1, gtL.wg hB h.2⟩
end
mutual
theorem gt_ren {B : List Str} (ρ : Nat → Nat) : ∀ (c : Nat) (t : HF.T Str), gt B t → gt B (HF.ren ρ c t)
  | _, .name _, _ => trivial
  | c, .sign _ ps, h => ⟨h.1, ⟨by rw [tsL_renL, List.length_map]; exact h.2.1.1, fun z hz => (by rw [tsL_renL] at hz; obtain ⟨y, hy, rfl⟩ := List.mem_map.mp hz; exact h.2.1.2 y hy)⟩, gtL_ren ρ c ps h.2.2⟩
  | _, .hole _ _, h => h
theorem gtL_ren {B : List Str} (ρ : Nat → Nat) : ∀ (c : Nat) (t : HF.Ts Str), gtL B t → gtL B (HF.renL ρ c t)
  | _, .nil, _ => trivial
  | c, .cons m t r, h => ⟨gt_ren ρ (c + m) t h.1, gtL_ren ρ c r h.2⟩
end
theorem tsL_filL (σ : Str → Option (HF.T Str)) : ∀ ps : HF.Ts Str, tsL (HF.filL σ ps) = (tsL ps).map fun z => (z.1, HF.fil σ z.2)
  | .nil => rfl
  | .cons m t r => by simp only [HF.filL, tsL, List.map_cons, tsL_filL σ r]
mutual
theorem gt_fil {B : List Str} {σ : Str → Option (HF.T Str)} (hσ : ∀ x u, σ x = some u → gt B u) : ∀ (t : HF.T Str), gt B t → gt B (HF.fil σ t)
  | .name _, _ => trivial
  | .sign _ ps, h => ⟨h.1, ⟨by rw [tsL_filL, List.length_map]; exact h.2.1.1, fun z hz => (by rw [tsL_filL] at hz; obtain ⟨y, hy, rfl⟩ := List.mem_map.mp hz; exact h.2.1.2 y hy)⟩, gtL_fil hσ ps h.2.2⟩
  | .hole u ns, h => by
    show gt B (HF.fil σ (.hole u ns))
    unfold HF.fil
    cases e : σ u with
    | none => exact h
    | some v => exact gt_ren _ 0 v (hσ u v e)
theorem gtL_fil {B : List Str} {σ : Str → Option (HF.T Str)} (hσ : ∀ x u, σ x = some u → gt B u) : ∀ (t : HF.Ts Str), gtL B t → gtL B (HF.filL σ t)
  | .nil, _ => trivial
  | .cons m t r, h => ⟨gt_fil hσ t h.1, gtL_fil hσ r h.2⟩
end
theorem gtL_get {B : List Str} : ∀ {ps : HF.Ts Str} {z : Nat × Tm}, gtL B ps → z ∈ tsL ps → gt B z.2
  | .nil, _, _, h => by cases h
  | .cons m t r, z, h, hz => by
    rcases List.mem_cons.mp hz with e | e
    · rw [e]; exact h.1
    · exact gtL_get h.2 e
mutual
def psg : HF.T Str → List Str
  | .name _ => []
  | .sign u ps => (match ps with | .nil => [u] | .cons _ _ _ => []) ++ psgL ps
  | .hole _ _ => []
def psgL : HF.Ts Str → List Str
  | .nil => []
  | .cons _ t r => psg t ++ psgL r
end
def psgP (l : List (Nat × Tm)) : List Str := l.flatMap fun z => psg z.2
theorem psgL_P : ∀ ps : HF.Ts Str, psgL ps = psgP (tsL ps)
  | .nil => rfl
  | .cons m t r => by
    have := psgL_P r
    simp only [psgL, tsL, psgP, List.flatMap_cons, this]
def psgO : Tm → List Str
  | .sign u .nil => [u]
  | _ => []
theorem psg_split (t : Tm) : psg t = psgO t ++ psgP (innerT t) := by
  cases t with
  | name k => rfl
  | sign u ps =>
    have h := psgL_P ps
    cases ps with
    | nil => rfl
    | cons m t r => simp only [psg, psgO, innerT]; rw [h]
  | hole u ns =>
    have : psgP (innerT (.hole u ns)) = [] := by
      unfold psgP innerT
      induction ns with
      | nil => rfl
      | cons a r ih => simpa [psg] using ih
    rw [this]
    rfl
theorem gt_inner {B : List Str} {t : Tm} {z : Nat × Tm} (h : gt B t) (hz : z ∈ innerT t) : gt B z.2 := by
  cases t with
  | name k => cases hz
  | sign u ps => exact gtL_get h.2.2 hz
  | hole u ns => obtain ⟨k, hk, rfl⟩ := List.mem_map.mp hz; exact trivial
theorem gt_few {B : List Str} {t : Tm} (h : gt B t) : (innerT t).length ≤ 3 ∨ ∃ u ns, t = .hole u ns := by
  cases t with
  | name k => exact .inl (Nat.zero_le _)
  | sign u ps => exact .inl h.2.1.1
  | hole u ns => exact .inr ⟨u, ns, rfl⟩
theorem psg_B : ∀ (n : Nat) {B : List Str} {t : Tm}, HF.ht t ≤ n → gt B t → ∀ u ∈ psg t, u ∈ B
  | 0, _, t, h, _, _, _ => by have := HF.ht_pos t; omega
  | n + 1, B, t, h, g, u, hu => by
    rw [psg_split] at hu
    rcases List.mem_append.mp hu with q | q
    · cases t with
      | name k => cases q
      | sign x ps =>
        cases ps with
        | nil => rw [List.mem_singleton.mp q]; exact g.1
        | cons m t r => cases q
      | hole x ns => cases q
    · obtain ⟨z, hz, hq⟩ := List.mem_flatMap.mp q
      have := ht_inner hz
      exact psg_B n (by omega) (gt_inner g hz) u hq
theorem tagS {H : Hp} {t : Tm} {v : V} (h : At H t v) : ∃ a tg rest, v = .ref a ∧ H a = some (.tup (.str tg :: rest)) ∧
    ((∃ u b vs ps, t = .sign u ps ∧ tg = "sign" ∧ rest = [.str u, .ref b] ∧ H b = some (.tup vs) ∧ AtL H ps vs) ∨ (decide (V.str tg = V.str "sign") = false ∧ psgO t = [])) := by
  cases t with
  | name k => obtain ⟨a, e, h1⟩ := h; exact ⟨a, _, _, e, h1, .inr ⟨eNS, rfl⟩⟩
  | sign u ps => obtain ⟨a, b, vs, e, h1, h2, h3⟩ := h; exact ⟨a, _, _, e, h1, .inl ⟨u, b, vs, ps, rfl, rfl, rfl, h2, h3⟩⟩
  | hole u ns => obtain ⟨a, b, vs, e, h1, h2, h3⟩ := h; exact ⟨a, _, _, e, h1, .inr ⟨eHS, rfl⟩⟩
section
variable {P : Program} {w : World} {K : PySem.W.Frag} {mg : Str → Option Value} {base : Heap}
def spSigns (T : List NTab) (n : Nat) : Sp := fun vs H Q _ => ∃ (t : Tm) (v : V) (B : List Str), vs = [v] ∧ At H t v ∧ TabsN T H ∧ HF.nd t ≤ 4000000 ∧ HF.ht t ≤ n ∧ gt B t ∧ B.length ≤ 60 ∧ (∀ u ∈ B, wOk u) ∧
  ∀ (p : Addr) (H' : Hp) (bs : List Str), Gr T [] H H' → H p = Option.none → H' p = some (.lst (bs.map V.str)) → bs.Nodup → (∀ u, u ∈ bs ↔ u ∈ psg t) → Q (.ref p) H'
theorem sc_plain_signs : FnScope ["term", "found", "many", "inner"] ["term"] (defScope s_plain_signs) := ⟨rfl, rfl, rfl, by decide +kernel, rfl, by decide +kernel, by decide +kernel⟩
theorem ok_signs1 (S : Cn K mg base) (T : List NTab) (n : Nat) (hI : Has P w K mg base "inner_terms" 1 ["term"] [] (spInner T)) (ih : Has P w K mg base "plain_signs" (n + 1) ["term"] [] (spSigns T n)) :
    Has P w K mg base "plain_signs" (n + 1 + 1) ["term"] [] (spSigns T (n + 1)) := by
  refine has_of (d := d_plain_signs) S 5 5 rfl rfl rfl rfl rfl sc_plain_signs (fun vs H Q E h => ?_) (fun _ _ _ _ _ _ us hl => match us, hl with | [_], _ => rfl) (fun f cdv A outer s H vs Q E hr h => ?_)
  · obtain ⟨t, v, B, rfl, _⟩ := h
    rfl
  refine ⟨_, (pss_cons (ps_set (i := 1) sc_plain_signs.nd rfl (Or.inl rfl) (pe_lst pa_nil)) (pss_cons (ps_if (PW.pt (pw_and (ptEq (ixT (pv 0))) (pw_and1 (pt_cmpR (op_eqB (D := 3 * n + 4) (Room.un hr (by omega))) (ixT (pv 0)) (pe_tup pa_nil) (nomark _))))) (pss_one (ps_expr (pe_bm PySem.F.plainAttrs_list PySem.F.slot_list_append PySem.F.type_list_append mt_append (pv 1) (pa_cons (ixT (pv 0)) pa_nil)))) pss_nil) (pss_cons (ps_for PassesOwn.never rfl (pi_list (pe_hs hI hr (by omega) rfl (pa_cons (pv 0) pa_nil))) (pg_tup rfl (pgs_cons (pg_name (i := 2) sc_plain_signs.nd rfl (Or.inl rfl)) (pgs_cons (pg_name (i := 3) sc_plain_signs.nd rfl (Or.inl rfl)) pgs_nil))) (pss_one (ps_expr (pe_bm PySem.F.plainAttrs_list PySem.F.slot_list_extend PySem.F.type_list_extend mt_extend (pv 1) (pa_cons (pe_hs ih hr (by omega) rfl (pa_cons (pv 3) pa_nil)) pa_nil))))) (pss_one (ps_ret (pe_callB (cr_sortedX rfl) (by rfl) (S.free 64) (by decide +kernel) (pa_cons (pe_callTy (cr_setX rfl) (by rfl) (S.free 65) (by decide +kernel) (pa_cons (pv 1) pa_nil)) pa_nil))))))), ?_⟩
  obtain ⟨t, v, B, rfl, ht, hT, hsz, hn, hg, hB, hBw, q⟩ := h
  refine ⟨szl (by decide), fun d hd => ?_⟩
  have g0 := Gr.new0 (X := []) (o := .lst []) hT hd
  have hsd := psg_split t
  obtain ⟨a, tgx, rest, rfl, h1, alt⟩ := tagS ht
  have h1' := g0.tup _ _ h1
  have alt : (∃ u b vs ps, t = .sign u ps ∧ ps = .nil ∧ tgx = "sign" ∧ rest = [.str u, .ref b] ∧ H b = some (.tup vs) ∧ AtL H ps vs) ∨
      (∃ u b vs ps, t = .sign u ps ∧ psgO t = [] ∧ PyData.eqv (.tuple (toDL ps)) (.tuple []) = false ∧ tgx = "sign" ∧ rest = [.str u, .ref b] ∧ H b = some (.tup vs) ∧ AtL H ps vs) ∨ (decide (V.str tgx = V.str "sign") = false ∧ psgO t = []) := by
    rcases alt with ⟨u, b, vs, ps, et, a2, a3, h2, h3⟩ | q
    · cases ps with
      | nil => exact .inl ⟨u, b, vs, _, et, rfl, a2, a3, h2, h3⟩
      | cons m t r => exact .inr (.inl ⟨u, b, vs, _, et, by rw [et] <;> rfl, rfl, a2, a3, h2, h3⟩)
    · exact .inr (.inr q)
  rcases alt with ⟨u, b, vs, ps, et, ep, rfl, rfl, h2, h3⟩ | ⟨u, b, vs, ps, et, e0, ev, rfl, rfl, h2, h3⟩ | ⟨ne, e0⟩
  case' inl =>
    rw [et] at hg hsz hn
    have hgw := gtL.wg hBw hg.2.2
    refine ⟨_, rfl, a, _, 0, _, rfl, rfl, SqT.of h1', rfl, rfl, _, rfl, ift eRf ?_⟩
    refine ⟨_, rfl, a, _, 2, _, rfl, rfl, SqT.of h1', rfl, ?_⟩
    refine ⟨szl (by decide), fun e he => ?_⟩
    have g1 := g0.new (o := .tup []) he
    have hb1 := g1.tup _ _ h2
    have h31 : AtL (upd (upd H d (.lst [])) e (.tup [])) ps vs := AtL.mono g1 h3
    have l1 : (upd (upd H d (.lst [])) e (.tup [])) d = some (.lst []) := by rw [upd_ne (ne_of_none upd_same he)]; exact upd_same
    have dd := toDL_depth ps
    rw [ht_sign] at hn
    refine ⟨.tuple (toDL ps), .tuple [], .tup (SqT.of hb1) (dpL_of h31), .tup (SqT.of upd_same) .nil, toDL_ok hgw, rfl, by simp only [PyData.depth]; omega, ?_⟩
    rw [← ht_sign (u := u), ← et] at hn
    rw [← et] at hg hsz
    clear dd
    subst ep
    refine ⟨_, rfl, iteT ?_⟩
    refine ⟨_, rfl, .inl ⟨rfl, _, SqL.of l1⟩, _, rfl, a, _, 1, _, rfl, rfl, SqT.of (g1.tup _ _ h1), rfl, d, _, _, rfl, rfl, l1, szl' (by decide), ?_⟩
    have g3 := g1.mutL (o := .lst ([] ++ [V.str u])) (.inl hd) l1
    have e3 : (upd (upd (upd H d (.lst [])) e (.tup [])) d (.lst ([] ++ [V.str u]))) d = some (.lst ([u].map V.str)) := upd_same
    generalize (upd (upd (upd H d (.lst [])) e (.tup [])) d (.lst ([] ++ [V.str u]))) = H1 at g3 e3 ⊢
    clear g1 hb1 h31 l1 he
    have g1 := g3
    obtain ⟨fs0, e1, c1, k1⟩ : ∃ fs0 : List Str, H1 d = some (.lst (fs0.map V.str)) ∧ (∀ u, u ∈ fs0 ↔ u ∈ psgO t) ∧ fs0.length ≤ 1 := ⟨[u], e3, by rw [et]; exact fun _ => Iff.rfl, Nat.le_refl _⟩
    clear g3 e3 hgw et h2 h3
  case' inr.inl =>
    rw [et] at hg hsz hn
    have hgw := gtL.wg hBw hg.2.2
    refine ⟨_, rfl, a, _, 0, _, rfl, rfl, SqT.of h1', rfl, rfl, _, rfl, ift eRf ?_⟩
    refine ⟨_, rfl, a, _, 2, _, rfl, rfl, SqT.of h1', rfl, ?_⟩
    refine ⟨szl (by decide), fun e he => ?_⟩
    have g1 := g0.new (o := .tup []) he
    have hb1 := g1.tup _ _ h2
    have h31 : AtL (upd (upd H d (.lst [])) e (.tup [])) ps vs := AtL.mono g1 h3
    have l1 : (upd (upd H d (.lst [])) e (.tup [])) d = some (.lst []) := by rw [upd_ne (ne_of_none upd_same he)]; exact upd_same
    have dd := toDL_depth ps
    rw [ht_sign] at hn
    refine ⟨.tuple (toDL ps), .tuple [], .tup (SqT.of hb1) (dpL_of h31), .tup (SqT.of upd_same) .nil, toDL_ok hgw, rfl, by simp only [PyData.depth]; omega, ?_⟩
    rw [← ht_sign (u := u), ← et] at hn
    rw [← et] at hg hsz
    clear dd
    rw [ev]
    refine ⟨_, rfl, iteF ?_⟩
    have e3 : (upd (upd H d (.lst [])) e (.tup [])) d = some (.lst (([] : List Str).map V.str)) := l1
    clear hb1 h31 l1
    generalize (upd (upd H d (.lst [])) e (.tup [])) = H1 at g1 e3 ⊢
    obtain ⟨fs0, e1, c1, k1⟩ : ∃ fs0 : List Str, H1 d = some (.lst (fs0.map V.str)) ∧ (∀ u, u ∈ fs0 ↔ u ∈ psgO t) ∧ fs0.length ≤ 1 := ⟨[], e3, by rw [e0]; exact fun _ => Iff.rfl, Nat.zero_le _⟩
    clear e3 hgw et h2 h3 ev
  case' inr.inr =>
    refine ⟨_, rfl, a, _, 0, _, rfl, rfl, SqT.of h1', at_of (j := 0) rfl rfl, rfl, _, rfl, iff' ne (iteF ?_)⟩
    have g1 := g0
    have e1 : upd H d (.lst []) d = some (.lst (([] : List Str).map V.str)) := upd_same
    generalize upd H d (.lst []) = H1 at g1 e1 ⊢
    obtain ⟨fs0, e1, c1, k1⟩ : ∃ fs0 : List Str, H1 d = some (.lst (fs0.map V.str)) ∧ (∀ u, u ∈ fs0 ↔ u ∈ psgO t) ∧ fs0.length ≤ 1 := ⟨[], e1, by rw [e0]; exact fun _ => Iff.rfl, Nat.zero_le _⟩
    clear ne
  all_goals
    refine ⟨_, rfl, t, _, rfl, ht.mono g1, g1.tab, hsz, fun p H2 items g2 hp hp2 hit => ?_⟩
    have g12 := g1.trans g2
    refine ⟨p, rfl, ⟨_, SqL.of hp2⟩, ?_⟩
    have hlen := hit.len
    refine for_list (K := K) (a := p) (xs := items) (fun i σ H' => ∃ o1 o2 fs, σ = [some (.ref a), some (.ref d), o1, o2] ∧ Gr T [] H H' ∧ Gr T [d] H2 H' ∧ H' d = some (.lst (fs.map V.str)) ∧ (∀ u, u ∈ fs ↔ u ∈ psgO t ++ psgP ((innerT t).take i)) ∧
        (fs.length ≤ 1 + 60 * i ∧ ((∃ u ns, t = .hole u ns) → fs.length ≤ 1)))
      ⟨_, _, fs0, rfl, g12, Gr.refl g2.tab, g2.lst e1, by simpa [psgP] using c1, by omega, fun _ => k1⟩ (fun i σ H' _ ⟨_, _, _, _, _, g, _⟩ => SqL.of (g.lst hp2 (by simp; rintro rfl; rw [e1] at hp; cases hp))) ?_ ?_
    · rintro i x σ H' hx ⟨o1, o2, fs, rfl, ga, gb, hd', hc, hl1, hl2⟩
      obtain ⟨z, ez, pz⟩ := hit.get hx
      obtain ⟨cc, tv, rfl, p1, p2⟩ := pz.mono gb
      have hz := ht_inner (List.mem_of_getElem? ez)
      have hil : i < (innerT t).length := (List.getElem?_eq_some_iff.mp ez).1
      have hfl : fs.length ≤ 200 := by
        rcases gt_few hg with q1 | q1
        · omega
        · have := hl2 q1; omega
      refine ⟨cc, _, rfl, SqT.of p1, rfl, _, _, rfl, _, _, rfl, rfl, ?_⟩
      refine ⟨_, rfl, .inl ⟨rfl, _, SqL.of hd'⟩, _, rfl, z.2, tv, B, rfl, p2, gb.tab, by omega, by omega, gt_inner hg (List.mem_of_getElem? ez), hB, hBw, fun l2 H3 bs g3 hl2n hl3 hnd hbs => ?_⟩
      have hbl : bs.length ≤ 60 := Nat.le_trans (nodup_len bs B hnd fun u hu => psg_B (HF.ht z.2) (Nat.le_refl _) (gt_inner hg (List.mem_of_getElem? ez)) u ((hbs u).mp hu)) hB
      refine ⟨d, l2, _, _, rfl, rfl, g3.lst hd', hl3, szl (by rw [List.length_map, List.length_map]; omega), ?_⟩
      refine ⟨_, _, fs ++ bs, rfl, (ga.trans g3).mutL (.inl hd) (g3.lst hd'), (gb.trans g3.wide).mutL (.inr (by simp)) (g3.lst hd'), by rw [upd_same, List.map_append], fun u => ?_, ?_, fun hq => ?_⟩
      · rw [take_snoc ez]
        unfold psgP
        rw [List.flatMap_append, ← List.append_assoc, List.mem_append, List.mem_append (s := psgO t ++ _), hc u, hbs u]
        simp [psgP]
      · rw [List.length_append]; omega
      · obtain ⟨u, ns, rfl⟩ := hq
        have : psg z.2 = [] := by
          obtain ⟨k, hk, e⟩ := List.mem_map.mp (List.mem_of_getElem? ez)
          rw [← e]; rfl
        have : bs = [] := List.eq_nil_iff_forall_not_mem.mpr fun u hu => by rw [hbs u, this] at hu; cases hu
        rw [this, List.append_nil]
        exact hl2 ⟨u, ns, rfl⟩
    · rintro σ H' ⟨o1, o2, fs, rfl, ga, gb, hd', hc, hl1, hl2⟩
      have hfl : fs.length ≤ 200 := by
        rcases gt_few hg with q1 | q1
        · omega
        · have := hl2 q1; omega
      rw [hlen, List.take_length, ← hsd] at hc
      refine ⟨_, rfl, d, fs, rfl, .inl (SqL.of hd'), by omega, fun p3 n3 hn3 _ hb3 hp3 => ?_⟩
      have g5 := ga.new (o := SetS w p3 (fun j => decide (j ∈ fs)) n3) hp3
      have h60 : n3 ≤ 60 := Nat.le_trans (hb3 B fun u hu => psg_B (HF.ht t) (Nat.le_refl _) hg u ((hc u).mp hu)) hB
      refine ⟨p3, _, n3, rfl, upd_same, by omega, fun bs p4 hnd hbs hbl hp4 => ?_⟩
      refine q p4 _ bs (g5.new hp4) (g5.back _ hp4) upd_same hnd fun u => ?_
      rw [hbs u, decide_eq_true_iff]
      exact hc u
theorem ok_signs (S : Cn K mg base) (T : List NTab) (hI : Has P w K mg base "inner_terms" 1 ["term"] [] (spInner T)) : ∀ n, Has P w K mg base "plain_signs" (n + 1) ["term"] [] (spSigns T n)
  | 0 => by
    refine Has.imp (Has.mono (has_zero (d := d_plain_signs) S 5 5 (ps := ["term"]) (sp := fun _ _ _ _ => False) rfl rfl rfl rfl rfl (fun _ _ _ _ _ _ us hl => match us, hl with | [_], _ => rfl) (fun vs H Q E h => h)) (Nat.zero_le _)) fun vs H Q E h => ?_
    obtain ⟨t, v, _, _, _, _, _, hn, _⟩ := h
    have := HF.ht_pos t
    omega
  | n + 1 => ok_signs1 S T n hI (ok_signs S T hI n)
end

end HW
end
section
set_option Elab.async false
set_option linter.all false
set_option maxRecDepth 100000
set_option maxHeartbeats 4000000
namespace HW
open PySem PySem.Spec PyProof.Rows L2 NdefX LamX
/-! ### filled_within, filled, behind -/
/-- a filling in the heap: a dict of words, each with a pair (number, term) -/
structure AtF (H : Hp) (kvs : List (Key × V)) (σ : HF.Fl Str) : Prop where
  mem : ∀ z ∈ kvs, ∃ u p m t tv, z = (.inr u, .ref p) ∧ σ u = some (m, t) ∧ H p = some (.tup [.int ((m : Nat) : Int), tv]) ∧ At H t tv
  all : ∀ u x, σ u = some x → ∃ y, valV kvs (.inr u) = some y
theorem AtF.mono {T : List NTab} {X : List Addr} {H H1 : Hp} (g : Gr T X H H1) {kvs : List (Key × V)} {σ : HF.Fl Str} (h : AtF H kvs σ) : AtF H1 kvs σ :=
  ⟨fun z hz => (let ⟨u, p, m, t, tv, e, h1, h2, h3⟩ := h.mem z hz; ⟨u, p, m, t, tv, e, h1, g.tup _ _ h2, h3.mono g⟩), h.all⟩
theorem AtF.get {H : Hp} {kvs : List (Key × V)} {σ : HF.Fl Str} (h : AtF H kvs σ) (u : Str) : (σ u = none ∧ valV kvs (.inr u) = none) ∨ ∃ p m t tv, σ u = some (m, t) ∧ valV kvs (.inr u) = some (.ref p) ∧ H p = some (.tup [.int ((m : Nat) : Int), tv]) ∧ At H t tv := by
  cases e : valV kvs (.inr u) with
  | some y =>
    obtain ⟨x, p, m, t, tv, e1, h1, h2, h3⟩ := h.mem _ (mem_of_valV e)
    cases e1
    exact .inr ⟨p, m, t, tv, h1, rfl, h2, h3⟩
  | none =>
    cases e2 : σ u with
    | none => exact .inl ⟨rfl, rfl⟩
    | some x =>
      obtain ⟨y, h1⟩ := h.all u x e2
      rw [e] at h1; cases h1
theorem put_fil {u : Tm} {ns : List Nat} {m b : Nat} (hm : m = ns.length) (hc : HF.cls m u) : HF.ren (pin ns) 0 (HF.ren (rsd b m) 0 u) = HF.ren (HF.sel ns) 0 u := by
  have h1 : HF.ren (rsd b m) 0 u = u := HF.ren_id fun x hx => by
    have := hc x hx
    unfold rsd; rw [if_pos this]
  rw [h1]
  exact HF.ren_congr fun x hx => by
    have := hc x hx
    unfold pin; rw [if_pos (by omega)]
/-- what is filled is told as its holes are, closed, and small -/
def fit (m2 : Nat) (σ : HF.Fl Str) (l : List (Str × Nat)) : Prop := ∀ u k, (u, k) ∈ l → ∀ m t, σ u = some (m, t) → m = k ∧ HF.cls m t ∧ HF.nd t ≤ 4000000 ∧ HF.ht t ≤ m2
theorem fit.mono {m2 : Nat} {σ : HF.Fl Str} {l l' : List (Str × Nat)} (h : fit m2 σ l) (s : ∀ p ∈ l', p ∈ l) : fit m2 σ l' := fun u k hk => h u k (s _ hk)
theorem fil_name {σ : Str → Option Tm} {k : Nat} : HF.fil σ (.name k) = .name k := rfl
theorem fil_hole {σ : HF.Fl Str} {u : Str} {ns : List Nat} : HF.fil (HF.sg σ) (.hole u ns) = match σ u with | none => .hole u ns | some (_, t) => HF.ren (HF.sel ns) 0 t := by
  unfold HF.fil HF.sg
  cases σ u with
  | none => rfl
  | some x => rfl
section
variable {P : Program} {w : World} {K : PySem.W.Frag} {mg : Str → Option Value} {base : Heap}
def spWithin (T : List NTab) (m2 n : Nat) : Sp := fun vs H Q _ => ∃ (d : Addr) (kvs : List (Key × V)) (σ : HF.Fl Str) (t : Tm) (v : V) (b : Nat), vs = [.ref d, v, .int (b : Int)] ∧ H d = some (.dK kvs) ∧ AtF H kvs σ ∧ At H t v ∧ TabsN T H ∧ HF.nd t ≤ 4000000 ∧ HF.ht t ≤ n ∧ fit m2 σ (HF.hs t) ∧
  ∀ v' H', Gr T [] H H' → At H' (HF.fil (HF.sg σ) t) v' → Q v' H'
theorem sc_filled_within : FnScope ["filling", "term", "bound", "many", "parts", "some", "inner", "one", "part"] ["filling", "term", "bound"] (defScope s_filled_within) := ⟨rfl, rfl, rfl, by decide +kernel, rfl, by decide +kernel, by decide +kernel⟩
theorem ok_within1 (S : Cn K mg base) (m2 n : Nat) (hR : Has P w K mg base "raised" (1 + m2 + 1) ["term", "more", "inner"] [] (spRaised (TT K) m2)) (hP : Has P w K mg base "put_in" (4 + m2 + 1) ["term", "some"] [] (spPut (TT K) m2))
    (ih : Has P w K mg base "filled_within" (5 + m2 + n) ["filling", "term", "bound"] [] (spWithin (TT K) m2 n)) :
    Has P w K mg base "filled_within" (5 + m2 + n + 1) ["filling", "term", "bound"] [] (spWithin (TT K) m2 (n + 1)) := by
  refine has_of (d := d_filled_within) S 6 6 rfl rfl rfl rfl rfl sc_filled_within (fun vs H Q E h => ?_) (fun _ _ _ _ _ _ us hl => match us, hl with | [_, _, _], _ => rfl) (fun f cdv A outer s H vs Q E hr h => ?_)
  · obtain ⟨d, kvs, σ, t, v, b, rfl, _⟩ := h
    rfl
  refine ⟨_, (pss_cons (ps_if (ptEq (ixT (pv 1))) (pss_one (ps_ret (pv 1))) pss_nil) (pss_cons (ps_if (ptEq (ixT (pv 1))) (pss_cons (ps_setLc (i := 4) (own := [("many", 3), ("part", 8)]) (g := (gTup K 2 (gCons (gName 3) (gCons (gName 8) gNil)))) (by rfl) sc_filled_within.nd rfl rfl (sw_true rfl rfl rfl (by decide +kernel)) (pi_tup (ixT (pv 1))) (blkOk_by (N := ["filling", "term", "bound", "many", "parts", "some", "inner", "one", "part"]) (sc := defScope s_filled_within) (by decide +kernel)) (fun _ _ _ _ _ => (pg_tup rfl (pgs_cons (pg_name (i := 3) sc_filled_within.nd rfl (Or.inl rfl)) (pgs_cons (pg_name (i := 8) sc_filled_within.nd rfl (Or.inl rfl)) pgs_nil)))) (fun _ _ _ _ _ => pts_nil) (fun _ _ _ _ _ => (pe_tup (pa_cons (pv 3) (pa_cons (pe_hs ih hr (by omega) rfl (pa_cons (pv 0) (pa_cons (pv 8) (pa_cons (pe_op op_add (pv 2) (pv 3)) pa_nil)))) pa_nil))))) (pss_one (ps_ret (pe_tup (pa_cons pe_str (pa_cons (ixT (pv 1)) (pa_cons (pe_callTy call_tuple_of (by rfl) (S.free 61) (by decide +kernel) (pa_cons (pv 4) pa_nil)) pa_nil))))))) pss_nil) (pss_cons (ps_setLc (i := 5) (own := [("one", 7)]) (g := (gName 7)) (by rfl) sc_filled_within.nd rfl rfl (sw_true rfl rfl rfl (by decide +kernel)) (pi_tup (ixT (pv 1))) (blkOk_by (N := ["filling", "term", "bound", "many", "parts", "some", "inner", "one", "part"]) (sc := defScope s_filled_within) (by decide +kernel)) (fun _ _ _ _ _ => (pg_name (i := 7) sc_filled_within.nd rfl (Or.inl rfl))) (fun _ _ _ _ _ => pts_nil) (fun _ _ _ _ _ => (pe_hs ih hr (by omega) rfl (pa_cons (pv 0) (pa_cons (pv 7) (pa_cons (pv 2) pa_nil)))))) (pss_cons (ps_if (pt_cmp (pc_dnotin (hu_of hr) (ixT (pv 1)) (pv 0))) (pss_one (ps_ret (pe_tup (pa_cons pe_str (pa_cons (ixT (pv 1)) (pa_cons (pe_callTy call_tuple_of (by rfl) (S.free 61) (by decide +kernel) (pa_cons (pv 5) pa_nil)) pa_nil)))))) pss_nil) (pss_cons (ps_asg (pe_dget (hu_of hr) (pv 0) (ixT (pv 1)) (fun _ _ => rfl)) (pg_tup rfl (pgs_cons (pg_name (i := 3) sc_filled_within.nd rfl (Or.inl rfl)) (pgs_cons (pg_name (i := 6) sc_filled_within.nd rfl (Or.inl rfl)) pgs_nil)))) (pss_one (ps_ret (pe_hs hP hr (by omega) rfl (pa_cons (pe_hs hR hr (by omega) rfl (pa_cons (pv 6) (pa_cons (pv 2) (pa_cons (pv 3) pa_nil)))) (pa_cons (pv 5) pa_nil)))))))))), ?_⟩
  obtain ⟨d, kvs, σ, t, v, b, rfl, hd, hF, ht, hT, hsz, hn, hf, q⟩ := h
  cases t with
  | name k =>
    obtain ⟨a, rfl, h1⟩ := ht
    refine ⟨_, rfl, a, _, 0, _, rfl, rfl, SqT.of h1, rfl, rfl, _, rfl, ift eRf ?_⟩
    refine ⟨_, rfl, ?_⟩
    exact q _ H (Gr.refl hT) ⟨a, rfl, h1⟩
  | sign u ps =>
    obtain ⟨a, b2, vs, rfl, h1, h2, h3⟩ := ht
    have h4 := atL_ps.mp h3
    have h5 := h4.len
    have h6 := tsL_len ps
    rw [nd_sign] at hsz
    rw [ht_sign] at hn
    refine ⟨_, rfl, a, _, 0, _, rfl, rfl, SqT.of h1, rfl, rfl, _, rfl, iff' eSN ?_⟩
    refine ⟨_, rfl, a, _, 0, _, rfl, rfl, SqT.of h1, rfl, rfl, _, rfl, ift eRf ?_⟩
    refine ⟨_, rfl, a, _, 2, _, rfl, rfl, SqT.of h1, rfl, b2, rfl, ⟨_, SqT.of h2⟩, fun D hD => ?_⟩
    refine lc_mapT (T := TT K) (K := K) (a := b2) (xs := vs) (fun H i y => ∃ z, (tsL ps)[i]? = some z ∧ AtP H (z.1, HF.fil (HF.sg σ) z.2) y) hT hD (SqT.of h2) (szl (by omega)) (fun H H' i y g ⟨z, e, p⟩ => ⟨z, e, p.mono g⟩)
      (fun H i y acc e ⟨z, e2, p⟩ l => ⟨z, e2, p.upd e⟩) (fun i x H' Q' Pz hx g hq => ?_) fun H' ys g hy hlen hr' => ?_
    · obtain ⟨z, e, p⟩ := h4.get hx
      obtain ⟨cc, tv, rfl, p1, p2⟩ := p.mono g
      obtain ⟨hh, hnd⟩ := htL_get e
      refine ⟨cc, _, rfl, SqT.of p1, rfl, _, _, rfl, _, _, rfl, rfl, rfl, yesT ?_⟩
      refine ⟨_, rfl, _, rfl, _, rfl, _, rfl, _, rfl, _, _, rfl, rfl, d, kvs, σ, z.2, tv, b + z.1, rfl, g.dK hd, hF.mono g, p2, g.tab, by omega, by omega, hf.mono fun y hy => ?_, fun v' H2 g2 at2 => ?_⟩
      · show y ∈ HF.hsL ps
        rw [hsL_P]
        exact List.mem_flatMap.mpr ⟨z, List.mem_of_getElem? e, hy⟩
      refine ⟨szl (by show 2 ≤ 10000000; decide), fun p hp => ?_⟩
      have g3 := Gr.new (X := []) (o := .tup [.int (z.1 : Int), v']) g2 hp
      exact hq _ _ g3 ⟨z, e, p, v', rfl, upd_same, at2.mono (Gr.new0 (X := []) g2.tab hp)⟩
    · refine ⟨_, rfl, a, _, 1, _, rfl, rfl, SqT.of (g.tup _ _ h1), rfl, _, rfl, D, ys, rfl, .inl ⟨SqL.of hy, fun l hl => ?_⟩⟩
      have g2 := Gr.new (X := []) (o := .tup ys) g hl
      refine ⟨szl (by show 3 ≤ 10000000; decide), fun p hp => ?_⟩
      have g3 := Gr.new (X := []) (o := .tup [.str "sign", .str u, .ref l]) g2 hp
      refine q _ _ g3 ⟨p, l, ys, rfl, upd_same, ?_, ?_⟩
      · rw [upd_ne (ne_of_none upd_same hp)]; exact upd_same
      · refine atL_ps.mpr ((AtPs.of (by rw [hlen, h5, tsL_filL, List.length_map]) fun j y ej => ?_).mono ((Gr.new0 (X := []) (o := .tup ys) g.tab hl).new hp))
        obtain ⟨z, e1, p1⟩ := hr' j y ej
        exact ⟨_, by rw [tsL_filL, List.getElem?_map, e1] <;> rfl, p1⟩
  | hole u ns =>
    obtain ⟨a, b2, vs, rfl, h1, h2, h3⟩ := ht
    have h5 := h3.len
    rw [nd_hole] at hsz
    have hh9 : HF.ht (HF.T.hole u ns : Tm) = 2 := rfl
    refine ⟨_, rfl, a, _, 0, _, rfl, rfl, SqT.of h1, rfl, rfl, _, rfl, iff' eHN ?_⟩
    refine ⟨_, rfl, a, _, 0, _, rfl, rfl, SqT.of h1, rfl, rfl, _, rfl, iff' eHS ?_⟩
    refine ⟨_, rfl, a, _, 2, _, rfl, rfl, SqT.of h1, rfl, b2, rfl, ⟨_, SqT.of h2⟩, fun D hD => ?_⟩
    refine lc_mapT (T := TT K) (K := K) (a := b2) (xs := vs) (fun H i y => ∃ k, ns[i]? = some k ∧ At H (.name k) y) hT hD (SqT.of h2) (szl (by omega)) (fun H H' i y g ⟨z, e, p⟩ => ⟨z, e, p.mono g⟩)
      (fun H i y acc e ⟨z, e2, p⟩ l => ⟨z, e2, p.upd e⟩) (fun i x H' Q' Pz hx g hq => ?_) fun H' ys g hy hlen hr' => ?_
    · obtain ⟨k, e, p⟩ := h3.get hx
      refine ⟨rfl, yesT ?_⟩
      refine ⟨_, rfl, _, rfl, _, rfl, d, kvs, σ, .name k, x, b, rfl, g.dK hd, hF.mono g, p.mono g, g.tab, (by show 1 ≤ 4000000; decide), (by show 1 ≤ n; omega), fun _ _ z => (by cases z), fun v' H2 g2 at2 => hq _ _ g2 ⟨k, e, at2⟩⟩
    have hat : AtN H' ns ys := AtN.of (by rw [hlen, h5]) hr'
    have hd2 := g.dK hd
    rcases (hF.mono g).get u with ⟨e1, e2⟩ | ⟨p, m, tt, tv, e1, e2, hp1, hp2⟩
    · refine ⟨_, rfl, a, _, 1, _, rfl, rfl, SqT.of (g.tup _ _ h1), rfl, _, rfl, d, _, rfl, DGet.k (k := Sum.inr u) hd2, ?_⟩
      rw [e2]
      refine ⟨_, rfl, iteT ?_⟩
      refine ⟨_, rfl, a, _, 1, _, rfl, rfl, SqT.of (g.tup _ _ h1), rfl, _, rfl, D, ys, rfl, .inl ⟨SqL.of hy, fun l hl => ?_⟩⟩
      have g2 := Gr.new (X := []) (o := .tup ys) g hl
      refine ⟨szl (by show 3 ≤ 10000000; decide), fun p hp => ?_⟩
      have g3 := Gr.new (X := []) (o := .tup [.str "hole", .str u, .ref l]) g2 hp
      refine q _ _ g3 ?_
      rw [fil_hole, e1]
      refine ⟨p, l, ys, rfl, upd_same, ?_, ?_⟩
      · rw [upd_ne (ne_of_none upd_same hp)]; exact upd_same
      · exact hat.mono ((Gr.new0 (X := []) (o := .tup ys) g.tab hl).new hp)
    · obtain ⟨hm, hc, hu1, hu2⟩ := hf u ns.length (List.mem_singleton.mpr rfl) m tt e1
      refine ⟨_, rfl, a, _, 1, _, rfl, rfl, SqT.of (g.tup _ _ h1), rfl, _, rfl, d, _, rfl, DGet.k (k := Sum.inr u) hd2, ?_⟩
      rw [e2]
      refine ⟨_, rfl, iteF ?_⟩
      have dg : DGet H' d (.str u) (some (.ref p)) := by
        have := DGet.k (k := Sum.inr u) hd2
        rw [e2] at this
        exact this
      refine ⟨_, rfl, _, rfl, a, _, 1, _, rfl, rfl, SqT.of (g.tup _ _ h1), rfl, d, _, rfl, dg, ?_⟩
      refine ⟨p, _, rfl, SqT.of hp1, rfl, _, _, rfl, _, _, rfl, rfl, ?_⟩
      refine ⟨_, rfl, _, rfl, _, rfl, tt, tv, b, m, rfl, hp2, g.tab, hu1, hu2, fun v1 H2 g2 at2 => ?_⟩
      refine ⟨_, rfl, HF.ren (rsd b m) 0 tt, v1, D, ys, ns, rfl, at2, g2.lst hy, hat.mono g2, g2.tab, by rw [HF.nd_ren]; exact hu1, by rw [HF.ht_ren]; exact hu2, fun v3 H3 g3 at3 => ?_⟩
      refine q v3 H3 ((g.trans g2).trans g3) ?_
      rw [fil_hole, e1]
      rw [put_fil hm hc] at at3
      exact at3
theorem ok_within (S : Cn K mg base) (m2 : Nat) (hR : Has P w K mg base "raised" (1 + m2 + 1) ["term", "more", "inner"] [] (spRaised (TT K) m2)) (hP : Has P w K mg base "put_in" (4 + m2 + 1) ["term", "some"] [] (spPut (TT K) m2)) :
    ∀ n, Has P w K mg base "filled_within" (5 + m2 + n) ["filling", "term", "bound"] [] (spWithin (TT K) m2 n)
  | 0 => by
    refine Has.imp (Has.mono (has_zero (d := d_filled_within) S 6 6 (ps := ["filling", "term", "bound"]) (sp := fun _ _ _ _ => False) rfl rfl rfl rfl rfl (fun _ _ _ _ _ _ us hl => match us, hl with | [_, _, _], _ => rfl) (fun vs H Q E h => h)) (Nat.zero_le _)) fun vs H Q E h => ?_
    obtain ⟨d, kvs, σ, t, v, b, _, _, _, _, _, _, hn, _⟩ := h
    have := HF.ht_pos t
    omega
  | n + 1 => ok_within1 S m2 n hR hP (ok_within S m2 hR hP n)
/-! filled -/
def spFilled (T : List NTab) (m2 n : Nat) : Sp := fun vs H Q _ => ∃ (d : Addr) (kvs : List (Key × V)) (σ : HF.Fl Str) (t : Tm) (v : V), vs = [.ref d, v] ∧ H d = some (.dK kvs) ∧ AtF H kvs σ ∧ At H t v ∧ TabsN T H ∧ HF.nd t ≤ 4000000 ∧ HF.ht t ≤ n ∧ fit m2 σ (HF.hs t) ∧
  ∀ v' H', Gr T [] H H' → At H' (HF.fil (HF.sg σ) t) v' → Q v' H'
theorem sc_filled : FnScope ["filling", "term"] ["filling", "term"] (defScope s_filled) := ⟨rfl, rfl, rfl, by decide +kernel, rfl, by decide +kernel, by decide +kernel⟩
theorem ok_filled (S : Cn K mg base) (m2 n : Nat) (hF : Has P w K mg base "filled_within" (5 + m2 + n) ["filling", "term", "bound"] [] (spWithin (TT K) m2 n)) :
    Has P w K mg base "filled" (5 + m2 + n + 1) ["filling", "term"] [] (spFilled (TT K) m2 n) := by
  refine has_of (d := d_filled) S 7 7 rfl rfl rfl rfl rfl sc_filled (fun vs H Q E h => ?_) (fun _ _ _ _ _ _ us hl => match us, hl with | [_, _], _ => rfl) (fun f cdv A outer s H vs Q E hr h => ?_)
  · obtain ⟨d, kvs, σ, t, v, rfl, _⟩ := h
    rfl
  refine ⟨_, (pss_one (ps_ret (pe_hs hF hr (by omega) rfl (pa_cons (pv 0) (pa_cons (pv 1) (pa_cons pe_int pa_nil)))))), ?_⟩
  obtain ⟨d, kvs, σ, t, v, rfl, hd, hF, ht, hT, hsz, hn, hf, q⟩ := h
  exact ⟨_, rfl, _, rfl, d, kvs, σ, t, v, 0, rfl, hd, hF, ht, hT, hsz, hn, hf, q⟩
/-! behind -/
theorem Gr.unl {T : List NTab} {H H1 : Hp} {d : Addr} {kvs : List (Key × V)} {od : Obj} {u : HO} (g : Gr T [d] H H1) (h1 : H d = some (.dK kvs)) (h2 : H1 d = some (.frz od u)) : Gr T [] H (upd H1 d (.dK kvs)) := by
  have g2 := g.mut (o := .dK kvs) (.inr (by simp)) h2 (fun _ z => by cases z) (fun _ z => by cases z) (fun _ z => by cases z)
  refine ⟨fun b o _ hb n => ?_, g2.tup, g2.back, g2.tab⟩
  by_cases e : b = d
  · rw [e] at hb ⊢
    rw [upd_same, ← h1]; exact hb
  · exact g2.ext b o (by simp [e]) hb n
def filF (τ : Str → Option Tm) (σ : HF.Fl Str) : HF.Fl Str := fun x => (σ x).map fun y => (y.1, HF.fil τ y.2)
def behF (σ τ : HF.Fl Str) : HF.Fl Str := fun x => match σ x with
  | some (k, u) => some (k, HF.fil (HF.sg τ) u)
  | none => τ x
def spBehind (T : List NTab) (m2 n : Nat) : Sp := fun vs H Q _ => ∃ (d e : Addr) (kvs lvs : List (Key × V)) (σ τ : HF.Fl Str), vs = [.ref d, .ref e] ∧ d ≠ e ∧ H d = some (.dK kvs) ∧ AtF H kvs σ ∧ H e = some (.dK lvs) ∧ AtF H lvs τ ∧ TabsN T H ∧ kvs.length ≤ 4000000 ∧ lvs.length ≤ 4000000 ∧
  (∀ u k t, σ u = some (k, t) → HF.nd t ≤ 4000000 ∧ HF.ht t ≤ n ∧ fit m2 τ (HF.hs t)) ∧
  ∀ (p : Addr) (H' : Hp) (mvs : List (Key × V)), Gr T [] H H' → H p = Option.none → H' p = some (.dK mvs) → AtF H' mvs (behF σ τ) → mvs.length ≤ kvs.length + lvs.length → Q (.ref p) H'
theorem sc_behind : FnScope ["first", "then", "found", "word", "filler", "many", "term"] ["first", "then"] (defScope s_behind) := ⟨rfl, rfl, rfl, by decide +kernel, rfl, by decide +kernel, by decide +kernel⟩
theorem ok_behind (S : Cn K mg base) (m2 n : Nat) (hF : Has P w K mg base "filled_within" (5 + m2 + n) ["filling", "term", "bound"] [] (spWithin (TT K) m2 n)) :
    Has P w K mg base "behind" (5 + m2 + n + 1) ["first", "then"] [] (spBehind (TT K) m2 n) := by
  refine has_of (d := d_behind) S 8 8 rfl rfl rfl rfl rfl sc_behind (fun vs H Q E h => ?_) (fun _ _ _ _ _ _ us hl => match us, hl with | [_, _], _ => rfl) (fun f cdv A outer s H vs Q E hr h => ?_)
  · obtain ⟨d, e, kvs, lvs, σ, τ, rfl, _⟩ := h
    rfl
  refine ⟨_, (pss_cons (ps_set (i := 2) sc_behind.nd rfl (Or.inl rfl) pe_dnewK) (pss_cons (ps_lock (ps_for PassesOwn.never rfl (pi_items (pv 0)) (pg_tup rfl (pgs_cons (pg_name (i := 3) sc_behind.nd rfl (Or.inl rfl)) (pgs_cons (pg_name (i := 4) sc_behind.nd rfl (Or.inl rfl)) pgs_nil))) (pss_cons (ps_asg (pv 4) (pg_tup rfl (pgs_cons (pg_name (i := 5) sc_behind.nd rfl (Or.inl rfl)) (pgs_cons (pg_name (i := 6) sc_behind.nd rfl (Or.inl rfl)) pgs_nil)))) (pss_one (ps_dput (hu_of hr) (pv 2) (pv 3) (pe_tup (pa_cons (pv 5) (pa_cons (pe_hs hF hr (by omega) rfl (pa_cons (pv 1) (pa_cons (pv 6) (pa_cons (pv 5) pa_nil)))) pa_nil))) rfl))))) (pss_cons (ps_lock (ps_for PassesOwn.never rfl (pi_items (pv 1)) (pg_tup rfl (pgs_cons (pg_name (i := 3) sc_behind.nd rfl (Or.inl rfl)) (pgs_cons (pg_name (i := 4) sc_behind.nd rfl (Or.inl rfl)) pgs_nil))) (pss_one (ps_expr (pe_dsetd (pv 2) (pv 3) (pv 4) ⟨rfl, rfl, rfl, rfl⟩))))) (pss_one (ps_ret (pv 2)))))), ?_⟩
  obtain ⟨d, e, kvs, lvs, σ, τ, rfl, hde, hd, hF, he, hG, hT, hl1, hl2, hs, q⟩ := h
  refine fun p hp => ?_
  have g0 := Gr.new0 (X := []) (o := .dK []) hT hp
  have nd : ∀ {z : Addr} {o : HO}, H z = some o → z ≠ p := fun h z => by rw [z, hp] at h; cases h
  have np : d ≠ p := nd hd
  have ne' : e ≠ p := nd he
  refine ⟨d, .dK kvs, g0.dK hd, trivial, fun od => ?_⟩
  have g1 := (g0.wide (X := [d])).mutD (o := .frz od (.dK kvs)) (.inr (by simp)) (g0.dK hd)
  refine ⟨_, rfl, d, od, kvs, rfl, upd_same, ?_⟩
  refine for_it (walk_items (d := d) (o := od) (kvs := kvs)) (fun i σ' H' => ∃ o1 o2 o3 o4 mvs, σ' = [some (.ref d), some (.ref e), some (.ref p), o1, o2, o3, o4] ∧ Gr (TT K) [d] H H' ∧ H' d = some (.frz od (.dK kvs)) ∧ H' p = some (.dK mvs) ∧ mvs.length ≤ i ∧
      (∀ z ∈ mvs, ∃ u q m t tv, z = (.inr u, .ref q) ∧ filF (HF.sg τ) σ u = some (m, t) ∧ H' q = some (.tup [.int ((m : Nat) : Int), tv]) ∧ At H' t tv) ∧ ∀ z ∈ kvs.take i, ∃ y, valV mvs z.1 = some y)
    ⟨_, _, _, _, [], rfl, g1, upd_same, by rw [upd_ne np.symm]; exact upd_same, Nat.zero_le _, fun z hz => (by cases hz), fun z hz => (by simp at hz)⟩ (fun j σ' H' _ ⟨_, _, _, _, _, _, _, e, _⟩ => e) ?_ ?_
  · rintro i x σ' H' H2 hi ⟨o1, o2, o3, o4, mvs, rfl, g, ed, ep, hml, hm1, hm2⟩ ⟨p', x1, x2, rfl, hp', rfl, ex1, ex2⟩
    obtain ⟨z, ez⟩ : ∃ z, kvs[i]? = some z := ⟨_, List.getElem?_eq_getElem hi⟩
    obtain ⟨u, r, m, t, tv, rfl, s1, s2, s3⟩ := hF.mem z (List.mem_of_getElem? ez)
    obtain ⟨rfl, rfl⟩ := itAt ez ex1 ex2
    obtain ⟨hb1, hb2, hb3⟩ := hs u m t s1
    have g2 := g.new (o := .tup [kV (Sum.inr u), .ref r]) hp'
    have ep2 : (upd H' p' (.tup [kV (Sum.inr u), .ref r])) p = some (.dK mvs) := by rw [upd_ne (ne_of_none ep hp')]; exact ep
    have ed2 : (upd H' p' (.tup [kV (Sum.inr u), .ref r])) d = some (.frz od (.dK kvs)) := by rw [upd_ne (ne_of_none ed hp')]; exact ed
    refine ⟨p', _, rfl, SqT.of upd_same, rfl, _, _, rfl, _, _, rfl, rfl, ?_⟩
    refine ⟨_, rfl, r, _, rfl, SqT.of (g2.tup _ _ s2), rfl, _, _, rfl, _, _, rfl, rfl, ?_⟩
    have g2' : Gr (TT K) [] H' (upd H' p' (.tup [kV (Sum.inr u), .ref r])) := Gr.new0 g.tab hp'
    refine ⟨_, rfl, _, rfl, _, rfl, _, rfl, e, lvs, τ, t, tv, m, rfl, g2.dK he (by simp; exact hde.symm), hG.mono g2, s3.mono g2, g2.tab, hb1, hb2, hb3, fun v' H3 g3 at3 => ?_⟩
    refine ⟨szl (by show 2 ≤ 10000000; decide), fun p4 hp4 => ?_⟩
    have g4 := g3.new (o := .tup [.int ((m : Nat) : Int), v']) hp4
    refine ⟨_, rfl, _, rfl, p, _, rfl, DPut.k (k := Sum.inr u) (g4.dK ep2) (szl' (by omega)), ?_⟩
    have gg := (g2.trans g4.wide).mutD (o := .dK (putK mvs (Sum.inr u) (.ref p4))) (.inl hp) (g4.dK ep2)
    refine ⟨_, _, _, _, _, rfl, gg, ?_, upd_same, Nat.le_trans (length_putK _ _ _) (by omega), fun z hz => ?_, fun z hz => ?_⟩
    · rw [upd_ne np]
      exact g4.ext _ _ (by simp) ed2 fun _ z => by cases z
    · rcases mem_putK hz with e1 | e1
      · refine ⟨u, p4, m, HF.fil (HF.sg τ) t, v', e1, by unfold filF; rw [s1] <;> rfl, ?_, ?_⟩
        · rw [upd_ne (ne_of upd_same (g4.dK ep2) fun z => by cases z)]; exact upd_same
        · exact At.mono ((Gr.refl (X := [p]) g4.tab).mutD (o := .dK (putK mvs (Sum.inr u) (.ref p4))) (.inr (by simp)) (g4.dK ep2)) (at3.mono (Gr.new0 (X := []) g3.tab hp4))
      · obtain ⟨x, q2, m', t', tv', e2, e3, e4, e5⟩ := hm1 z e1
        have gz : Gr (TT K) [p] H' (upd (upd H3 p4 (.tup [.int ((m : Nat) : Int), v'])) p (.dK (putK mvs (Sum.inr u) (.ref p4)))) := (g2'.trans g4).wide.mutD (.inr (by simp)) (g4.dK ep2)
        exact ⟨x, q2, m', t', tv', e2, e3, gz.tup _ _ e4, e5.mono gz⟩
    · rw [valV_put]
      by_cases hk : z.1 = Sum.inr u
      · exact ⟨.ref p4, by rw [if_pos hk]⟩
      · rw [if_neg hk]
        rw [take_snoc ez] at hz
        rcases List.mem_append.mp hz with q1 | q1
        · exact hm2 z q1
        · rw [List.mem_singleton.mp q1] at hk; exact absurd rfl hk
  · rintro σ' H' ⟨o1, o2, o3, o4, mvs, rfl, g, ed, ep, hml, hm1, hm2⟩
    refine ⟨ed, ?_⟩
    have g5 := g.unl hd ed
    have ep5 : (upd H' d (.dK kvs)) p = some (.dK mvs) := by rw [upd_ne np.symm]; exact ep
    have gz : Gr (TT K) [d] H' (upd H' d (.dK kvs)) := (Gr.refl g.tab).mut (.inr (by simp)) ed (fun _ z => by cases z) (fun _ z => by cases z) (fun _ z => by cases z)
    have hm3 : ∀ z ∈ mvs, ∃ u q m t tv, z = (.inr u, .ref q) ∧ behF σ τ u = some (m, t) ∧ (upd H' d (.dK kvs)) q = some (.tup [.int ((m : Nat) : Int), tv]) ∧ At (upd H' d (.dK kvs)) t tv := fun z hz => by
      obtain ⟨x, q2, m', t', tv', e2, e3, e4, e5⟩ := hm1 z hz
      refine ⟨x, q2, m', t', tv', e2, ?_, gz.tup _ _ e4, e5.mono gz⟩
      unfold filF at e3
      unfold behF
      cases hx : σ x with
      | none => rw [hx] at e3; cases e3
      | some y => rw [hx] at e3; exact e3
    have hm4 : ∀ u x, σ u = some x → ∃ y, valV mvs (.inr u) = some y := fun u x hx => by
      obtain ⟨y, hy⟩ := hF.all u x hx
      exact hm2 (.inr u, y) (by rw [List.take_length]; exact mem_of_valV hy)
    generalize upd H' d (.dK kvs) = H5 at g5 ep5 hm3 ⊢
    have g6 := (g5.wide (X := [e])).mutD (o := .frz od (.dK lvs)) (.inr (by simp)) (g5.dK he)
    refine ⟨e, .dK lvs, g5.dK he, trivial, fun od => ?_⟩
    have g6 := (g5.wide (X := [e])).mutD (o := .frz od (.dK lvs)) (.inr (by simp)) (g5.dK he)
    refine ⟨_, rfl, e, od, lvs, rfl, upd_same, ?_⟩
    have gy : Gr (TT K) [e] H5 (upd H5 e (.frz od (.dK lvs))) := (Gr.refl g5.tab).mutD (.inr (by simp)) (g5.dK he)
    refine for_it (walk_items (d := e) (o := od) (kvs := lvs)) (fun i σ' H' => ∃ o1 o2 o3 o4 mvs, σ' = [some (.ref d), some (.ref e), some (.ref p), o1, o2, o3, o4] ∧ Gr (TT K) [e] H H' ∧ H' e = some (.frz od (.dK lvs)) ∧ H' p = some (.dK mvs) ∧ mvs.length ≤ kvs.length + i ∧
        (∀ z ∈ mvs, ∃ u q m t tv, z = (.inr u, .ref q) ∧ behF σ τ u = some (m, t) ∧ H' q = some (.tup [.int ((m : Nat) : Int), tv]) ∧ At H' t tv) ∧ (∀ u x, σ u = some x → ∃ y, valV mvs (.inr u) = some y) ∧ ∀ z ∈ lvs.take i, ∃ y, valV mvs z.1 = some y)
      ⟨_, _, _, _, mvs, rfl, g6, upd_same, by rw [upd_ne ne'.symm]; exact ep5, by omega, fun z hz => (let ⟨u, q, m, t, tv, a1, a2, a3, a4⟩ := hm3 z hz; ⟨u, q, m, t, tv, a1, a2, gy.tup _ _ a3, a4.mono gy⟩), hm4, fun z hz => (by simp at hz)⟩ (fun j σ' H' _ ⟨_, _, _, _, _, _, _, e, _⟩ => e) ?_ ?_
    · clear hm3 hm4 hm1 hm2 ep5 ep hml gy g6
      rintro i x σ' H' H2 hi ⟨o1, o2, o3, o4, mvs, rfl, g, ed, ep, hml, hm1, hm2, hm3⟩ ⟨p', x1, x2, rfl, hp', rfl, ex1, ex2⟩
      obtain ⟨z, ez⟩ : ∃ z, lvs[i]? = some z := ⟨_, List.getElem?_eq_getElem hi⟩
      obtain ⟨u, r, m, t, tv, rfl, s1, s2, s3⟩ := hG.mem z (List.mem_of_getElem? ez)
      obtain ⟨rfl, rfl⟩ := itAt ez ex1 ex2
      have g2 := g.new (o := .tup [kV (Sum.inr u), .ref r]) hp'
      have g2' : Gr (TT K) [] H' (upd H' p' (.tup [kV (Sum.inr u), .ref r])) := Gr.new0 g.tab hp'
      have ep2 : (upd H' p' (.tup [kV (Sum.inr u), .ref r])) p = some (.dK mvs) := by rw [upd_ne (ne_of_none ep hp')]; exact ep
      have ed2 : (upd H' p' (.tup [kV (Sum.inr u), .ref r])) e = some (.frz od (.dK lvs)) := by rw [upd_ne (ne_of_none ed hp')]; exact ed
      refine ⟨p', _, rfl, SqT.of upd_same, rfl, _, _, rfl, _, _, rfl, rfl, ?_⟩
      refine ⟨_, rfl, p, rfl, .inl ⟨_, .inl ep2⟩, _, rfl, _, rfl, mvs, Sum.inr u, ep2, rfl, szl' (by omega), fun v hv => ?_, fun hv => ?_⟩
      · refine ⟨_, _, _, _, mvs, rfl, g2, ed2, ep2, by omega, fun z hz => (let ⟨u, q, m, t, tv, a1, a2, a3, a4⟩ := hm1 z hz; ⟨u, q, m, t, tv, a1, a2, g2'.tup _ _ a3, a4.mono g2'⟩), hm2, fun z hz => ?_⟩
        rw [take_snoc ez] at hz
        rcases List.mem_append.mp hz with q1 | q1
        · exact hm3 z q1
        · rw [List.mem_singleton.mp q1]; exact ⟨v, hv⟩
      · have gz : Gr (TT K) [p] H' (upd (upd H' p' (.tup [kV (Sum.inr u), .ref r])) p (.dK (putK mvs (Sum.inr u) (.ref r)))) := g2'.wide.mutD (.inr (by simp)) ep2
        refine ⟨_, _, _, _, _, rfl, g2.mutD (.inl hp) ep2, by rw [upd_ne ne']; exact ed2, upd_same, Nat.le_trans (length_putK _ _ _) (by omega), fun z hz => ?_, fun x y hx => ?_, fun z hz => ?_⟩
        · rcases mem_putK hz with e1 | e1
          · refine ⟨u, r, m, t, tv, e1, ?_, gz.tup _ _ (g.tup _ _ s2), (s3.mono g).mono gz⟩
            unfold behF
            cases hx : σ u with
            | none => exact s1
            | some y =>
              obtain ⟨y2, hy2⟩ := hm2 u y hx
              rw [hv] at hy2; cases hy2
          · obtain ⟨x, q2, m', t', tv', e2, e3, e4, e5⟩ := hm1 z e1
            exact ⟨x, q2, m', t', tv', e2, e3, gz.tup _ _ e4, e5.mono gz⟩
        · rw [valV_put]
          by_cases hk : (Sum.inr x : Key) = Sum.inr u
          · exact ⟨_, if_pos hk⟩
          · rw [if_neg hk]; exact hm2 x y hx
        · rw [valV_put]
          by_cases hk : z.1 = Sum.inr u
          · exact ⟨_, if_pos hk⟩
          · rw [if_neg hk]
            rw [take_snoc ez] at hz
            rcases List.mem_append.mp hz with q1 | q1
            · exact hm3 z q1
            · rw [List.mem_singleton.mp q1] at hk; exact absurd rfl hk
    · clear hm3 hm4 hm1 hm2 ep5 ep hml gy g6
      rintro σ' H' ⟨o1, o2, o3, o4, mvs, rfl, g, ed, ep, hml, hm1, hm2, hm3⟩
      refine ⟨ed, ?_⟩
      have g7 := g.unl he ed
      have gz : Gr (TT K) [e] H' (upd H' e (.dK lvs)) := (Gr.refl g.tab).mut (.inr (by simp)) ed (fun _ z => by cases z) (fun _ z => by cases z) (fun _ z => by cases z)
      refine ⟨_, rfl, q p _ mvs g7 hp (by rw [upd_ne ne'.symm]; exact ep) ⟨fun z hz => ?_, fun x y hx => ?_⟩ hml⟩
      · obtain ⟨x, q2, m', t', tv', e2, e3, e4, e5⟩ := hm1 z hz
        exact ⟨x, q2, m', t', tv', e2, e3, gz.tup _ _ e4, e5.mono gz⟩
      · unfold behF at hx
        cases h8 : σ x with
        | some y8 => exact hm2 x y8 h8
        | none =>
          rw [h8] at hx
          obtain ⟨y9, h9⟩ := hG.all x y hx
          exact hm3 (.inr x, y9) (by rw [List.take_length]; exact mem_of_valV h9)
end

end HW
end
section
set_option Elab.async false
set_option linter.all false
set_option maxRecDepth 100000
set_option maxHeartbeats 4000000
namespace HW
open PySem PySem.Spec PyProof.Rows L2 NdefX LamX
/-! ### methods -/
section
variable {P : Program} {w : World} {K : PySem.W.Frag} {mg : Str → Option Value} {base : Heap}
theorem Cn.gstr (S : Cn K mg base) (i : Nat) {x z : Str} (h : fa[i]? = some (.str x z) := by rfl) : ∃ u, mg x = some u ∧ RelV (.str z) u := (let ⟨t, e⟩ := He.str_ok S.X S.G (S.c.fact i h); ⟨_, e, t, rfl⟩)
theorem Cn.gint (S : Cn K mg base) (i : Nat) {x : Str} {z : Int} (h : fa[i]? = some (.int x z) := by rfl) : ∃ u, mg x = some u ∧ RelV (.int z) u := (let ⟨t, e⟩ := He.int_ok S.X S.G (S.c.fact i h); ⟨_, e, t, rfl⟩)
theorem Cn.cls (S : Cn K mg base) (i : Nat) {x : Str} (h : fa[i]? = some (.cls x) := by rfl) : Cls K (He.ga K x) := He.cls_ok (S.c.fact i h)
theorem Cn.noat (S : Cn K mg base) (i : Nat) {x f : Str} (h : fa[i]? = some (.noat x f) := by rfl) : NoAttr K (He.ga K x) f := He.noat_ok (S.c.fact i h)
theorem met_of {d : He.DefD} {x m : Str} {N ps : List Str} {k : Nat} {sp : Sp} (S : Cn K mg base) (i j jc : Nat) (hd : fn[i]? = some d) (hg : fa[j]? = some (.meth x m)) (hc : fa[jc]? = some (.cls x)) (hat : d.at_ = (x, some m)) (hdf : d.dfl = []) (hkw : d.kwd = [])
    (Sc : FnScope N ps d.scope) (len : ∀ vs H Q E, sp vs H Q E → vs.length = ps.length)
    (hb : ∀ (kV doc pm : Value) (an : Option Addr) (cdv ct : Value) (us : List Value), us.length = ps.length → bindArgs (PySem.W.fnOf d.name d.qual d.params d.body d.scope .none kV doc pm an cdv ct) ⟨us, []⟩ = pure (ps.zip us))
    (hbody : ∀ (f : Addr) (cdv : Value) (A : Around) (outer : List Env) (s : Shared) (H : Hp) (vs : List V) (Q : VK) (E : XK), Room k (A.deeper (envOfC d.qual d.scope s.heap.objs.size f cdv)) → sp vs H Q E →
      ∃ t, PSs (cxOf CX0 P w K mg base N d.qual d.scope f cdv A outer s H E).nox d.body t ∧ t { nx := fun _ H' => Q .non H', rt := Q } (start N vs) H) : C8.Met P w K mg base (k + 1) (He.ga K x) m sp [] := by
  obtain ⟨fd, F⟩ := S.c.def_ i hd
  have e1 : d.dvs K = [] := by unfold He.DefD.dvs; rw [hdf]; rfl
  have e2 : d.kws K = [] := by unfold He.DefD.kws; rw [hkw]; rfl
  rw [e1, e2] at F
  have ef : He.fAd K d.at_ = He.ma K (He.ga K x) m := by rw [hat]; rfl
  have fo : FnOk P w K mg base CX0 (k + 1) (He.fAd K d.at_) fd ps sp := F.ok Sc len fun cdv A outer s H vs Q E hr h => (let ⟨t, h1, h2⟩ := hbody _ cdv A outer s H vs Q E hr h; ⟨t, h1.nox, h2⟩)
  have bi := F.bindsN hb
  rw [ef] at fo
  exact ⟨_, fd, ps, [], S.cls jc hc, He.meth_ok (S.c.fact j hg), fo, bi, .nil⟩
theorem mak_of {d : He.DefD} {x : Str} {N ps : List Str} {k : Nat} {sp : Sp} (S : Cn K mg base) (i j jg : Nat) (hd : fn[i]? = some d) (hg : fa[j]? = some (.mkr x)) (hc : fa[jg]? = some (.glo x)) (hat : d.at_ = (x, some ("__init__" : Str))) (hdf : d.dfl = []) (hkw : d.kwd = [])
    (Sc : FnScope N ps d.scope) (len : ∀ vs H Q E, sp vs H Q E → vs.length = ps.length)
    (hb : ∀ (kV doc pm : Value) (an : Option Addr) (cdv ct : Value) (us : List Value), us.length = ps.length → bindArgs (PySem.W.fnOf d.name d.qual d.params d.body d.scope .none kV doc pm an cdv ct) ⟨us, []⟩ = pure (ps.zip us))
    (hbody : ∀ (f : Addr) (cdv : Value) (A : Around) (outer : List Env) (s : Shared) (H : Hp) (vs : List V) (Q : VK) (E : XK), Room k (A.deeper (envOfC d.qual d.scope s.heap.objs.size f cdv)) → sp vs H Q E →
      ∃ t, PSs (cxOf CX0 P w K mg base N d.qual d.scope f cdv A outer s H E).nox d.body t ∧ t { nx := fun _ H' => Q .non H', rt := Q } (start N vs) H) : C8.Mak P w K mg base (k + 1) x (He.ga K x) sp [] := by
  obtain ⟨fd, F⟩ := S.c.def_ i hd
  have e1 : d.dvs K = [] := by unfold He.DefD.dvs; rw [hdf]; rfl
  have e2 : d.kws K = [] := by unfold He.DefD.kws; rw [hkw]; rfl
  rw [e1, e2] at F
  have ef : He.fAd K d.at_ = He.ma K (He.ga K x) "__init__" := by rw [hat]; rfl
  have fo : FnOk P w K mg base CX0 (k + 1) (He.fAd K d.at_) fd ps sp := F.ok Sc len fun cdv A outer s H vs Q E hr h => (let ⟨t, h1, h2⟩ := hbody _ cdv A outer s H vs Q E hr h; ⟨t, h1.nox, h2⟩)
  have bi := F.bindsN hb
  rw [ef] at fo
  exact ⟨_, fd, ps, [], He.mkr_ok (S.c.fact j hg), fo, S.glo jg hc, bi, .nil⟩
end
/-! ### new words -/
def ltr (k : Nat) : Str := ⟨#[97 + k]⟩
def nw6 : Nat → Nat → Str → Str
  | 0, _, u => u
  | k + 1, n, u => nw6 k (n / 26) (ltr (n % 26) ++ u)
def nwf (n : Nat) : Str := ("zz" : Str) ++ nw6 6 n ""
def dg : Nat → Nat → List Nat
  | 0, _ => []
  | k + 1, n => dg k (n / 26) ++ [97 + n % 26]
theorem cps_app (a b : Str) : (a ++ b).cps.toList = a.cps.toList ++ b.cps.toList := by
  show (a.cps ++ b.cps).toList = _
  exact Array.toList_append
theorem nw6_dg : ∀ (k n : Nat) (u : Str), (nw6 k n u).cps.toList = dg k n ++ u.cps.toList
  | 0, _, _ => rfl
  | k + 1, n, u => by
    show (nw6 k (n / 26) (ltr (n % 26) ++ u)).cps.toList = _
    rw [nw6_dg k, cps_app]
    show _ = (dg k (n / 26) ++ [97 + n % 26]) ++ u.cps.toList
    rw [List.append_assoc]
    rfl
theorem dg_inj : ∀ (k n m : Nat), n < 26 ^ k → m < 26 ^ k → dg k n = dg k m → n = m
  | 0, n, m, h1, h2, _ => by simp at h1 h2; omega
  | k + 1, n, m, h1, h2, e => by
    have e : dg k (n / 26) ++ [97 + n % 26] = dg k (m / 26) ++ [97 + m % 26] := e
    obtain ⟨e1, e2⟩ := List.append_inj' e rfl
    rw [Nat.pow_succ] at h1 h2
    have h3 := dg_inj k (n / 26) (m / 26) (Nat.div_lt_of_lt_mul (by omega)) (Nat.div_lt_of_lt_mul (by omega)) e1
    have h4 : 97 + n % 26 = 97 + m % 26 := by simpa using e2
    omega
theorem nwf_inj (i j : Nat) (hi : i < 308915776) (hj : j < 308915776) (e : nwf i = nwf j) : i = j := by
  have e1 := congrArg (fun u : Str => u.cps.toList) e
  unfold nwf at e1
  simp only [cps_app, nw6_dg] at e1
  have e2 := List.append_cancel_left e1
  have e3 := List.append_cancel_right e2
  exact dg_inj 6 i j (by omega) (by omega) e3
theorem nw6_len (k n : Nat) (u : Str) : (nw6 k n u).length = k + u.length := by
  have hd : ∀ k n, (dg k n).length = k := fun k => by
    induction k with
    | zero => intro n; rfl
    | succ k ih => intro n; show (dg k (n / 26) ++ [97 + n % 26]).length = _; rw [List.length_append, ih]; rfl
  have := congrArg List.length (nw6_dg k n u)
  rw [List.length_append, hd, Array.length_toList, Array.length_toList] at this
  exact this
theorem ltr_at : ∀ k : Fin 26, atI ("abcdefghijklmnopqrstuvwxyz" : Str).cps.toList ((k.val : Nat) : Int) = some (97 + k.val) := by decide +kernel
theorem nwf_ne (k : Nat) : nwf k ≠ "" := fun e => by
  have := congrArg (fun u : Str => u.cps.toList) e
  unfold nwf at this
  simp only [cps_app] at this
  have h2 := congrArg List.length this
  rw [List.length_append] at h2
  have : ("zz" : Str).cps.toList.length = 2 := by decide +kernel
  have h3 : ("" : Str).cps.toList.length = 0 := by decide +kernel
  omega
theorem rej {made n : Nat} {L : List Str} (hm : made + 1000 ≤ 308915776) (hl : L.length < 1000) (h : ∀ j, made ≤ j → j < made + n → nwf j ∈ L) : n ≤ L.length := by
  by_cases hn : n ≤ L.length
  · exact hn
  exfalso
  have nd : ((List.range (L.length + 1)).map fun i => nwf (made + i)).Nodup := List.pairwise_map.mpr (List.Pairwise.imp_of_mem (fun {x y} hx hy ne e => ne (by
    have hx := List.mem_range.mp hx
    have hy := List.mem_range.mp hy
    have := nwf_inj (made + x) (made + y) (by omega) (by omega) e
    omega)) List.nodup_range)
  have := nodup_len _ L nd fun x hx => (by
    obtain ⟨i, hi, rfl⟩ := List.mem_map.mp hx
    have hi := List.mem_range.mp hi
    exact h (made + i) (by omega) (by omega))
  rw [List.length_map, List.length_range] at this
  omega
/-- a solver in the heap -/
structure SvAt (K : PySem.W.Frag) (H : Hp) (sv dx ls ot ow sf : Addr) (S1 S2 : List (Str × Nat)) (made : Nat) : Prop where
  ins : H sv = some (.ins (He.ga K "Solver") dx [("sides", .ref ls), ("others", .ref ot), ("own", .ref ow), ("made", .int ((made : Nat) : Int)), ("so_far", .ref sf)])
  own : ∃ kvs, H ow = some (.dK kvs) ∧ Cnt kvs S1
  oth : ∃ kvs, H ot = some (.dK kvs) ∧ Cnt kvs S2
section
variable {P : Program} {w : World} {K : PySem.W.Frag} {mg : Str → Option Value} {base : Heap}
def spNew (K : PySem.W.Frag) (T : List NTab) : Sp := fun vs H Q _ => ∃ (sv dx ls ot ow sf : Addr) (S1 S2 : List (Str × Nat)) (made : Nat), vs = [.ref sv] ∧ SvAt K H sv dx ls ot ow sf S1 S2 made ∧ TabsN T H ∧ made + 1000 ≤ 308915776 ∧ S1.length + S2.length < 1000 ∧
  ∀ k H', made ≤ k → k < made + 1000 → Gr T [sv] H H' → SvAt K H' sv dx ls ot ow sf S1 S2 (k + 1) → (∀ c, (nwf k, c) ∉ S1) → Q (.str (nwf k)) H'
theorem sc_Solver_new_word : FnScope ["self", "word", "number", "k"] ["self"] (defScope s_Solver_new_word) := ⟨rfl, rfl, rfl, by decide +kernel, rfl, by decide +kernel, by decide +kernel⟩
theorem ok_new (S : Cn K mg base) (T : List NTab) : C8.Met P w K mg base 1 (He.ga K "Solver") "new_word" (spNew K T) [] := by
  refine met_of (d := d_Solver_new_word) S 21 90 83 rfl rfl rfl rfl rfl rfl sc_Solver_new_word (fun vs H Q E h => ?_) (fun _ _ _ _ _ _ us hl => match us, hl with | [_], _ => rfl) (fun f cdv A outer s H vs Q E hr h => ?_)
  · obtain ⟨sv, dx, ls, ot, ow, sf, S1, S2, made, rfl, _⟩ := h
    rfl
  refine ⟨_, (pss_cons (ps_set (i := 1) sc_Solver_new_word.nd rfl (Or.inl rfl) pe_str) (pss_cons (ps_while PassesOwn.never (PW.pt (pw_or (ptEq (pv 1)) (pw_or (pt_cmp (pc_din (hu_of hr) (pv 1) (pe_fld (pv 0) rfl))) (pw_or1 (pt_cmp (pc_din (hu_of hr) (pv 1) (pe_fld (pv 0) rfl))))))) (pss_cons (ps_set (i := 2) sc_Solver_new_word.nd rfl (Or.inl rfl) (pe_fld (pv 0) rfl)) (pss_cons (ps_fld (pv 0) (pe_op op_add (pe_fld (pv 0) rfl) pe_int) rfl) (pss_cons (ps_set (i := 1) sc_Solver_new_word.nd rfl (Or.inl rfl) pe_str) (pss_cons (ps_for PassesOwn.never rfl (pi_range1 (by rfl) (S.free 62) (pa_cons (C8.pe_gc (v := .int 6) rfl (S.gint 81)) pa_nil)) (pg_name (i := 3) sc_Solver_new_word.nd rfl (Or.inl rfl)) (pss_cons (ps_set (i := 1) sc_Solver_new_word.nd rfl (Or.inl rfl) (pe_op op_add_str (pe_ix ix_str (C8.pe_gc (v := .str "abcdefghijklmnopqrstuvwxyz") rfl (S.gstr 77)) (pe_op op_mod (pv 2) pe_int) (fun _ _ => rfl)) (pv 1))) (pss_one (ps_set (i := 2) sc_Solver_new_word.nd rfl (Or.inl rfl) (pe_op op_fdiv (pv 2) pe_int))))) (pss_one (ps_set (i := 1) sc_Solver_new_word.nd rfl (Or.inl rfl) (pe_op op_add_str pe_str (pv 1))))))))) (pss_one (ps_ret (pv 1))))), ?_⟩
  obtain ⟨sv, dx, ls, ot, ow, sf, S1, S2, made, rfl, hsv, hT, hm, hl, q⟩ := h
  have hcl := S.cls 83
  have na1 := S.noat 87
  have na2 := S.noat 86
  have na3 := S.noat 88
  refine ⟨fun m σ H' => ∃ (md : Nat) (word : Str) (o2 o3 : Option V), m = made + 1000 - md ∧ σ = [some (.ref sv), some (.str word), o2, o3] ∧ made ≤ md ∧ Gr T [sv] H H' ∧ SvAt K H' sv dx ls ot ow sf S1 S2 md ∧
      ((word = "" ∧ md = made) ∨ (made < md ∧ word = nwf (md - 1))) ∧ ∀ j, made ≤ j → j + 1 < md → ∃ c, (nwf j, c) ∈ S1 ++ S2, ⟨_, made, "", _, _, rfl, rfl, Nat.le_refl _, Gr.refl hT, hsv, .inl ⟨rfl, rfl⟩, fun j h1 h2 => by omega⟩, ?_⟩
  have bd : ∀ md, (∀ j, made ≤ j → j + 1 < md → ∃ c, (nwf j, c) ∈ S1 ++ S2) → md - 1 < made + 1000 := fun md hj => by
    by_cases h9 : md - 1 < made
    · omega
    have := rej (made := made) (n := md - 1 - made) (L := (S1 ++ S2).map (·.1)) hm (by rw [List.length_map, List.length_append]; exact hl) fun j h1 h2 => (let ⟨c, hc⟩ := hj j h1 (by omega); List.mem_map.mpr ⟨_, hc, rfl⟩)
    rw [List.length_map, List.length_append] at this
    omega
  rintro m σ H1 ⟨md, word, o2, o3, rfl, rfl, hmd, g, hv, hw, hj⟩
  obtain ⟨k1, ek1, c1⟩ := hv.own
  obtain ⟨k2, ek2, c2⟩ := hv.oth
  refine orAns (b1 := decide (V.str word = V.str "")) (b2 := (valV k1 (.inr word)).isSome || (valV k2 (.inr word)).isSome) (fun Q h => ⟨_, rfl, rfl, _, rfl, h⟩) (fun Q h => orAns
    (fun Q h => ⟨_, rfl, _, rfl, sv, _, _, _, _, rfl, hv.ins, hcl, na1, rfl, ow, _, rfl, DGet.k (k := Sum.inr word) ek1, _, rfl, h⟩) (fun Q h => ⟨_, rfl, _, rfl, sv, _, _, _, _, rfl, hv.ins, hcl, na2, rfl, ot, _, rfl, DGet.k (k := Sum.inr word) ek2, _, rfl, h⟩) h) ?_
  cases hb : (decide (V.str word = V.str "") || ((valV k1 (.inr word)).isSome || (valV k2 (.inr word)).isSome)) with
  | false =>
    refine iteF ⟨_, rfl, ?_⟩
    simp only [Bool.or_eq_false_iff] at hb
    obtain ⟨b1, b2, b3⟩ := hb
    rcases hw with ⟨e, _⟩ | ⟨h1, e⟩
    · rw [e] at b1; simp at b1
    rw [e]
    have q2 := q (md - 1) H1 (by omega) ?_ g (by rw [show md - 1 + 1 = md by omega]; exact hv) fun c hc => ?_
    · exact q2
    · exact bd md hj
    · have := (c1.has word).mpr ⟨c, by rw [e]; exact hc⟩
      rw [b2] at this; cases this
  | true =>
    refine iteT ⟨fun σ' H' => ∃ m', m' < made + 1000 - md ∧ ∃ (md : Nat) (word : Str) (o2 o3 : Option V), m' = made + 1000 - md ∧ σ' = [some (.ref sv), some (.str word), o2, o3] ∧ made ≤ md ∧ Gr T [sv] H H' ∧ SvAt K H' sv dx ls ot ow sf S1 S2 md ∧
      ((word = "" ∧ md = made) ∨ (made < md ∧ word = nwf (md - 1))) ∧ ∀ j, made ≤ j → j + 1 < md → ∃ c, (nwf j, c) ∈ S1 ++ S2, fun _ _ z => z, ?_⟩
    refine ⟨_, rfl, sv, _, _, _, _, rfl, hv.ins, hcl, na3, rfl, ?_⟩
    have g2 := g.mutI (o := .ins (He.ga K "Solver") dx (putF "made" (.int ((md : Nat) + 1 : Int)) [("sides", .ref ls), ("others", .ref ot), ("own", .ref ow), ("made", .int ((md : Nat) : Int)), ("so_far", .ref sf)])) (.inr (by simp)) hv.ins
    have hv2 : SvAt K (upd H1 sv (.ins (He.ga K "Solver") dx (putF "made" (.int ((md : Nat) + 1 : Int)) [("sides", .ref ls), ("others", .ref ot), ("own", .ref ow), ("made", .int ((md : Nat) : Int)), ("so_far", .ref sf)]))) sv dx ls ot ow sf S1 S2 (md + 1) :=
      ⟨by rw [upd_same]; rfl, ⟨k1, by rw [upd_ne (ne_of ek1 hv.ins fun z => by cases z)]; exact ek1, c1⟩, ⟨k2, by rw [upd_ne (ne_of ek2 hv.ins fun z => by cases z)]; exact ek2, c2⟩⟩
    refine ⟨_, rfl, sv, _, _, _, _, rfl, hv.ins, hcl, na3, rfl, _, _, rfl, rfl, _, rfl, sv, _, _, _, rfl, hv.ins, hcl, na3, (by show 5 < 1000; decide), ?_⟩
    generalize (upd H1 sv (.ins (He.ga K "Solver") dx (putF "made" (.int ((md : Nat) + 1 : Int)) [("sides", .ref ls), ("others", .ref ot), ("own", .ref ow), ("made", .int ((md : Nat) : Int)), ("so_far", .ref sf)]))) = H2 at g2 hv2 ⊢
    have hj2 : ∀ j, made ≤ j → j + 1 < md + 1 → ∃ c, (nwf j, c) ∈ S1 ++ S2 := fun j h1 h2 => by
      by_cases h3 : j + 1 < md
      · exact hj j h1 h3
      have ej : j = md - 1 := by omega
      rcases hw with ⟨_, e⟩ | ⟨h4, e⟩
      · omega
      rw [ej, ← e]
      rw [Bool.or_eq_true, Bool.or_eq_true] at hb
      rcases hb with b1 | b1 | b1
      · have b1 := of_decide_eq_true b1
        exact absurd (e.symm.trans (V.str.inj b1)) (nwf_ne _)
      · obtain ⟨c, hc⟩ := (c1.has word).mp b1
        exact ⟨c, List.mem_append_left _ hc⟩
      · obtain ⟨c, hc⟩ := (c2.has word).mp b1
        exact ⟨c, List.mem_append_right _ hc⟩
    have hb9 := bd (md + 1) hj2
    refine ⟨_, rfl, by decide, by decide, ?_⟩
    refine for_it (walk_range (lo := 0) (n := 6)) (fun i σ H' => H' = H2 ∧ ∃ (o3 : Option V) (u : Str) (n : Nat), σ = [some (.ref sv), some (.str u), some (.int (n : Int)), o3] ∧ i ≤ 6 ∧ u.length = i ∧ nw6 (6 - i) n u = nw6 6 md "") ⟨rfl, _, "", md, rfl, Nat.zero_le _, rfl, rfl⟩ (fun _ _ _ _ _ => True.intro) ?_ ?_
    · rintro i x σ H3 H4 hi ⟨rfl, o3, u, n, rfl, _, hul, hu⟩ ⟨rfl, rfl⟩
      have hq := ltr_at ⟨n % 26, Nat.mod_lt _ (by decide)⟩
      refine ⟨_, rfl, _, _, rfl, rfl, (by show (0 : Int) < 26; decide), _, _, _, rfl, rfl, by decide +kernel, hq, _, rfl, _, _, rfl, rfl, szl (by rw [hul]; show 1 + i ≤ _; omega), ?_⟩
      refine ⟨_, rfl, _, _, rfl, rfl, ⟨by decide, by decide⟩, rfl, _, ltr (n % 26) ++ u, n / 26, rfl, by omega, ?_, ?_⟩
      · have : (ltr (n % 26) ++ u).cps.toList.length = 1 + u.cps.toList.length := by rw [cps_app, List.length_append]; rfl
        rw [Array.length_toList, Array.length_toList] at this
        show (ltr (n % 26) ++ u).cps.size = _
        rw [this]
        show 1 + u.length = _
        rw [hul]; omega
      · rw [← hu]
        have e6 : 6 - i = (6 - (i + 1)) + 1 := by omega
        rw [e6]
        rfl
    · rintro σ H3 ⟨rfl, o3, u, n, rfl, _, hul, hu⟩
      have hu : u = nw6 6 md "" := hu
      subst hu
      refine ⟨_, rfl, _, _, rfl, rfl, szl (by rw [hul]; decide +kernel), ?_⟩
      exact ⟨made + 1000 - (md + 1), by omega, md + 1, nwf md, _, _, rfl, rfl, by omega, g2, hv2, .inr ⟨by omega, by rw [Nat.add_sub_cancel]⟩, hj2⟩
end

end HW
end
section
set_option Elab.async false
set_option linter.all false
set_option maxRecDepth 100000
set_option maxHeartbeats 4000000
namespace HW
open PySem PySem.Spec PyProof.Rows L2 NdefX LamX
/-! ### fill -/
/-- within a comprehension: the part of the heap is the def's own -/
theorem pe_fldK {X : Cx} {K : PySem.W.Frag} {e : Expr} {f : Str} {pos : Pos} {ta : TE} (hk : X.K = K) (he : PE X e ta) (hb : attributeBase e f X.env (eval e X.env) = eval e X.env) : PE X (.Attribute e f pos) (tFld K ta f) := by
  subst hk
  exact pe_fld he hb

def oneF (u : Str) (m : Nat) (t : Tm) : HF.Fl Str := fun x => if x = u then some (m, t) else none
theorem sg_one (u : Str) (m : Nat) (t : Tm) : HF.sg (oneF u m t) = HF.one u t := funext fun x => by
  unfold HF.sg oneF HF.one
  by_cases h : x = u
  · rw [if_pos h, if_pos h] <;> rfl
  · rw [if_neg h, if_neg h] <;> rfl
theorem mem_mergeK {z : Key × V} : ∀ {l a : List (Key × V)}, z ∈ mergeK a l → z ∈ a ∨ z ∈ l
  | [], _, h => .inl h
  | p :: r, a, h => by
    rcases mem_mergeK (l := r) (a := putK a p.1 p.2) h with q | q
    · rcases mem_putK q with e | e
      · exact .inr (by rw [e]; exact List.mem_cons_self)
      · exact .inl e
    · exact .inr (List.mem_cons_of_mem _ q)
theorem val_mergeK0 {k : Key} : ∀ {l a : List (Key × V)}, (∃ y, valV a k = some y) → ∃ y, valV (mergeK a l) k = some y
  | [], _, h => h
  | p :: r, a, ⟨y, h⟩ => val_mergeK0 (l := r) (a := putK a p.1 p.2) (by
    rw [valV_put]
    by_cases e : k = p.1
    · exact ⟨_, if_pos e⟩
    · exact ⟨y, by rw [if_neg e]; exact h⟩)
theorem val_mergeK {k : Key} {v : V} : ∀ {l a : List (Key × V)}, (k, v) ∈ l → ∃ y, valV (mergeK a l) k = some y
  | p :: r, a, h => by
    rcases List.mem_cons.mp h with e | e
    · exact val_mergeK0 (l := r) (a := putK a p.1 p.2) ⟨v, by rw [valV_put, ← e, if_pos rfl]⟩
    · exact val_mergeK (l := r) (a := putK a p.1 p.2) e
theorem newF_eq {own : List (Str × Nat)} {σ : HF.Fl Str} {u : Str} {m : Nat} {t : Tm} {x : Str} (hx : x ∈ own.map (·.1)) : HF.newF own σ u m t x = behF σ (oneF u m t) x := by
  unfold HF.newF behF
  cases σ x with
  | some y => obtain ⟨k, v⟩ := y; simp only [sg_one]
  | none =>
    simp only [oneF]
    by_cases h : x = u
    · subst h; rw [if_pos rfl, if_pos ⟨rfl, hx⟩]
    · rw [if_neg h, if_neg fun z => h z.1]
theorem newF_no {own : List (Str × Nat)} {σ : HF.Fl Str} {u : Str} {m : Nat} {t : Tm} {x : Str} (hi : ∀ x k, σ x = some k → x ∈ own.map (·.1)) (hx : x ∉ own.map (·.1)) : HF.newF own σ u m t x = none := by
  unfold HF.newF
  cases h : σ x with
  | some y => exact absurd (hi x y h) hx
  | none =>
    simp only
    rw [if_neg]
    rintro ⟨rfl, h2⟩
    exact hx h2
section
variable {P : Program} {w : World} {K : PySem.W.Frag} {mg : Str → Option Value} {base : Heap}
/-- what a solver needs of its filling -/
structure Sm (m2 : Nat) (n : Nat) (σ : HF.Fl Str) (u : Str) (m : Nat) (t : Tm) : Prop where
  fits : ∀ x k v, σ x = some (k, v) → HF.nd v ≤ 4000000 ∧ HF.ht v ≤ n ∧ fit m2 (oneF u m t) (HF.hs v)
def spFill (K : PySem.W.Frag) (T : List NTab) (m2 n : Nat) : Sp := fun vs H Q _ => ∃ (sv dx ls ot ow sf : Addr) (S1 S2 : List (Str × Nat)) (made : Nat) (fkvs : List (Key × V)) (σ : HF.Fl Str) (u : Str) (m : Nat) (t : Tm) (tv : V) (own : List (Str × Nat)),
  vs = [.ref sv, .str u, .int (m : Int), tv] ∧ SvAt K H sv dx ls ot ow sf S1 S2 made ∧ TabsN T H ∧ H sf = some (.dK fkvs) ∧ AtF H fkvs σ ∧ fkvs.length < 100000 ∧ At H t tv ∧ Sm m2 n σ u m t ∧ (∀ x, x ∈ own.map (·.1) ↔ ∃ c, (x, c) ∈ S1) ∧ (∀ x k, σ x = some k → x ∈ own.map (·.1)) ∧
  ∀ sf' fk' H', Gr T [sv] H H' → SvAt K H' sv dx ls ot ow sf' S1 S2 made → H' sf' = some (.dK fk') → AtF H' fk' (HF.newF own σ u m t) → fk'.length ≤ fkvs.length + 1 → Q .non H'
theorem sc_Solver_fill : FnScope ["self", "word", "many", "term", "both", "one", "filler"] ["self", "word", "many", "term"] (defScope s_Solver_fill) := ⟨rfl, rfl, rfl, by decide +kernel, rfl, by decide +kernel, by decide +kernel⟩
theorem ok_fill (S : Cn K mg base) (m2 n : Nat) (hB : Has P w K mg base "behind" (5 + m2 + n + 1) ["first", "then"] [] (spBehind (TT K) m2 n)) : C8.Met P w K mg base (5 + m2 + n + 1 + 1) (He.ga K "Solver") "fill" (spFill K (TT K) m2 n) [] := by
  refine met_of (d := d_Solver_fill) S 22 91 83 rfl rfl rfl rfl rfl rfl sc_Solver_fill (fun vs H Q E h => ?_) (fun _ _ _ _ _ _ us hl => match us, hl with | [_, _, _, _], _ => rfl) (fun f cdv A outer s H vs Q E hr h => ?_)
  · obtain ⟨sv, dx, ls, ot, ow, sf, S1, S2, made, fkvs, σ, u, m, t, tv, own, rfl, _⟩ := h
    rfl
  refine ⟨_, (pss_cons (ps_set (i := 4) sc_Solver_fill.nd rfl (Or.inl rfl) (pe_hs hB hr (by omega) rfl (pa_cons (pe_fld (pv 0) rfl) (pa_cons (pe_disp (pps_cons (pv 1) (pe_tup (pa_cons (pv 2) (pa_cons (pv 3) pa_nil))) pps_nil) (by rfl) (by rfl) (fun z => by cases z) (by decide)) pa_nil)))) (pss_one (ps_fld (pv 0) (pe_callTy (call_dictP rfl) (by rfl) (S.free 66) (by decide +kernel) (pa_cons (pe_lock (pe_lc (own := [("one", 5), ("filler", 6)]) (g := (gTup K 2 (gCons (gName 5) (gCons (gName 6) gNil)))) (by rfl) sc_Solver_fill.nd (pi_items (pv 4)) (blkOk_by (N := ["self", "word", "many", "term", "both", "one", "filler"]) (sc := defScope s_Solver_fill) (by decide +kernel)) (fun _ _ _ _ _ => (pg_tup rfl (pgs_cons (pg_name (i := 5) sc_Solver_fill.nd rfl (Or.inl rfl)) (pgs_cons (pg_name (i := 6) sc_Solver_fill.nd rfl (Or.inl rfl)) pgs_nil)))) (fun _ _ _ _ _ => (pts_one (pt_cmp (pc_din (hu_of hr) (pv 5) (pe_fldK (K := K) rfl (pv 0) rfl))))) (fun _ _ _ _ _ => (pe_tup (pa_cons (pv 5) (pa_cons (pv 6) pa_nil)))))) pa_nil)) rfl))), ?_⟩
  obtain ⟨sv, dx, ls, ot, ow, sf, S1, S2, made, fkvs, σ, u, m, t, tv, own, rfl, hv, hT, hf, hF, hfl, ht, sm, how, hin, q⟩ := h
  have hcl := S.cls 83
  have na1 := S.noat 87
  have na2 := S.noat 89
  refine ⟨_, rfl, sv, _, _, _, _, rfl, hv.ins, hcl, na2, rfl, ?_⟩
  refine fun p hp => ⟨_, rfl, _, rfl, _, rfl, szl (by show 2 ≤ 10000000; decide), fun p2 hp2 => ⟨?_, [(Sum.inr u, .ref p2)], rfl, by show 1 ≤ 15; decide, ?_⟩⟩
  · rw [upd_ne (ne_of_none upd_same hp2)]; exact upd_same
  have g0 := (Gr.new0 (X := [sv]) (o := .dK []) hT hp).new (o := .tup [.int (m : Int), tv]) hp2
  have e0 : (upd (upd H p (.dK [])) p2 (.tup [.int (m : Int), tv])) p = some (.dK []) := by rw [upd_ne (ne_of_none upd_same hp2)]; exact upd_same
  have g00 : Gr (TT K) [] H (upd (upd (upd H p (.dK [])) p2 (.tup [.int (m : Int), tv])) p (.dK (mergeK [] [(Sum.inr u, .ref p2)]))) := ((Gr.new0 (X := []) (o := .dK []) hT hp).new (o := .tup [.int (m : Int), tv]) hp2).mutD (.inl hp) e0
  have e2 : (upd (upd (upd H p (.dK [])) p2 (.tup [.int (m : Int), tv])) p (.dK (mergeK [] [(Sum.inr u, .ref p2)]))) p = some (.dK [(Sum.inr u, .ref p2)]) := upd_same
  have e3 : (upd (upd (upd H p (.dK [])) p2 (.tup [.int (m : Int), tv])) p (.dK (mergeK [] [(Sum.inr u, .ref p2)]))) p2 = some (.tup [.int (m : Int), tv]) := by rw [upd_ne (ne_of upd_same e0 fun z => by cases z)]; exact upd_same
  generalize (upd (upd (upd H p (.dK [])) p2 (.tup [.int (m : Int), tv])) p (.dK (mergeK [] [(Sum.inr u, .ref p2)]))) = H1 at g00 e2 e3 ⊢
  have hA1 : AtF H1 [(Sum.inr u, .ref p2)] (oneF u m t) := by
    refine ⟨fun z hz => ?_, fun x y hx => ?_⟩
    · rw [List.mem_singleton.mp hz]
      exact ⟨u, p2, m, t, tv, rfl, if_pos rfl, e3, ht.mono g00⟩
    · unfold oneF at hx
      by_cases h : x = u
      · subst h; exact ⟨_, valV_pos rfl⟩
      · rw [if_neg h] at hx; cases hx
  have np : sf ≠ p := fun z => by rw [z, hp] at hf; cases hf
  refine ⟨sf, p, fkvs, _, σ, oneF u m t, rfl, np, g00.dK hf, hF.mono g00, e2, hA1, g00.tab, by omega, by show 1 ≤ 4000000; decide, fun x k v hx => sm.fits x k v hx, fun pb H2 mvs g2 hpb hpb2 hAb hml => ?_⟩
  have hml : mvs.length ≤ fkvs.length + 1 := hml
  have g02 := g00.trans g2
  have hv2ins : H2 sv = _ := g02.ins hv.ins
  obtain ⟨okvs, eo, co⟩ := hv.own
  have eo2 := g02.dK eo
  have nbv : pb ≠ sv := fun z => by rw [z, g00.ins hv.ins] at hpb; cases hpb
  have nbo : pb ≠ ow := fun z => by rw [z, g00.dK eo] at hpb; cases hpb
  refine ⟨pb, .dK mvs, hpb2, trivial, fun od => ?_⟩
  refine ⟨_, rfl, pb, od, mvs, rfl, upd_same, fun D hD => ?_⟩
  have gl : Gr (TT K) [pb] H2 (upd H2 pb (.frz od (.dK mvs))) := (Gr.refl g2.tab).mutD (.inr (by simp)) hpb2
  let fl : Key × V → Bool := fun z => (valV okvs z.1).isSome
  have nDp : D ≠ pb := fun z => by rw [z, upd_same] at hD; cases hD
  refine lc_it (walk_items (d := pb) (o := od) (kvs := mvs)) (fun i H' => ∃ ps, Gr (TT K) [pb] H2 H' ∧ H' pb = some (.frz od (.dK mvs)) ∧ H' D = some (.lst (ps.map V.ref)) ∧ ps.length ≤ i ∧ Paired (fun a kv => H' a = some (.tup [kV kv.1, kv.2])) ps ((mvs.take i).filter fl))
    ⟨[], gl.new hD, by rw [upd_ne nDp.symm]; exact upd_same, upd_same, Nat.zero_le _, by simpa using Paired.nil⟩ (fun i H' _ ⟨_, _, e, _⟩ => e) ?_ ?_
  · rintro i x H' H3 hi ⟨ps, g, ep, eD, hpl, hpp⟩ ⟨p', x1, x2, rfl, hp', rfl, ex1, ex2⟩
    obtain ⟨z, ez⟩ : ∃ z, mvs[i]? = some z := ⟨_, List.getElem?_eq_getElem hi⟩
    obtain ⟨k, y⟩ := z
    obtain ⟨rfl, rfl⟩ := itAt ez ex1 ex2
    have g3 := g.new (o := .tup [kV k, y]) hp'
    have gs : Gr (TT K) [] H' (upd H' p' (.tup [kV k, y])) := Gr.new0 g.tab hp'
    have eD3 := gs.lst eD
    have ep3 : (upd H' p' (.tup [kV k, y])) pb = some (.frz od (.dK mvs)) := by rw [upd_ne (ne_of_none ep hp')]; exact ep
    have hpp3 : Paired (fun a kv => (upd H' p' (.tup [kV k, y])) a = some (.tup [kV kv.1, kv.2])) ps ((mvs.take i).filter fl) := hpp.mono fun a b e => gs.tup _ _ e
    refine ⟨p', _, rfl, SqT.of upd_same, rfl, _, _, rfl, _, _, rfl, rfl, rfl, ?_⟩
    refine ⟨_, rfl, _, rfl, sv, _, _, _, _, rfl, g3.ins hv2ins (by simp; exact nbv.symm), hcl, na1, rfl, ow, _, rfl, DGet.k (k := k) (g3.dK eo2 (by simp; exact nbo.symm)), _, rfl, ite2 (fun hc => ?_) (fun hc => ?_)⟩
    · refine ⟨_, rfl, _, rfl, szl (by show 2 ≤ 10000000; decide), fun q1 hq1 => ?_⟩
      have g4 := g3.new (o := .tup [kV k, y]) hq1
      have gs2 : Gr (TT K) [] (upd H' p' (.tup [kV k, y])) (upd (upd H' p' (.tup [kV k, y])) q1 (.tup [kV k, y])) := Gr.new0 g3.tab hq1
      have eD4 := gs2.lst eD3
      refine ⟨_, eD4, szl' (by rw [List.length_map]; omega), ps ++ [q1], g4.mutL (.inl (upd_none hD)) eD4, ?_, by rw [upd_same, List.map_append] <;> rfl, by rw [List.length_append]; exact Nat.succ_le_succ hpl, ?_⟩
      · rw [upd_ne nDp.symm, upd_ne (ne_of_none ep3 hq1)]; exact ep3
      · rw [take_snoc ez, List.filter_append]
        have : [(k, y)].filter fl = [(k, y)] := List.filter_cons_of_pos hc
        rw [this]
        have gz : Gr (TT K) [D] (upd H' p' (.tup [kV k, y])) (upd (upd (upd H' p' (.tup [kV k, y])) q1 (.tup [kV k, y])) D (.lst (ps.map V.ref ++ [V.ref q1]))) := gs2.wide.mutL (.inr (by simp)) eD4
        refine (hpp3.mono fun a b e => gz.tup _ _ e).snoc ?_
        rw [upd_ne (ne_of upd_same eD4 fun z => by cases z)]
        exact upd_same
    · refine ⟨ps, g3, ep3, eD3, Nat.le_succ_of_le hpl, ?_⟩
      rw [take_snoc ez, List.filter_append]
      have : [(k, y)].filter fl = [] := List.filter_cons_of_neg hc
      rw [this, List.append_nil]
      exact hpp3
  · rintro H' ⟨ps, g, ep, eD, hpl, hpp⟩
    rw [List.take_length] at hpp
    refine ⟨ep, ?_⟩
    have g5 := g.unl hpb2 ep
    have gu : Gr (TT K) [pb] H' (upd H' pb (.dK mvs)) := (Gr.refl g.tab).mut (.inr (by simp)) ep (fun _ z => by cases z) (fun _ z => by cases z) (fun _ z => by cases z)
    have eD5 : (upd H' pb (.dK mvs)) D = some (.lst (ps.map V.ref)) := by rw [upd_ne nDp]; exact eD
    refine ⟨D, ps, _, rfl, SqL.of eD5, hpp.mono fun a b e => SqT.of (gu.tup _ _ e), fun p5 hp5 => ?_⟩
    have g6 := g5.new (o := .dK (mergeK [] (mvs.filter fl))) hp5
    have g7 := g02.trans g6
    have ins7 := g7.ins hv.ins
    refine ⟨_, rfl, sv, _, _, _, rfl, ins7, hcl, na2, (by show 5 < 1000; decide), ?_⟩
    have n5 : p5 ≠ sv := fun z => by rw [z, g5.ins hv2ins] at hp5; cases hp5
    have g8 := (g7.wide (X := [sv])).mutI (o := .ins (He.ga K "Solver") dx (putF "so_far" (.ref p5) [("sides", .ref ls), ("others", .ref ot), ("own", .ref ow), ("made", .int ((made : Nat) : Int)), ("so_far", .ref sf)])) (.inr (by simp)) ins7
    have gv : Gr (TT K) [sv] H2 _ := (g6.wide (X := [sv])).mutI (o := .ins (He.ga K "Solver") dx (putF "so_far" (.ref p5) [("sides", .ref ls), ("others", .ref ot), ("own", .ref ow), ("made", .int ((made : Nat) : Int)), ("so_far", .ref sf)])) (.inr (by simp)) ins7
    obtain ⟨tkvs, et, ct⟩ := hv.oth
    refine q p5 (mergeK [] (mvs.filter fl)) _ g8 ⟨by rw [upd_same]; rfl, ⟨okvs, by rw [upd_ne (ne_of (g7.dK eo) ins7 fun z => by cases z)]; exact g7.dK eo, co⟩, ⟨tkvs, by rw [upd_ne (ne_of (g7.dK et) ins7 fun z => by cases z)]; exact g7.dK et, ct⟩⟩
      (by rw [upd_ne n5]; exact upd_same) ⟨fun z hz => ?_, fun x y hx => ?_⟩ ?_
    · rcases mem_mergeK hz with c | c
      · cases c
      obtain ⟨c1, c2⟩ := List.mem_filter.mp c
      obtain ⟨x, p9, m9, t9, tv9, e9, s9, h9, a9⟩ := hAb.mem z c1
      subst e9
      have hxo : x ∈ own.map (·.1) := (how x).mpr ((co.has x).mp c2)
      exact ⟨x, p9, m9, t9, tv9, rfl, by rw [newF_eq hxo]; exact s9, gv.tup _ _ h9, a9.mono gv⟩
    · have hxo : x ∈ own.map (·.1) := by
        by_cases h : x ∈ own.map (·.1)
        · exact h
        · rw [newF_no hin h] at hx; cases hx
      rw [newF_eq hxo] at hx
      obtain ⟨y9, h9⟩ := hAb.all x y hx
      exact val_mergeK (List.mem_filter.mpr ⟨mem_of_valV h9, (co.has x).mpr ((how x).mp hxo)⟩)
    · have h1 := mergeK_len (mvs.filter fl) []
      have h2 : (mvs.filter fl).length ≤ mvs.length := List.length_filter_le _ _
      rw [List.length_nil] at h1
      omega
end

end HW
end
section
set_option Elab.async false
set_option linter.all false
set_option maxRecDepth 100000
set_option maxHeartbeats 4000000
namespace HW
open PySem PySem.Spec PyProof.Rows L2 NdefX LamX
/-! ### tell_less, go_on -/
section
variable {P : Program} {w : World} {K : PySem.W.Frag} {mg : Str → Option Value} {base : Heap}
/-- a solver with its filling -/
structure SvF (K : PySem.W.Frag) (T : List NTab) (H : Hp) (sv dx ls ot ow sf : Addr) (S1 S2 : List (Str × Nat)) (made : Nat) (fkvs : List (Key × V)) (σ : HF.Fl Str) (own : List (Str × Nat)) : Prop where
  at_ : SvAt K H sv dx ls ot ow sf S1 S2 made
  tab : TabsN T H
  sf_ : H sf = some (.dK fkvs)
  fil : AtF H fkvs σ
  len : fkvs.length < 100000
  ow_ : ∀ x, x ∈ own.map (·.1) ↔ ∃ c, (x, c) ∈ S1
  in_ : ∀ x k, σ x = some k → x ∈ own.map (·.1)
/-- what stands when a hole was filled: r = (word, number, term) -/
def Done (K : PySem.W.Frag) (T : List NTab) (H H' : Hp) (sv dx ls ot ow : Addr) (S1 S2 : List (Str × Nat)) (made : Nat) (fl : Nat) (σ : HF.Fl Str) (own : List (Str × Nat)) (r : Nat → Str × Nat × Tm) : Prop :=
  ∃ (k0 : Nat) (sf' : Addr) (fk' : List (Key × V)), made ≤ k0 ∧ k0 < made + 1000 ∧ Gr T [sv] H H' ∧ SvF K T H' sv dx ls ot ow sf' S1 S2 (k0 + 1) fk' (HF.newF own σ (r k0).1 (r k0).2.1 (r k0).2.2) own ∧ (∀ c, (nwf k0, c) ∉ S1) ∧ fk'.length ≤ fl + 1
def spLess (K : PySem.W.Frag) (T : List NTab) (m2 n : Nat) : Sp := fun vs H Q _ => ∃ (sv dx ls ot ow sf : Addr) (S1 S2 : List (Str × Nat)) (made : Nat) (fkvs : List (Key × V)) (σ : HF.Fl Str) (own : List (Str × Nat)) (g : Str) (gs ks : List Nat) (hv : V) (l : Addr),
  vs = [.ref sv, hv, .ref l] ∧ SvF K T H sv dx ls ot ow sf S1 S2 made fkvs σ own ∧ made + 1000 ≤ 308915776 ∧ S1.length + S2.length < 1000 ∧ fkvs.length + 1 < 100000 ∧ At H (.hole g gs) hv ∧ H l = some (.lst (nints ks)) ∧ (∀ k ∈ ks, k < gs.length) ∧ ks.length ≤ 2000000 ∧ gs.length ≤ 4000000 ∧ (∀ k0, Sm m2 n σ g gs.length (.hole (nwf k0) (HF.lessN gs.length ks))) ∧
  ∀ H', Done K T H H' sv dx ls ot ow S1 S2 made fkvs.length σ own (fun k0 => HF.lessT (nwf k0) g gs.length ks) → Q .non H'
theorem sc_Solver_tell_less : FnScope ["self", "hole", "kept", "many", "less", "k"] ["self", "hole", "kept"] (defScope s_Solver_tell_less) := ⟨rfl, rfl, rfl, by decide +kernel, rfl, by decide +kernel, by decide +kernel⟩
theorem newF_in {own : List (Str × Nat)} {σ : HF.Fl Str} {u : Str} {m : Nat} {t : Tm} (hi : ∀ x k, σ x = some k → x ∈ own.map (·.1)) : ∀ x k, HF.newF own σ u m t x = some k → x ∈ own.map (·.1) := fun x k h => by
  by_cases hx : x ∈ own.map (·.1)
  · exact hx
  · rw [newF_no hi hx] at h; cases h
theorem ok_less (S : Cn K mg base) (m2 n : Nat) (hF : C8.Met P w K mg base (5 + m2 + n + 1 + 1) (He.ga K "Solver") "fill" (spFill K (TT K) m2 n) []) (hW : C8.Met P w K mg base 1 (He.ga K "Solver") "new_word" (spNew K (TT K)) []) :
    C8.Met P w K mg base (5 + m2 + n + 3) (He.ga K "Solver") "tell_less" (spLess K (TT K) m2 n) [] := by
  refine met_of (d := d_Solver_tell_less) S 23 92 83 rfl rfl rfl rfl rfl rfl sc_Solver_tell_less (fun vs H Q E h => ?_) (fun _ _ _ _ _ _ us hl => match us, hl with | [_, _, _], _ => rfl) (fun f cdv A outer s H vs Q E hr h => ?_)
  · obtain ⟨sv, dx, ls, ot, ow, sf, S1, S2, made, fkvs, σ, own, g, gs, ks, hv, l, rfl, _⟩ := h
    rfl
  refine ⟨_, (pss_cons (ps_set (i := 3) sc_Solver_tell_less.nd rfl (Or.inr rfl) (pe_callB call_len_seq (by rfl) (S.free 58) (by decide +kernel) (pa_cons (ixT (pv 1)) pa_nil))) (pss_cons (ps_set (i := 4) sc_Solver_tell_less.nd rfl (Or.inl rfl) (pe_callTy call_tuple_of (by rfl) (S.free 61) (by decide +kernel) (pa_cons (pe_lc (own := [("k", 5)]) (g := (gName 5)) (by rfl) sc_Solver_tell_less.nd (pi_list (pv 2)) (blkOk_by (N := ["self", "hole", "kept", "many", "less", "k"]) (sc := defScope s_Solver_tell_less) (by decide +kernel)) (fun _ _ _ _ _ => (pg_name (i := 5) sc_Solver_tell_less.nd rfl (Or.inl rfl))) (fun _ _ _ _ _ => pts_nil) (fun _ _ _ _ _ => (pe_tup (pa_cons pe_str (pa_cons (pe_op op_sub (pe_op op_sub (pv 3) pe_int) (pv 5)) pa_nil))))) pa_nil))) (pss_one (ps_expr (C8.pe_mt hF hr (by omega) (pv 0) (pa_cons (ixT (pv 1)) (pa_cons (pv 3) (pa_cons (pe_tup (pa_cons pe_str (pa_cons (C8.pe_mt0 hW hr (by omega) (pv 0)) (pa_cons (pv 4) pa_nil)))) pa_nil)))))))), ?_⟩
  obtain ⟨sv, dx, ls, ot, ow, sf, S1, S2, made, fkvs, σ, own, g, gs, ks, hv, l, rfl, sF, hm, hl, hfl, ht, hk, hks, hkl, hgl, sm, q⟩ := h
  obtain ⟨a, b, vs, rfl, h1, h2, h3⟩ := ht
  refine ⟨_, rfl, a, _, 2, _, rfl, rfl, SqT.of h1, rfl, b, _, rfl, .inr (SqT.of h2), ?_⟩
  refine ⟨_, rfl, l, rfl, ⟨_, SqL.of hk⟩, fun D hD => ?_⟩
  refine lc_mapL (T := TT K) (K := K) (a := l) (xs := nints ks) (fun H i y => ∃ k, ks[i]? = some k ∧ At H (.name (gs.length - 1 - k)) y) sF.tab hD (SqL.of hk) (szl (by rw [nints_len]; omega)) (fun H H' i y g ⟨z, e, p⟩ => ⟨z, e, p.mono g⟩)
    (fun H i y acc e ⟨z, e2, p⟩ l => ⟨z, e2, p.upd e⟩) (fun i x H' Q' Pz hx gg hq => ?_) fun H1 ys g1 hy hlen hr' => ?_
  · obtain ⟨k, ek, rfl⟩ : ∃ k, ks[i]? = some k ∧ V.int (k : Int) = x := by
      unfold nints at hx
      rw [List.getElem?_map] at hx
      cases e : ks[i]? with
      | none => rw [e] at hx; cases hx
      | some k => rw [e] at hx; exact ⟨k, rfl, Option.some.inj hx⟩
    refine ⟨rfl, yesT ?_⟩
    refine ⟨_, rfl, _, _, rfl, rfl, _, rfl, _, _, rfl, rfl, szl (by show 2 ≤ 10000000; decide), fun p hp => ?_⟩
    refine hq _ _ (Gr.new0 gg.tab hp) ⟨k, ek, p, rfl, ?_⟩
    have hk2 := hks k (List.mem_of_getElem? ek)
    have hvl := h3.len
    rw [upd_same]
    exact congrArg (fun z => some (HO.tup [V.str "name", V.int z])) (by omega)
  refine ⟨D, ys, rfl, .inl ⟨SqL.of hy, fun p hp => ?_⟩⟩
  have g2 := g1.new (o := .tup ys) hp
  have hN : AtN (upd H1 p (.tup ys)) (HF.lessN gs.length ks) ys := (AtN.of (by rw [hlen, nints_len]; exact (List.length_map _).symm) fun j y ej => (by
    obtain ⟨k, e1, p1⟩ := hr' j y ej
    exact ⟨_, by unfold HF.lessN; rw [List.getElem?_map, e1] <;> rfl, p1⟩)).mono (Gr.new0 (X := []) (o := .tup ys) g1.tab hp)
  have ep : (upd H1 p (.tup ys)) p = some (.tup ys) := upd_same
  generalize upd H1 p (.tup ys) = H2 at g2 hN ep ⊢
  obtain ⟨okvs, eo, co⟩ := sF.at_.own
  obtain ⟨tkvs, et, ct⟩ := sF.at_.oth
  have sv2 : SvAt K H2 sv dx ls ot ow sf S1 S2 made := ⟨g2.ins sF.at_.ins, ⟨okvs, g2.dK eo, co⟩, ⟨tkvs, g2.dK et, ct⟩⟩
  refine ⟨_, rfl, sv, _, _, rfl, sv2.ins, rfl, ?_⟩
  refine ⟨_, rfl, a, _, 1, _, rfl, rfl, SqT.of (g2.tup _ _ h1), rfl, _, rfl, ?_⟩
  refine ⟨_, rfl, sv, _, _, rfl, sv2.ins, rfl, ?_⟩
  refine ⟨sv, dx, ls, ot, ow, sf, S1, S2, made, rfl, sv2, g2.tab, hm, hl, fun k0 H3 hk1 hk2 g3 sv3 hfr => ?_⟩
  refine ⟨_, rfl, szl (by show 3 ≤ 10000000; decide), fun p4 hp4 => ?_⟩
  have nsf : sf ≠ sv := fun z => by have := sF.sf_; rw [z, sF.at_.ins] at this; cases this
  have g4 := g3.new (o := .tup [.str "hole", .str (nwf k0), .ref p]) hp4
  have g5 : Gr (TT K) [sv] H _ := (g2.wide (X := [sv])).trans g4
  obtain ⟨okvs3, eo3, co3⟩ := sv3.own
  obtain ⟨tkvs3, et3, ct3⟩ := sv3.oth
  have gs3 : Gr (TT K) [] H3 (upd H3 p4 (.tup [.str "hole", .str (nwf k0), .ref p])) := Gr.new0 g3.tab hp4
  have sv4 : SvAt K (upd H3 p4 (.tup [.str "hole", .str (nwf k0), .ref p])) sv dx ls ot ow sf S1 S2 (k0 + 1) := ⟨gs3.ins sv3.ins, ⟨okvs3, gs3.dK eo3, co3⟩, ⟨tkvs3, gs3.dK et3, ct3⟩⟩
  refine ⟨sv, dx, ls, ot, ow, sf, S1, S2, k0 + 1, fkvs, σ, g, gs.length, .hole (nwf k0) (HF.lessN gs.length ks), _, own, ?_, sv4, g5.tab, g5.dK sF.sf_ (by simp; exact nsf), sF.fil.mono g5, sF.len, ⟨p4, p, ys, rfl, upd_same, g4.tup _ _ ep, hN.mono g4⟩, sm k0, sF.ow_, sF.in_, fun sf' fk' H6 g6 sv6 e6 a6 l6 => ?_⟩
  · rw [← h3.len] <;> rfl
  refine q H6 ⟨k0, sf', fk', hk1, hk2, g5.trans g6, ⟨sv6, g6.tab, e6, a6, by omega, sF.ow_, newF_in sF.in_⟩, hfr, l6⟩
end

end HW
end
section
set_option Elab.async false
set_option linter.all false
set_option maxRecDepth 100000
set_option maxHeartbeats 4000000
namespace HW
open PySem PySem.Spec PyProof.Rows L2 NdefX LamX
/-! ### go_on -/
section
variable {X : Cx}
theorem ixTK {K : PySem.W.Frag} {a b : Expr} {ta tb : TE} {pos : Pos} (hk : X.K = K) (ha : PE X a ta) (hb : PE X b tb) (hs : PlainIx b) : PE X (.Subscript a b pos) (tOp (rIxT K) ta tb) := by
  subst hk
  exact pe_ix ix_tup ha hb hs
theorem op_eqBK {K : PySem.W.Frag} {D : Nat} (hk : X.K = K) (hu : X.A.units + D < cLine) : OpR X (compareOp .Eq) (rEqB K D) := by
  subst hk
  exact op_eqB hu
end
theorem agree_mem {ns ms : List Nat} {k : Nat} (h : k ∈ HF.agree ns ms) : k < ns.length := List.mem_range.mp (List.mem_filter.mp h).1
theorem agree_len (ns ms : List Nat) : (HF.agree ns ms).length ≤ ns.length := by
  have := List.length_filter_le (fun k => decide (ns.getD k 0 = ms.getD k 0)) (List.range ns.length)
  rw [List.length_range] at this
  exact this
theorem hole_or (t : Tm) : (∃ g ns, t = .hole g ns) ∨ ∀ g ns, t ≠ .hole g ns := by
  cases t with
  | hole g ns => exact .inl ⟨g, ns, rfl⟩
  | name k => exact .inr fun _ _ z => by cases z
  | sign u ps => exact .inr fun _ _ z => by cases z
theorem tag_no {H : Hp} {t : Tm} {v : V} (h : At H t v) (n : ∀ g ns, t ≠ .hole g ns) : ∃ a tg rest, v = .ref a ∧ H a = some (.tup (.str tg :: rest)) ∧ decide (V.str tg = V.str "hole") = false := by
  cases t with
  | name k => obtain ⟨a, e, h1⟩ := h; exact ⟨a, _, _, e, h1, eNH⟩
  | sign u ps => obtain ⟨a, b, vs, e, h1, h2, h3⟩ := h; exact ⟨a, _, _, e, h1, eSH⟩
  | hole g ns => exact absurd rfl (n g ns)
theorem fault_one {w : Str} {ns : List Nat} {c : Tm} (h : HF.faultOf (.hole w ns) c = Option.none) (n : ∀ ms, c ≠ .hole w ms) : HF.faultIn w ns 0 c = Option.none := by
  cases c with
  | hole v ms =>
    have : ¬ v = w := fun z => n ms (by rw [z])
    simp [HF.faultIn, this]
  | name k => exact h
  | sign u ps => exact h
theorem fault_two {w : Str} {ns : List Nat} {c : Tm} (h : HF.faultOf c (.hole w ns) = Option.none) (n : ∀ g ms, c ≠ .hole g ms) : HF.faultOf (.hole w ns) c = Option.none ∧ ∀ nw sc, HF.goOn nw sc c (.hole w ns) = HF.goHole nw sc w ns c := by
  cases c with
  | hole v ms => exact absurd rfl (n v ms)
  | name k => exact ⟨h, fun _ _ => rfl⟩
  | sign u ps => exact ⟨h, fun _ _ => rfl⟩
theorem fault_hole2 {a b : Tm} (h : HF.faultOf a b = Option.none) (n : ∀ g ms, a ≠ .hole g ms) : ∃ g ms, b = .hole g ms := by
  rcases hole_or b with q | q
  · exact q
  · cases a with
    | hole v ms => exact absurd rfl (n v ms)
    | name k => cases b with
      | hole v ms => exact ⟨v, ms, rfl⟩
      | name k => cases h
      | sign u ps => cases h
    | sign u ps => cases b with
      | hole v ms => exact ⟨v, ms, rfl⟩
      | name k => cases h
      | sign u ps => cases h
theorem goHole_gen {nw w : Str} {sc : Nat} {ns : List Nat} {c : Tm} (n : ∀ ms, c ≠ .hole w ms) : HF.goHole nw sc w ns c = (match HF.tooMuch ns 0 c with
    | Option.none => (w, ns.length, HF.ren (HF.clo ns sc) 0 c)
    | some (g, gs, ks) => HF.lessT nw g gs.length ks) := by
  cases c with
  | hole v ms =>
    simp only [HF.goHole]
    rw [if_neg fun z : v = w => n ms (by rw [z])]
    cases HF.tooMuch ns 0 (HF.T.hole v ms) <;> rfl
  | name k =>
    simp only [HF.goHole]
    cases HF.tooMuch ns 0 (HF.T.name k : Tm) <;> rfl
  | sign u ps =>
    simp only [HF.goHole]
    cases HF.tooMuch ns 0 (HF.T.sign u ps) <;> rfl
theorem tag2 {H : Hp} {c : Tm} {v : V} {u : Str} (h : At H c v) (n : ¬ ∃ ms, c = .hole u ms) : ∃ a tg rest, v = .ref a ∧ H a = some (.tup (.str tg :: rest)) ∧ (decide (V.str tg = V.str "hole") = false ∨ (tg = "hole" ∧ ∃ x r2, rest = .str x :: r2 ∧ decide (V.str x = V.str u) = false)) := by
  cases c with
  | name k => obtain ⟨a, e, h1⟩ := h; exact ⟨a, _, _, e, h1, .inl eNH⟩
  | sign x ps => obtain ⟨a, b, vs, e, h1, h2, h3⟩ := h; exact ⟨a, _, _, e, h1, .inl eSH⟩
  | hole x ms =>
    obtain ⟨a, b, vs, e, h1, h2, h3⟩ := h
    exact ⟨a, _, _, e, h1, .inr ⟨rfl, x, _, rfl, decide_eq_false fun z => n ⟨ms, by rw [V.str.inj z]⟩⟩⟩
theorem SvF.mono {K : PySem.W.Frag} {T : List NTab} {H H1 : Hp} {sv dx ls ot ow sf : Addr} {S1 S2 : List (Str × Nat)} {made : Nat} {fkvs : List (Key × V)} {σ : HF.Fl Str} {own : List (Str × Nat)} (g : Gr T [] H H1)
    (h : SvF K T H sv dx ls ot ow sf S1 S2 made fkvs σ own) : SvF K T H1 sv dx ls ot ow sf S1 S2 made fkvs σ own :=
  ⟨⟨g.ins h.at_.ins, (let ⟨k, e, c⟩ := h.at_.own; ⟨k, g.dK e, c⟩), (let ⟨k, e, c⟩ := h.at_.oth; ⟨k, g.dK e, c⟩)⟩, g.tab, g.dK h.sf_, h.fil.mono g, h.len, h.ow_, h.in_⟩
theorem Done.pre {K : PySem.W.Frag} {T : List NTab} {H H1 H' : Hp} {sv dx ls ot ow : Addr} {S1 S2 : List (Str × Nat)} {made fl : Nat} {σ : HF.Fl Str} {own : List (Str × Nat)} {r : Nat → Str × Nat × Tm} (g : Gr T [] H H1)
    (h : Done K T H1 H' sv dx ls ot ow S1 S2 made fl σ own r) : Done K T H H' sv dx ls ot ow S1 S2 made fl σ own r := (let ⟨k0, sf, fk, a, b, c, d⟩ := h; ⟨k0, sf, fk, a, b, (g.wide).trans c, d⟩)
section
variable {P : Program} {w : World} {K : PySem.W.Frag} {mg : Str → Option Value} {base : Heap}
/-- .. when the filling needed no new word -/
def DoneE (K : PySem.W.Frag) (T : List NTab) (H H' : Hp) (sv dx ls ot ow : Addr) (S1 S2 : List (Str × Nat)) (made : Nat) (fl : Nat) (σ : HF.Fl Str) (own : List (Str × Nat)) (r : Nat → Str × Nat × Tm) : Prop :=
  ∃ (sf' : Addr) (fk' : List (Key × V)) (r0 : Str × Nat × Tm), (∀ k, r k = r0) ∧ Gr T [sv] H H' ∧ SvF K T H' sv dx ls ot ow sf' S1 S2 made fk' (HF.newF own σ r0.1 r0.2.1 r0.2.2) own ∧ fk'.length ≤ fl + 1
def spGo (K : PySem.W.Frag) (T : List NTab) (m2 n : Nat) : Sp := fun vs H Q _ => ∃ (sv dx ls ot ow sf : Addr) (S1 S2 : List (Str × Nat)) (made : Nat) (fkvs : List (Key × V)) (σ : HF.Fl Str) (own : List (Str × Nat)) (sc : Nat) (a b : Tm) (x y : V),
  vs = [.ref sv, .int (sc : Int), x, y] ∧ SvF K T H sv dx ls ot ow sf S1 S2 made fkvs σ own ∧ made + 1000 ≤ 308915776 ∧ S1.length + S2.length < 1000 ∧ fkvs.length + 1 < 100000 ∧ At H a x ∧ At H b y ∧ HF.strt a ∧ HF.strt b ∧ HF.nd a ≤ 2000000 ∧ HF.nd b ≤ 2000000 ∧ HF.ht a ≤ n ∧ HF.ht b ≤ n ∧
  HF.faultOf a b = Option.none ∧ (∀ g ns ms, a = .hole g ns → b = .hole g ms → ns.length = ms.length) ∧ (∀ k0, Sm m2 n σ (HF.goOn (nwf k0) sc a b).1 (HF.goOn (nwf k0) sc a b).2.1 (HF.goOn (nwf k0) sc a b).2.2) ∧
  ∀ H', Done K T H H' sv dx ls ot ow S1 S2 made fkvs.length σ own (fun k0 => HF.goOn (nwf k0) sc a b) ∨ DoneE K T H H' sv dx ls ot ow S1 S2 made fkvs.length σ own (fun k0 => HF.goOn (nwf k0) sc a b) → Q .non H'
theorem sc_Solver_go_on : FnScope ["self", "scope", "one", "other", "names", "found", "k"] ["self", "scope", "one", "other"] (defScope s_Solver_go_on) := ⟨rfl, rfl, rfl, by decide +kernel, rfl, by decide +kernel, by decide +kernel⟩
theorem ok_go (S : Cn K mg base) (m2 n : Nat) (hF : C8.Met P w K mg base (5 + m2 + n + 1 + 1) (He.ga K "Solver") "fill" (spFill K (TT K) m2 n) []) (hL : C8.Met P w K mg base (5 + m2 + n + 3) (He.ga K "Solver") "tell_less" (spLess K (TT K) m2 n) [])
    (hT : Has P w K mg base "told_names" 1 ["term"] [] (spTold (TT K))) (hM : Has P w K mg base "too_much_told" (n + 1) ["term", "names", "inner"] [] (spToo (TT K) n)) (hC : Has P w K mg base "closed_over" (n + 1) ["term", "names", "bound"] [] (spClosed (TT K) n)) :
    C8.Met P w K mg base (5 + m2 + n + 4) (He.ga K "Solver") "go_on" (spGo K (TT K) m2 n) [] := by
  refine met_of (d := d_Solver_go_on) S 24 93 83 rfl rfl rfl rfl rfl rfl sc_Solver_go_on (fun vs H Q E h => ?_) (fun _ _ _ _ _ _ us hl => match us, hl with | [_, _, _, _], _ => rfl) (fun f cdv A outer s H vs Q E hr h => ?_)
  · obtain ⟨sv, dx, ls, ot, ow, sf, S1, S2, made, fkvs, σ, own, sc, a, b, x, y, rfl, _⟩ := h
    rfl
  refine ⟨_, (pss_cons (ps_if (ptNe (ixT (pv 2))) (pss_one (ps_asg (pe_tup (pa_cons (pv 3) (pa_cons (pv 2) pa_nil))) (pg_tup rfl (pgs_cons (pg_name (i := 2) sc_Solver_go_on.nd rfl (Or.inr rfl)) (pgs_cons (pg_name (i := 3) sc_Solver_go_on.nd rfl (Or.inr rfl)) pgs_nil))))) pss_nil) (pss_one (ps_if (PW.pt (pw_and (ptEq (ixT (pv 3))) (pw_and1 (pt_cmpR op_eq (ixT (pv 3)) (ixT (pv 2)) (nomark _))))) (pss_one (ps_expr (C8.pe_mt hL hr (by omega) (pv 0) (pa_cons (pv 2) (pa_cons (pe_lc (own := [("k", 6)]) (g := (gName 6)) (by rfl) sc_Solver_go_on.nd (pi_range1 (by rfl) (S.free 62) (pa_cons (pe_callB call_len_seq (by rfl) (S.free 58) (by decide +kernel) (pa_cons (ixT (pv 2)) pa_nil)) pa_nil)) (blkOk_by (N := ["self", "scope", "one", "other", "names", "found", "k"]) (sc := defScope s_Solver_go_on) (by decide +kernel)) (fun _ _ _ _ _ => (pg_name (i := 6) sc_Solver_go_on.nd rfl (Or.inl rfl))) (fun _ _ _ _ _ => (pts_one (pt_cmpR (op_eqBK (K := K) (D := 1) rfl (by exact Room.un hr (by omega))) (ixTK (K := K) rfl (ixTK (K := K) rfl (pv 2) pe_int (fun _ _ => rfl)) (pv 6) (fun _ _ => rfl)) (ixTK (K := K) rfl (ixTK (K := K) rfl (pv 3) pe_int (fun _ _ => rfl)) (pv 6) (fun _ _ => rfl)) (nomark _)))) (fun _ _ _ _ _ => (pv 6))) pa_nil))))) (pss_cons (ps_set (i := 4) sc_Solver_go_on.nd rfl (Or.inl rfl) (pe_hs hT hr (by omega) rfl (pa_cons (pv 2) pa_nil))) (pss_cons (ps_set (i := 5) sc_Solver_go_on.nd rfl (Or.inl rfl) (pe_hs hM hr (by omega) rfl (pa_cons (pv 3) (pa_cons (pv 4) (pa_cons pe_int pa_nil))))) (pss_one (ps_if (pt_cmp (pc_isN (pv 5))) (pss_one (ps_expr (C8.pe_mt hF hr (by omega) (pv 0) (pa_cons (ixT (pv 2)) (pa_cons (pe_callB call_len_seq (by rfl) (S.free 58) (by decide +kernel) (pa_cons (pv 4) pa_nil)) (pa_cons (pe_hs hC hr (by omega) rfl (pa_cons (pv 3) (pa_cons (pe_callTy call_list_of (by rfl) (S.free 60) (by decide +kernel) (pa_cons (pv 4) pa_nil)) (pa_cons (pv 1) pa_nil)))) pa_nil)))))) (pss_one (ps_expr (C8.pe_mt hL hr (by omega) (pv 0) (pa_cons (ixT (pv 5)) (pa_cons (ixT (pv 5)) pa_nil)))))))))))), ?_⟩
  obtain ⟨sv, dx, ls, ot, ow, sf, S1, S2, made, fkvs, σ, own, sc, a, b, x, y, rfl, sF, hm, hl, hfl, ha, hb, sa, sb, na, nb, la, lb, hfo, hlen, sm, q⟩ := h
  rcases hole_or a with ⟨u, ns, rfl⟩ | na1
  case' inl =>
    obtain ⟨p1, b1, vs1, rfl, e1, e2, e3⟩ := ha
    refine ⟨_, rfl, p1, _, 0, _, rfl, rfl, SqT.of e1, rfl, rfl, _, rfl, iff' rfl ?_⟩
    have gA : Gr (TT K) [] H H := Gr.refl sF.tab
    have hc := hb
    have hlen2 : ∀ ms, b = .hole u ms → ns.length = ms.length := fun ms e => hlen u ns ms rfl e
    have hfo2 := hfo
    have nh : HF.nd (.hole u ns : Tm) ≤ 2000000 := na
    have sh : ns.Nodup := sa
    have scc := sb
    have ncc := nb
    have lcc := lb
    have hsm : ∀ k0, Sm m2 n σ (HF.goHole (nwf k0) sc u ns b).1 (HF.goHole (nwf k0) sc u ns b).2.1 (HF.goHole (nwf k0) sc u ns b).2.2 := sm
    have hq : ∀ H', Done K (TT K) H H' sv dx ls ot ow S1 S2 made fkvs.length σ own (fun k0 => HF.goHole (nwf k0) sc u ns b) ∨ DoneE K (TT K) H H' sv dx ls ot ow S1 S2 made fkvs.length σ own (fun k0 => HF.goHole (nwf k0) sc u ns b) → Q .non H' := q
    clear q sm hb hlen hfo sa na la sb nb lb
    obtain ⟨c, rfl⟩ : ∃ c, c = b := ⟨_, rfl⟩
    obtain ⟨v2, rfl⟩ : ∃ v2, v2 = y := ⟨_, rfl⟩
  case' inr =>
    obtain ⟨u, ns, eb⟩ := fault_hole2 hfo na1
    obtain ⟨hfo2, hgo2⟩ := fault_two (by rw [eb] at hfo; exact hfo) na1
    rw [eb] at sb nb lb hb
    obtain ⟨p1, b1, vs1, rfl, e1, e2, e3⟩ := hb
    obtain ⟨pa, tga, resta, rfl, ea1, ea2⟩ := tag_no ha na1
    refine ⟨_, rfl, pa, _, 0, _, rfl, rfl, SqT.of ea1, at_of (j := 0) rfl rfl, rfl, _, rfl, ift ?_ ?_⟩
    · show (!decide (V.str tga = V.str "hole")) = true
      rw [ea2] <;> rfl
    refine ⟨_, rfl, _, rfl, szl (by show 2 ≤ 10000000; decide), fun pt hpt => ⟨pt, _, rfl, SqT.of upd_same, rfl, _, _, rfl, _, _, rfl, rfl, ?_⟩⟩
    have gA := Gr.new0 (X := []) (o := .tup [.ref p1, .ref pa]) sF.tab hpt
    have hc : At (upd H pt (.tup [.ref p1, .ref pa])) a (.ref pa) := ha.mono gA
    have e1 := gA.tup _ _ e1
    have e2 := gA.tup _ _ e2
    have e3 := e3.mono gA
    have hlen2 : ∀ ms, a = .hole u ms → ns.length = ms.length := fun ms e => absurd e (na1 u ms)
    have nh := nb
    have sh : ns.Nodup := sb
    have scc := sa
    have ncc := na
    have lcc := la
    subst eb
    simp only [hgo2] at q sm
    have hsm : ∀ k0, Sm m2 n σ (HF.goHole (nwf k0) sc u ns a).1 (HF.goHole (nwf k0) sc u ns a).2.1 (HF.goHole (nwf k0) sc u ns a).2.2 := sm
    have hq : ∀ H', Done K (TT K) H H' sv dx ls ot ow S1 S2 made fkvs.length σ own (fun k0 => HF.goHole (nwf k0) sc u ns a) ∨ DoneE K (TT K) H H' sv dx ls ot ow S1 S2 made fkvs.length σ own (fun k0 => HF.goHole (nwf k0) sc u ns a) → Q .non H' := q
    clear q sm ha hlen hfo sa na la sb nb lb na1 hgo2 ea1 ea2
    obtain ⟨c, rfl⟩ : ∃ c, c = a := ⟨_, rfl⟩
    obtain ⟨v2, rfl⟩ : ∃ v2, v2 = V.ref pa := ⟨_, rfl⟩
  all_goals
    have lh := e3.len
    rw [nd_hole] at nh
    by_cases hsame : ∃ ms, c = .hole u ms
    · obtain ⟨ms, rfl⟩ := hsame
      have hll := hlen2 ms rfl
      obtain ⟨p2, b2, vs2, ev, f1, f2, f3⟩ := hc
      cases ev
      refine ⟨_, rfl, _, _, 0, _, rfl, rfl, SqT.of f1, rfl, rfl, _, rfl, ift eRf ?_⟩
      refine ⟨_, rfl, _, _, 1, _, rfl, rfl, SqT.of f1, rfl, _, rfl, p1, _, 1, _, rfl, rfl, SqT.of e1, rfl, rfl, _, rfl, ift eRf ?_⟩
      refine ⟨_, rfl, sv, _, _, rfl, gA.ins sF.at_.ins, rfl, ?_⟩
      refine ⟨_, rfl, ?_⟩
      refine ⟨_, rfl, p1, _, 2, _, rfl, rfl, SqT.of e1, rfl, b1, _, rfl, .inr (SqT.of e2), ?_⟩
      refine ⟨_, rfl, by omega, by omega, fun D hD => ?_⟩
      have lf := f3.len
      refine lc_it (walk_range (lo := 0) (n := vs1.length)) (fun i H' => Gr (TT K) [] _ H' ∧ H' D = some (.lst (nints ((List.range i).filter fun k => decide (ns.getD k 0 = ms.getD k 0))))) ⟨Gr.new0 gA.tab hD, upd_same⟩ (fun _ _ _ _ => True.intro) ?_ ?_
      · rintro i x H3 H4 hi ⟨g, eD⟩ ⟨rfl, rfl⟩
        have hi1 : i < ns.length := by omega
        have hi2 : i < ms.length := by omega
        obtain ⟨k1, a1, a2⟩ := e3.get (i := i) (v := vs1[i]'hi) (List.getElem?_eq_getElem hi)
        obtain ⟨k2, c1, c2⟩ := f3.get (i := i) (v := vs2[i]'(by omega)) (List.getElem?_eq_getElem (by omega))
        have a2 := a2.mono g
        have c2 := c2.mono g
        obtain ⟨q1, w1, w2⟩ := a2
        obtain ⟨q2, w3, w4⟩ := c2
        refine ⟨rfl, ?_⟩
        refine ⟨_, rfl, p1, _, 2, _, rfl, rfl, SqT.of (g.tup _ _ e1), rfl, _, rfl, b1, _, _, _, rfl, rfl, SqT.of (g.tup _ _ e2), at_of (j := i) (by omega) (List.getElem?_eq_getElem hi), ?_⟩
        refine ⟨_, rfl, _, _, 2, _, rfl, rfl, SqT.of (g.tup _ _ f1), rfl, _, rfl, b2, _, _, _, rfl, rfl, SqT.of (g.tup _ _ f2), at_of (j := i) (by omega) (List.getElem?_eq_getElem (by omega)), ?_⟩
        rw [w1, w3]
        refine ⟨nmD k1, nmD k2, dp_name w2, dp_name w4, nm_ok k1, nm_ok k2, Nat.le_of_eq (nm_depth k1), ?_⟩
        have eg1 : ns.getD i 0 = k1 := by rw [List.getD_eq_getElem?_getD, a1] <;> rfl
        have eg2 : ms.getD i 0 = k2 := by rw [List.getD_eq_getElem?_getD, c1] <;> rfl
        have er : (List.range (i + 1)).filter (fun k => decide (ns.getD k 0 = ms.getD k 0)) = (List.range i).filter (fun k => decide (ns.getD k 0 = ms.getD k 0)) ++ (if k1 = k2 then [i] else []) := by
          rw [List.range_succ, List.filter_append]
          congr 1
          by_cases h9 : k1 = k2
          · rw [if_pos h9]; exact List.filter_cons_of_pos (by simp only [eg1, eg2]; exact decide_eq_true h9)
          · rw [if_neg h9]; exact List.filter_cons_of_neg (by simp only [eg1, eg2]; simpa using h9)
        refine ⟨_, rfl, ite2 (fun h9 => ?_) (fun h9 => ?_)⟩
        · have h9 := eqv_nm.mp h9
          refine ⟨_, rfl, _, eD, szl' ?_, g.mutL (.inl hD) eD, ?_⟩
          · rw [nints_len]
            have := List.length_filter_le (fun k => decide (ns.getD k 0 = ms.getD k 0)) (List.range i)
            rw [List.length_range] at this
            omega
          · rw [upd_same, er, if_pos h9, nints_snoc]
            exact congrArg (fun z => some (HO.lst (_ ++ [V.int z]))) (by omega)
        · have h9 : ¬ k1 = k2 := fun z => by
            have := eqv_nm.mpr z
            rw [this] at h9
            exact h9 rfl
          refine ⟨g, ?_⟩
          rw [er, if_neg h9, List.append_nil]
          exact eD
      · rintro H3 ⟨g, eD⟩
        have eG : ∀ k0, HF.goHole (nwf k0) sc u ns (.hole u ms) = HF.lessT (nwf k0) u ns.length (HF.agree ns ms) := fun k0 => if_pos rfl
        have eD : H3 D = some (.lst (nints (HF.agree ns ms))) := by rw [eD, lh]; rfl
        simp only [eG] at hsm hq
        exact ⟨sv, dx, ls, ot, ow, sf, S1, S2, made, fkvs, σ, own, u, ns, HF.agree ns ms, _, D, rfl, (sF.mono gA).mono g, hm, hl, hfl, ⟨p1, b1, vs1, rfl, g.tup _ _ e1, g.tup _ _ e2, e3.mono g⟩, eD, fun k hk => agree_mem hk, by have := agree_len ns ms; omega, by omega, hsm,
          fun H' dn => hq H' (.inl ((dn.pre g).pre gA))⟩
    · have hfi := fault_one hfo2 fun ms e => hsame ⟨ms, e⟩
      have eG : ∀ k0, HF.goHole (nwf k0) sc u ns c = _ := fun k0 => goHole_gen fun ms e => hsame ⟨ms, e⟩
      obtain ⟨pc, tgc, rc, ev, m1, alt⟩ := tag2 hc hsame
      rcases alt with m3 | ⟨rfl, xx, r2, rfl, m3⟩
      case' inl =>
        refine ⟨_, rfl, pc, _, 0, _, ev, rfl, SqT.of m1, at_of (j := 0) rfl rfl, rfl, _, rfl, iff' m3 ?_⟩
      case' inr =>
        refine ⟨_, rfl, pc, _, 0, _, ev, rfl, SqT.of m1, at_of (j := 0) rfl rfl, rfl, _, rfl, ift eRf ?_⟩
        refine ⟨_, rfl, pc, _, 1, _, ev, rfl, SqT.of m1, at_of (j := 1) rfl rfl, _, rfl, p1, _, 1, _, rfl, rfl, SqT.of e1, rfl, rfl, _, rfl, iff' m3 ?_⟩
      case' inl => refine iteF ?_
      all_goals
        refine ⟨_, rfl, .hole u ns, _, rfl, ⟨p1, b1, vs1, rfl, e1, e2, e3⟩, gA.tab, sh, by rw [nd_hole]; omega, fun H2 g2 p hp hp2 => ?_⟩
        have c2 := hc.mono g2
        refine ⟨_, rfl, _, rfl, c, _, p, ns, 0, rfl, c2, hp2, g2.tab, by omega, lcc, fun H3 g3 => ?_⟩
        have g23 := g2.trans g3
        have gT := gA.trans g23
        cases hq9 : HF.tooMuch ns 0 c with
        | none =>
          rw [hq9] at eG
          have eG : ∀ k0, HF.goHole (nwf k0) sc u ns c = (u, ns.length, HF.ren (HF.clo ns sc) 0 c) := eG
          simp only [eG] at hsm hq
          refine ⟨_, rfl, _, rfl, iteT ?_⟩
          refine ⟨_, rfl, sv, _, _, rfl, gT.ins sF.at_.ins, rfl, ?_⟩
          refine ⟨_, rfl, p1, _, 1, _, rfl, rfl, SqT.of (g23.tup _ _ e1), rfl, ?_⟩
          refine ⟨_, rfl, p, _, rfl, .inr (SqT.of (g3.tup _ _ hp2)), ?_⟩
          refine ⟨_, rfl, ?_⟩
          refine ⟨_, rfl, p, _, rfl, .inr (SqT.of (g3.tup _ _ hp2)), fun l hl => ?_⟩
          have g4 := g3.new (o := .lst (nints ns)) hl
          have g24 := g2.trans g4
          have gT4 := gA.trans g24
          refine ⟨_, rfl, c, _, l, ns, sc, rfl, hc.mono g24, g4.tab, by omega, lcc, upd_same, sh, by omega, HF.none_names hfi hq9, fun v' H5 g5 at5 => ?_⟩
          have gT5 := gT4.trans g5
          have sF5 := sF.mono gT5
          rw [nints_len]
          refine ⟨sv, dx, ls, ot, ow, sf, S1, S2, made, fkvs, σ, u, ns.length, _, v', own, rfl, sF5.at_, sF5.tab, sF5.sf_, sF5.fil, sF5.len, at5, hsm 0, sF5.ow_, sF5.in_, fun sf' fk' H6 g6 sv6 e6 a6 l6 => ?_⟩
          exact hq H6 (.inr ⟨sf', fk', _, fun _ => rfl, gT5.wide.trans g6, ⟨sv6, g6.tab, e6, a6, by omega, sF5.ow_, newF_in sF5.in_⟩, l6⟩)
        | some r =>
          obtain ⟨gg, gs, ks⟩ := r
          rw [hq9] at eG
          have eG : ∀ k0, HF.goHole (nwf k0) sc u ns c = HF.lessT (nwf k0) gg gs.length ks := eG
          simp only [eG] at hsm hq
          obtain ⟨t1, t2, t3, t4⟩ := HF.too_struct hq9
          have t5 := @HF.step_ok.nd_hole Str 0 0 0 gg gs.length c t1
          refine fun p9 l9 hv9 hp9 _ _ at9 hl9 => ?_
          have sF3 := sF.mono gT
          refine ⟨_, rfl, _, rfl, iteF ?_⟩
          refine ⟨_, rfl, sv, _, _, rfl, gT.ins sF.at_.ins, rfl, _, rfl, p9, _, 0, _, rfl, rfl, SqT.of hp9, rfl, _, rfl, p9, _, 1, _, rfl, rfl, SqT.of hp9, rfl, ?_⟩
          exact ⟨sv, dx, ls, ot, ow, sf, S1, S2, made, fkvs, σ, own, gg, gs, ks, hv9, l9, rfl, sF3, hm, hl, hfl, at9, hl9, t3, by omega, by omega, hsm, fun H' dn => hq H' (.inl (dn.pre gT))⟩
end

end HW
end
section
set_option linter.all false
namespace HF
section
variable {W : Type} [DecidableEq W]
variable {nwf : Nat → W} {own : List (W × Nat)} {sides : List (Side W)} {h0 n0 l0 : Nat} {σ : Fl W} {made : Nat} {L : List (W × Nat)} {e : Nat}
/-- a step without a new word -/
theorem step_elim (I : Inv nwf own sides h0 n0 l0 σ made L e) {s : Side W} (hs' : s ∈ sides) {ℓ : Leaf W} (hl : ℓ ∈ leaves s.1 [] (fil (sg σ) s.2.1) (fil (sg σ) s.2.2)) (hf : faultOf ℓ.a ℓ.b = none)
    {c c' : W} (hcc : c ≠ c') {r : W × Nat × T W} (hr1 : r = goOn c ℓ.sc ℓ.a ℓ.b) (hr2 : r = goOn c' ℓ.sc ℓ.a ℓ.b) :
    ∃ L' e', Inv nwf own sides h0 n0 l0 (newF own σ r.1 r.2.1 r.2.2) made L' e' ∧ (U sides σ L → U sides (newF own σ r.1 r.2.1 r.2.2) L') ∧ mu L' < mu L := by
  obtain ⟨k, eq⟩ := leaf_ok I hs' hl
  have hAB : ∀ p ∈ hs ℓ.a ++ hs ℓ.b, p ∈ L := fun p hp => (List.mem_append.mp hp).elim (k.ha p) (k.hb p)
  have gl : ∀ w ns ms, ℓ.a = .hole w ns → ℓ.b = .hole w ms → ns.length = ms.length := fun w ns ms h1 h2 => fun_of I.lf (k.ha (w, ns.length) (by rw [h1]; simp [hs])) (k.hb (w, ms.length) (by rw [h2]; simp [hs]))
  have act1 : Act c ℓ.a ℓ.b r := hr1 ▸ go_act k.sa k.sb k.ne gl hf
  have act2 : Act c' ℓ.a ℓ.b r := hr2 ▸ go_act k.sa k.sb k.ne gl hf
  obtain ⟨w, m, u⟩ := r
  have main : ∀ (h : Elim (hs ℓ.a) (hs ℓ.b) ℓ.a ℓ.b w m u) (kk : ∀ θ, gd θ (hs ℓ.a ++ hs ℓ.b) → fil θ ℓ.a = fil θ ℓ.b → After θ w u), ∃ L' e', Inv nwf own sides h0 n0 l0 (newF own σ w m u) made L' e' ∧ (U sides σ L → U sides (newF own σ w m u) L') ∧ mu L' < mu L := by
    intro h kk
    have hw : (w, m) ∈ L := hAB _ h.mem
    have hu : ∀ p ∈ hs u, p ∈ rid w L := fun p hp => mem_rid.mpr ⟨(by
      rcases h.sub with q | q
      · exact k.ha p (q ▸ hp)
      · exact k.hb p (q ▸ hp)), fun z => h.out p.2 (z ▸ hp)⟩
    have bu : Bd h0 n0 e u := by
      refine ⟨?_, ?_, ?_⟩
      · rcases h.ht with q | q
        · exact Nat.le_trans q k.ba.ht
        · exact Nat.le_trans q k.bb.ht
      · rcases h.sub with q | q
        · have : (hs u).length = (hs ℓ.a).length := congrArg List.length q
          rw [this]; exact k.ba.oc
        · have : (hs u).length = (hs ℓ.b).length := congrArg List.length q
          rw [this]; exact k.bb.oc
      · rcases h.nd with q | q
        · exact Nat.le_trans q k.ba.nd
        · exact Nat.le_trans q k.bb.nd
    refine ⟨rid w L, e + 1, I.fill hw h.st h.cl (rid_nodup I.lf) (fun p hp hn => mem_rid.mpr ⟨hp, hn⟩) hu bu.up (fun t _ b => b.fil bu) (fun p hp => I.nw p (mem_rid.mp hp).1) (by have := rid_len hw; have := I.le; omega), fun ⟨θ, g, hh⟩ => ?_, by have := mu_rid hw; omega⟩
    exact U.fill I hw h.cl hu hh (g.mono fun p hp => (mem_rid.mp hp).1) (fun _ _ _ => rfl) (kk θ (g.mono hAB) (eq θ (hh s hs')))
  cases act1 with
  | elim h kk => exact main h kk
  | less ks h kk =>
    cases act2 with
    | elim h kk => exact main h kk
    | less ks2 h2 kk2 =>
      exfalso
      have e1 : u = .hole c (lessN m ks) := h.eq
      have e2 : u = .hole c' (lessN m ks2) := h2.eq
      rw [e1] at e2
      exact hcc (T.hole.inj e2).1
/-- what a step fills with: told as the hole is, closed, bounded -/
theorem step_fit (I : Inv nwf own sides h0 n0 l0 σ made L e) {s : Side W} (hs' : s ∈ sides) {ℓ : Leaf W} (hl : ℓ ∈ leaves s.1 [] (fil (sg σ) s.2.1) (fil (sg σ) s.2.2)) (hf : faultOf ℓ.a ℓ.b = none) {c : W} {r : W × Nat × T W} (hr : r = goOn c ℓ.sc ℓ.a ℓ.b) :
    (r.1, r.2.1) ∈ L ∧ cls r.2.1 r.2.2 ∧ ht r.2.2 ≤ max 2 (hB h0 e) ∧ nd r.2.2 ≤ nB n0 e + 1 + nB n0 e := by
  obtain ⟨k, eq⟩ := leaf_ok I hs' hl
  have hAB : ∀ p ∈ hs ℓ.a ++ hs ℓ.b, p ∈ L := fun p hp => (List.mem_append.mp hp).elim (k.ha p) (k.hb p)
  have gl : ∀ w ns ms, ℓ.a = .hole w ns → ℓ.b = .hole w ms → ns.length = ms.length := fun w ns ms h1 h2 => fun_of I.lf (k.ha (w, ns.length) (by rw [h1]; simp [hs])) (k.hb (w, ms.length) (by rw [h2]; simp [hs]))
  have act : Act c ℓ.a ℓ.b r := hr ▸ go_act k.sa k.sb k.ne gl hf
  cases act with
  | elim h kk =>
    refine ⟨hAB _ h.mem, h.cl, ?_, ?_⟩
    · rcases h.ht with q | q
      · exact Nat.le_trans (Nat.le_trans q k.ba.ht) (Nat.le_max_right _ _)
      · exact Nat.le_trans (Nat.le_trans q k.bb.ht) (Nat.le_max_right _ _)
    · rcases h.nd with q | q
      · have := k.ba.nd; omega
      · have := k.bb.nd; omega
  | less ks h kk =>
    have hlt : ks.length < r.2.1 := h.lt
    refine ⟨hAB _ h.mem, ?_, ?_, ?_⟩
    · rw [h.eq]
      intro x hx
      exact less_lt h.ran hx
    · rw [h.eq]; exact Nat.le_max_left 2 _
    · rw [h.eq]
      show 1 + (lessN r.2.1 ks).length ≤ _
      have e1 : (lessN r.2.1 ks).length = ks.length := List.length_map _
      have h2 : 1 + r.2.1 ≤ nB n0 e := by
        rcases List.mem_append.mp h.mem with q | q
        · exact Nat.le_trans (step_ok.nd_hole (made := 0) (k0 := 0) (M := 0) q) k.ba.nd
        · exact Nat.le_trans (step_ok.nd_hole (made := 0) (k0 := 0) (M := 0) q) k.bb.nd
      omega
end
end HF
end
section
set_option Elab.async false
set_option linter.all false
set_option maxRecDepth 100000
set_option maxHeartbeats 4000000
namespace HW
open PySem PySem.Spec PyProof.Rows L2 NdefX LamX
/-! ### turn -/
theorem nw6_ok : ∀ (k n : Nat) (u : Str), wOk u → wOk (nw6 k n u)
  | 0, _, _, h => h
  | k + 1, n, u, h => nw6_ok k (n / 26) _ (by
    have h1 : ∀ c ∈ (ltr (n % 26) ++ u).cps.toList, c < 1114112 := fun c hc => by
      rw [cps_app] at hc
      rcases List.mem_append.mp hc with q | q
      · have : c = 97 + n % 26 := by simpa [ltr] using q
        omega
      · have h2 : (u.cps.all (· < 0x110000)) = true := h
        rw [← Array.all_toList] at h2
        exact of_decide_eq_true (List.all_eq_true.mp h2 c q)
    show ((ltr (n % 26) ++ u).cps.all (· < 0x110000)) = true
    rw [← Array.all_toList]
    exact List.all_eq_true.mpr fun c hc => decide_eq_true (h1 c hc))
theorem wOk_app {a b : Str} (ha : wOk a) (hb : wOk b) : wOk (a ++ b) := by
  have h2 : (a.cps.all (· < 0x110000)) = true := ha
  have h3 : (b.cps.all (· < 0x110000)) = true := hb
  rw [← Array.all_toList] at h2 h3
  show ((a ++ b).cps.all (· < 0x110000)) = true
  rw [← Array.all_toList, cps_app, List.all_append, h2, h3] <;> rfl
theorem dg_all : ∀ (k n c : Nat), c ∈ dg k n → 97 ≤ c ∧ c ≤ 122
  | 0, _, _, h => by cases h
  | k + 1, n, c, h => by
    rcases List.mem_append.mp h with q | q
    · exact dg_all k _ c q
    · rw [List.mem_singleton.mp q]; omega
theorem nwf_ok (k : Nat) : Wd (nwf k) := by
  have e : (nwf k).cps.toList = [122, 122] ++ dg 6 k := by
    unfold nwf
    rw [cps_app, nw6_dg]
    have h1 : ("zz" : Str).cps.toList = [122, 122] := by decide +kernel
    have h2 : ("" : Str).cps.toList = [] := by decide +kernel
    rw [h1, h2, List.append_nil]
  have hl : (nwf k).length = 8 := by
    have h3 := nw6_len 6 k ""
    show ("zz" ++ nw6 6 k "" : Str).cps.size = 8
    have h4 : ("zz" ++ nw6 6 k "" : Str).cps = ("zz" : Str).cps ++ (nw6 6 k "").cps := rfl
    rw [h4, Array.size_append]
    have h5 : (nw6 6 k "").cps.size = 6 + ("" : Str).length := h3
    rw [h5] <;> decide +kernel
  refine ⟨fun c hc => ?_, by omega, by omega⟩
  rw [e] at hc
  rcases List.mem_append.mp hc with q | q
  · simp at q; rw [q]; decide +kernel
  · exact isL_iff.mpr (dg_all 6 k c q)
/-- pairs in the heap -/
def AtSd (H : Hp) (x : HF.Side Str) (v : V) : Prop := ∃ p va vb, v = .ref p ∧ H p = some (.tup [.int (x.1 : Int), va, vb]) ∧ At H x.2.1 va ∧ At H x.2.2 vb
def AtSds (H : Hp) : List (HF.Side Str) → List V → Prop
  | [], vs => vs = []
  | q :: r, vs => ∃ v vs', vs = v :: vs' ∧ AtSd H q v ∧ AtSds H r vs'
theorem AtSd.mono {T : List NTab} {X : List Addr} {H H1 : Hp} (g : Gr T X H H1) {q : HF.Side Str} {v : V} (h : AtSd H q v) : AtSd H1 q v := (let ⟨p, va, vb, e, h1, h2, h3⟩ := h; ⟨p, va, vb, e, g.tup _ _ h1, h2.mono g, h3.mono g⟩)
theorem AtSds.mono {T : List NTab} {X : List Addr} {H H1 : Hp} (g : Gr T X H H1) : ∀ {l : List (HF.Side Str)} {vs : List V}, AtSds H l vs → AtSds H1 l vs
  | [], _, h => h
  | q :: r, _, ⟨v, vs', e, hx, h⟩ => ⟨v, vs', e, hx.mono g, AtSds.mono g h⟩
theorem AtSds.len {H : Hp} : ∀ {l : List (HF.Side Str)} {vs : List V}, AtSds H l vs → vs.length = l.length
  | [], _, h => by rw [show _ = [] from h] <;> rfl
  | q :: r, _, ⟨v, vs', e, _, h⟩ => by rw [e, List.length_cons, List.length_cons, AtSds.len h]
theorem AtSds.get {H : Hp} : ∀ {l : List (HF.Side Str)} {vs : List V} {i : Nat} {v : V}, AtSds H l vs → vs[i]? = some v → ∃ q, l[i]? = some q ∧ AtSd H q v
  | [], _, i, v, h, e => by rw [show _ = [] from h] at e; simp at e
  | q :: r, _, 0, v, ⟨x, vs', e1, hx, _⟩, e => by
    rw [e1] at e
    simp at e
    exact ⟨q, by simp, e ▸ hx⟩
  | q :: r, _, i + 1, v, ⟨x, vs', e1, _, h⟩, e => by
    rw [e1] at e
    obtain ⟨z, h1, h2⟩ := AtSds.get (i := i) h (by simpa using e)
    exact ⟨z, by simpa using h1, h2⟩
theorem hB_le {h0 : Nat} {e l : Nat} (h : e ≤ l) : HF.hB h0 e ≤ HF.hB h0 l := by
  induction h with
  | refl => exact Nat.le_refl _
  | step _ ih => exact Nat.le_trans ih (Nat.le_add_right _ _)
theorem nB_le {n0 : Nat} {e l : Nat} (h : e ≤ l) : HF.nB n0 e ≤ HF.nB n0 l := by
  induction h with
  | refl => exact Nat.le_refl _
  | step _ ih => exact Nat.le_trans ih (Nat.le_add_right _ _)
theorem gt_goHole {B : List Str} {nw u : Str} {sc : Nat} {ns : List Nat} {c : Tm} (hw : Wd nw) (h : gt B c) : gt B (HF.goHole nw sc u ns c).2.2 := by
  by_cases hs : ∃ ms, c = .hole u ms
  · obtain ⟨ms, rfl⟩ := hs
    have : HF.goHole nw sc u ns (.hole u ms) = HF.lessT nw u ns.length (HF.agree ns ms) := if_pos rfl
    rw [this]; exact hw
  · rw [goHole_gen fun ms e => hs ⟨ms, e⟩]
    cases HF.tooMuch ns 0 c with
    | none => exact gt_ren _ 0 c h
    | some r => exact hw
theorem gt_goOn {B : List Str} {nw : Str} {sc : Nat} {a b : Tm} (hw : Wd nw) (ha : gt B a) (hb : gt B b) : gt B (HF.goOn nw sc a b).2.2 := by
  cases a with
  | hole u ns => exact gt_goHole hw hb
  | name k => cases b with
    | hole u ns => exact gt_goHole hw ha
    | name k => exact hb
    | sign u ps => exact hb
  | sign u ps => cases b with
    | hole u ns => exact gt_goHole hw ha
    | name k => exact hb
    | sign u ps => exact hb
theorem gt_newF {B : List Str} {own : List (Str × Nat)} {σ : HF.Fl Str} {u : Str} {m : Nat} {t : Tm} (h : ∀ x k v, σ x = some (k, v) → gt B v) (ht : gt B t) : ∀ x k v, HF.newF own σ u m t x = some (k, v) → gt B v := fun x k v e => by
  unfold HF.newF at e
  cases hx : σ x with
  | some y =>
    obtain ⟨k', v'⟩ := y
    rw [hx] at e
    have e := Option.some.inj e
    rw [← (Prod.mk.inj e).2]
    exact gt_fil (fun z w hz => by
      unfold HF.one at hz
      by_cases hc : z = u
      · rw [if_pos hc] at hz; rw [← Option.some.inj hz]; exact ht
      · rw [if_neg hc] at hz; cases hz) v' (h x k' v' hx)
  | none =>
    rw [hx] at e
    simp only at e
    by_cases hc : x = u ∧ u ∈ own.map (·.1)
    · rw [if_pos hc] at e
      rw [← (Prod.mk.inj (Option.some.inj e)).2]; exact ht
    · rw [if_neg hc] at e; cases e
section
variable {P : Program} {w : World} {K : PySem.W.Frag} {mg : Str → Option Value} {base : Heap}
/-- a solver at work -/
structure Wk (K : PySem.W.Frag) (T : List NTab) (n : Nat) (B : List Str) (h0 n0 l0 : Nat) (H : Hp) (sv dx ls ot ow sf : Addr) (S1 S2 : List (Str × Nat)) (made : Nat) (fkvs : List (Key × V)) (σ : HF.Fl Str) (own : List (Str × Nat)) (sides : List (HF.Side Str)) (L : List (Str × Nat)) (e : Nat) : Prop where
  f : SvF K T H sv dx ls ot ow sf S1 S2 made fkvs σ own
  ls_ : ∃ sxs, H ls = some (.lst sxs) ∧ AtSds H sides sxs
  inv : HF.Inv nwf own sides h0 n0 l0 σ made L e
  gs : ∀ x ∈ sides, gt B x.2.1 ∧ gt B x.2.2
  raw : ∀ x ∈ sides, (HF.ht x.2.1 ≤ n ∧ HF.nd x.2.1 ≤ 1900000) ∧ (HF.ht x.2.2 ≤ n ∧ HF.nd x.2.2 ≤ 1900000)
  gf : ∀ x k v, σ x = some (k, v) → gt B v
  few : S1.length + S2.length < 1000
  mk_ : made + 1000 * (HF.mu L + 1) ≤ 308915776
  fk : fkvs.length + HF.mu L + 1 < 100000
/-- fixed bounds -/
structure Bn (n : Nat) (B : List Str) (h0 n0 l0 : Nat) : Prop where
  h : HF.hB h0 l0 ≤ n
  two : 2 ≤ n
  big : n ≤ 300
  nd : HF.nB n0 l0 ≤ 1900000
  ok : ∀ u ∈ B, wOk u
def spTurn (K : PySem.W.Frag) (T : List NTab) (n : Nat) (B : List Str) (h0 n0 l0 : Nat) : Sp := fun vs H Q _ => ∃ (sv dx ls ot ow sf : Addr) (S1 S2 : List (Str × Nat)) (made : Nat) (fkvs : List (Key × V)) (σ : HF.Fl Str) (own : List (Str × Nat)) (sides : List (HF.Side Str)) (L : List (Str × Nat)) (e : Nat),
  vs = [.ref sv] ∧ Wk K T n B h0 n0 l0 H sv dx ls ot ow sf S1 S2 made fkvs σ own sides L e ∧
  (∀ p H' rest, Gr T [sv] H H' → H' p = some (.tup (.str "clash" :: rest)) → ¬ HF.U sides σ L → Q (.ref p) H') ∧
  (∀ p H' d, Gr T [sv] H H' → H' p = some (.tup [.str "filled", .ref sf, .ref d]) → H' d = some (.lst []) → (∀ x ∈ sides, HF.fil (HF.sg σ) x.2.1 = HF.fil (HF.sg σ) x.2.2) → Q (.ref p) H') ∧
  (∀ H' sf' made' fk' σ' L' e', Gr T [sv] H H' → Wk K T n B h0 n0 l0 H' sv dx ls ot ow sf' S1 S2 made' fk' σ' own sides L' e' → HF.mu L' < HF.mu L → (HF.U sides σ L → HF.U sides σ' L') → Q .non H')
theorem AtLs.get {H : Hp} : ∀ {l : List (HF.Leaf Str)} {vs : List V} {i : Nat} {v : V}, AtLs H l vs → vs[i]? = some v → ∃ q, l[i]? = some q ∧ AtLf H q v
  | [], _, i, v, h, e => by rw [show _ = [] from h] at e; simp at e
  | q :: r, _, 0, v, ⟨x, vs', e1, hx, _⟩, e => by
    rw [e1] at e
    simp at e
    exact ⟨q, by simp, e ▸ hx⟩
  | q :: r, _, i + 1, v, ⟨x, vs', e1, _, h⟩, e => by
    rw [e1] at e
    obtain ⟨z, h1, h2⟩ := AtLs.get (i := i) h (by simpa using e)
    exact ⟨z, by simpa using h1, h2⟩
mutual
theorem gt_leaf {B : List Str} {ℓ : HF.Leaf Str} : ∀ {a b : HF.T Str} {sc : Nat} {pl : List Nat}, ℓ ∈ HF.leaves sc pl a b → gt B a → gt B b → gt B ℓ.a ∧ gt B ℓ.b
  | .name k, b, sc, pl, h, ha, hb => by
    simp only [HF.leaves] at h
    split at h
    · simp at h
    · simp only [List.mem_singleton] at h
      subst h
      exact ⟨ha, hb⟩
  | .hole u ns, b, sc, pl, h, ha, hb => by
    simp only [HF.leaves] at h
    split at h
    · simp at h
    · simp only [List.mem_singleton] at h
      subst h
      exact ⟨ha, hb⟩
  | .sign u ps, b, sc, pl, h, ha, hb => by
    simp only [HF.leaves] at h
    split at h
    · simp at h
    · cases b with
      | sign v qs =>
        simp only at h
        split at h
        · exact gt_leafL h ha.2.2 hb.2.2
        · simp only [List.mem_singleton] at h
          subst h
          exact ⟨ha, hb⟩
      | name k =>
        simp only [List.mem_singleton] at h
        subst h
        exact ⟨ha, hb⟩
      | hole v ns =>
        simp only [List.mem_singleton] at h
        subst h
        exact ⟨ha, hb⟩
theorem gt_leafL {B : List Str} {ℓ : HF.Leaf Str} : ∀ {a b : HF.Ts Str} {sc : Nat} {pl : List Nat} {k : Nat}, ℓ ∈ HF.leavesL sc pl k a b → gtL B a → gtL B b → gt B ℓ.a ∧ gt B ℓ.b
  | .nil, _, _, _, _, h, _, _ => by simp [HF.leavesL] at h
  | .cons m t r, .nil, _, _, _, h, _, _ => by simp [HF.leavesL] at h
  | .cons m t r, .cons m' t' r', _, _, _, h, ha, hb => by
    simp only [HF.leavesL, List.mem_append] at h
    rcases h with h | h
    · exact gt_leaf h ha.1 hb.1
    · exact gt_leafL h ha.2 hb.2
end
theorem inv_fit {n : Nat} {B : List Str} {h0 n0 l0 : Nat} (bn : Bn n B h0 n0 l0) {own : List (Str × Nat)} {sides : List (HF.Side Str)} {σ : HF.Fl Str} {made : Nat} {L : List (Str × Nat)} {e : Nat} (I : HF.Inv nwf own sides h0 n0 l0 σ made L e) {l : List (Str × Nat)} (hl : ∀ p ∈ l, p ∈ own) : fit n σ l := fun u k hk m t hu => by
  obtain ⟨i1, i2, i3, i4, i5⟩ := I.so u m t hu
  have hel : e ≤ l0 := by have := I.le; omega
  have a1 := Nat.le_trans i5.ht (Nat.le_trans (hB_le hel) bn.h)
  have a2 := Nat.le_trans i5.nd (Nat.le_trans (nB_le hel) bn.nd)
  exact ⟨HF.fun_of I.ow i1 (hl _ hk), i3, by omega, a1⟩
theorem sc_Solver_turn : FnScope ["self", "delayed", "number", "pair", "scope", "one", "other", "leaf", "fault"] ["self"] (defScope s_Solver_turn) := ⟨rfl, rfl, rfl, by decide +kernel, rfl, by decide +kernel, by decide +kernel⟩
theorem ok_turn (S : Cn K mg base) (n : Nat) (B : List Str) (h0 n0 l0 : Nat) (bn : Bn n B h0 n0 l0) (hLv : Has P w K mg base "leaves_of" (n + 1) ["scope", "one", "other", "place"] [] (spLeaves (TT K) n)) (hFl : Has P w K mg base "filled" (5 + n + n + 1) ["filling", "term"] [] (spFilled (TT K) n n))
    (hFo : Has P w K mg base "fault_of" (n + 1 + 1) ["one", "other"] [] (spFaultOf (TT K) n)) (hS : Has P w K mg base "is_straight" (n + 1) ["term"] [] (spStr (TT K) n)) (hG : C8.Met P w K mg base (5 + n + n + 4) (He.ga K "Solver") "go_on" (spGo K (TT K) n n) []) :
    C8.Met P w K mg base (5 + n + n + 5) (He.ga K "Solver") "turn" (spTurn K (TT K) n B h0 n0 l0) [] := by
  refine met_of (d := d_Solver_turn) S 25 94 83 rfl rfl rfl rfl rfl rfl sc_Solver_turn (fun vs H Q E h => ?_) (fun _ _ _ _ _ _ us hl => match us, hl with | [_], _ => rfl) (fun f cdv A outer s H vs Q E hr h => ?_)
  · obtain ⟨sv, dx, ls, ot, ow, sf, S1, S2, made, fkvs, σ, own, sides, L, e, rfl, _⟩ := h
    rfl
  refine ⟨_, (pss_cons (ps_set (i := 1) sc_Solver_turn.nd rfl (Or.inl rfl) (pe_lst pa_nil)) (pss_cons (ps_for PassesOwn.never rfl (pi_enum (by rfl) (S.free 63) (pa_cons (pe_fld (pv 0) rfl) pa_nil)) (pg_tup rfl (pgs_cons (pg_name (i := 2) sc_Solver_turn.nd rfl (Or.inl rfl)) (pgs_cons (pg_name (i := 3) sc_Solver_turn.nd rfl (Or.inl rfl)) pgs_nil))) (pss_cons (ps_asg (pv 3) (pg_tup rfl (pgs_cons (pg_name (i := 4) sc_Solver_turn.nd rfl (Or.inl rfl)) (pgs_cons (pg_name (i := 5) sc_Solver_turn.nd rfl (Or.inl rfl)) (pgs_cons (pg_name (i := 6) sc_Solver_turn.nd rfl (Or.inl rfl)) pgs_nil))))) (pss_one (ps_for PassesOwn.never rfl (pi_list (pe_hs hLv hr (by omega) rfl (pa_cons (pv 4) (pa_cons (pe_hs hFl hr (by omega) rfl (pa_cons (pe_fld (pv 0) rfl) (pa_cons (pv 5) pa_nil))) (pa_cons (pe_hs hFl hr (by omega) rfl (pa_cons (pe_fld (pv 0) rfl) (pa_cons (pv 6) pa_nil))) (pa_cons (pe_tup pa_nil) pa_nil)))))) (pg_name (i := 7) sc_Solver_turn.nd rfl (Or.inl rfl)) (pss_cons (ps_set (i := 8) sc_Solver_turn.nd rfl (Or.inl rfl) (pe_hs hFo hr (by omega) rfl (pa_cons (ixT (pv 7)) (pa_cons (ixT (pv 7)) pa_nil)))) (pss_cons (ps_if (pt_cmp (pc_notN (pv 8))) (pss_one (ps_ret (pe_tup (pa_cons pe_str (pa_cons (pv 8) (pa_cons (pv 2) (pa_cons (ixT (pv 7)) (pa_cons (pe_fld (pv 0) rfl) pa_nil)))))))) pss_nil) (pss_cons (ps_if (PW.pt (pw_and (pt_val (pe_hs hS hr (by omega) rfl (pa_cons (ixT (pv 7)) pa_nil))) (pw_and1 (pt_val (pe_hs hS hr (by omega) rfl (pa_cons (ixT (pv 7)) pa_nil)))))) (pss_cons (ps_expr (C8.pe_mt hG hr (by omega) (pv 0) (pa_cons (ixT (pv 7)) (pa_cons (ixT (pv 7)) (pa_cons (ixT (pv 7)) pa_nil))))) (pss_one (ps_ret pe_non))) pss_nil) (pss_one (ps_expr (pe_bm PySem.F.plainAttrs_list PySem.F.slot_list_append PySem.F.type_list_append mt_append (pv 1) (pa_cons (pe_tup (pa_cons (pv 2) (pa_cons (ixT (pv 7)) pa_nil))) pa_nil))))))))))) (pss_one (ps_ret (pe_tup (pa_cons pe_str (pa_cons (pe_fld (pv 0) rfl) (pa_cons (pe_callB cr_sorted (by rfl) (S.free 64) (by decide +kernel) (pa_cons (pv 1) pa_nil)) pa_nil)))))))), ?_⟩
  obtain ⟨sv, dx, ls, ot, ow, sf, S1, S2, made, fkvs, σ, own, sides, L, e, rfl, wk, qc, qf, qn⟩ := h
  have hcl := S.cls 83
  have na1 := S.noat 85
  have na2 := S.noat 89
  obtain ⟨sxs, els, ats⟩ := wk.ls_
  refine ⟨szl (by decide), fun D hD => ?_⟩
  have g0 := Gr.new0 (X := []) (o := .lst []) wk.f.tab hD
  have sl := ats.len
  have els0 := g0.lst els
  have ins0 := g0.ins wk.f.at_.ins
  refine ⟨_, rfl, sv, _, _, _, _, rfl, ins0, hcl, na1, rfl, ls, _, rfl, SqL.of els0, ?_⟩
  have ndl : D ≠ sv := fun z => by rw [z, wk.f.at_.ins] at hD; cases hD
  refine for_it (walk_enum (K := K) (a := ls) (xs := sxs)) (fun i σ' H' => ∃ o1 o2 o3 o4 o5 o6 o7, σ' = [some (.ref sv), some (.ref D), o1, o2, o3, o4, o5, o6, o7] ∧ Gr (TT K) [] H H' ∧ H' D = some (.lst []) ∧ ∀ x ∈ sides.take i, HF.fil (HF.sg σ) x.2.1 = HF.fil (HF.sg σ) x.2.2)
    ⟨_, _, _, _, _, _, _, rfl, g0, upd_same, fun x hx => by simp at hx⟩ (fun i σ' H' _ ⟨_, _, _, _, _, _, _, _, g, _⟩ => SqL.of (g.lst els)) ?_ ?_
  · rintro i x σ' H' H2 hi ⟨o1, o2, o3, o4, o5, o6, o7, rfl, g, eD, hal⟩ ⟨p', x1, x2, rfl, hp', rfl, ex1, ex2⟩
    obtain rfl : V.int (i : Nat) = x1 := Option.some.inj ex1
    obtain ⟨sd, es, ad⟩ := ats.get ex2
    have hsd := List.mem_of_getElem? es
    have g1 := g.new (o := .tup [.int (i : Nat), x2]) hp'
    have eD1 : (upd H' p' (.tup [.int (i : Nat), x2])) D = some (.lst []) := by rw [upd_ne (ne_of_none eD hp')]; exact eD
    refine ⟨p', _, rfl, SqT.of upd_same, rfl, _, _, rfl, _, _, rfl, rfl, ?_⟩
    generalize upd H' p' (.tup [.int (i : Nat), x2]) = H1 at g1 eD1 ⊢
    obtain ⟨ps, va, vb, rfl, d1, d2, d3⟩ := ad.mono g1
    refine ⟨_, rfl, ps, _, rfl, SqT.of d1, rfl, _, _, rfl, _, _, rfl, _, _, rfl, rfl, ?_⟩
    have ok := wk.inv.sd sd hsd
    obtain ⟨bd1, bd2⟩ := wk.inv.bd sd hsd
    have hel : e ≤ l0 := by have := wk.inv.le; omega
    have b1 := Nat.le_trans bd1.ht (Nat.le_trans (hB_le hel) bn.h)
    have b2 := Nat.le_trans bd2.ht (Nat.le_trans (hB_le hel) bn.h)
    have b3 := Nat.le_trans bd1.nd (Nat.le_trans (nB_le hel) bn.nd)
    have b4 := Nat.le_trans bd2.nd (Nat.le_trans (nB_le hel) bn.nd)
    have raw := wk.raw sd hsd
    have ins1 := g1.ins wk.f.at_.ins
    refine ⟨_, rfl, _, rfl, sv, _, _, _, _, rfl, ins1, hcl, na2, rfl, _, rfl, ?_⟩
    refine ⟨sf, fkvs, σ, sd.2.1, va, rfl, g1.dK wk.f.sf_, wk.f.fil.mono g1, d2, g1.tab, by omega, raw.1.1, inv_fit bn wk.inv ok.ha, fun v1 H3 g3 at1 => ?_⟩
    have g13 := g1.trans g3
    have ins3 := g13.ins wk.f.at_.ins
    refine ⟨_, rfl, sv, _, _, _, _, rfl, ins3, hcl, na2, rfl, _, rfl, ?_⟩
    refine ⟨sf, fkvs, σ, sd.2.2, vb, rfl, g13.dK wk.f.sf_, wk.f.fil.mono g13, d3.mono g3, g13.tab, by omega, raw.2.1, inv_fit bn wk.inv ok.hb, fun v2 H4 g4 at2 => ?_⟩
    have g14 := g13.trans g4
    have at1 := at1.mono g4
    refine ⟨szl (by decide), fun pe hpe => ?_⟩
    have g15 := g14.new (o := .tup []) hpe
    have gs4 : Gr (TT K) [] H4 (upd H4 pe (.tup [])) := Gr.new0 g14.tab hpe
    have gfs : ∀ x u, HF.sg σ x = some u → gt B u := fun x u hx => by
      unfold HF.sg at hx
      cases hs : σ x with
      | none => rw [hs] at hx; cases hx
      | some y => rw [hs] at hx; rw [← Option.some.inj hx]; exact wk.gf x y.1 y.2 hs
    have w1 := gt.wg bn.ok (gt_fil gfs _ (wk.gs sd hsd).1)
    have w2 := gt.wg bn.ok (gt_fil gfs _ (wk.gs sd hsd).2)
    refine ⟨sd.1, _, _, v1, v2, pe, [], [], rfl, at1.mono gs4, at2.mono gs4, upd_same, g15.tab, w1, w2, by omega, by omega, b1, by have := bn.big; show 0 + n ≤ 1000; omega, fun p5 H5 items g5 hp5 hp5' hls => ?_⟩
    have g16 := g15.trans g5
    have eD5 := ((Gr.trans (Gr.trans (Gr.trans g3 g4) gs4) g5)).lst eD1
    have gall := g16
    refine ⟨p5, rfl, ⟨_, SqL.of hp5'⟩, ?_⟩
    refine for_list (K := K) (a := p5) (xs := items) (fun j σ' H' => j = 0 ∧ H' = H5 ∧ ∃ o8 o9, σ' = [some (.ref sv), some (.ref D), some (.int (i : Nat)), some (.ref ps), some (.int (sd.1 : Int)), some va, some vb, o8, o9]) ⟨rfl, rfl, _, _, rfl⟩ (fun j σ' H' _ ⟨_, e, _⟩ => by rw [e]; exact SqL.of hp5') ?_ ?_
    · rintro j x σ' H' hx ⟨rfl, rfl, o8, o9, rfl⟩
      obtain ⟨ℓ, eℓ, al⟩ := hls.get hx
      have hm := List.mem_of_getElem? eℓ
      obtain ⟨k, keq⟩ := HF.leaf_ok wk.inv hsd hm
      obtain ⟨pl, pp, xs, la, lb, rfl, l1, l2, l3, l4⟩ := al
      have k1 := Nat.le_trans k.ba.ht (Nat.le_trans (hB_le hel) bn.h)
      have k2 := Nat.le_trans k.bb.ht (Nat.le_trans (hB_le hel) bn.h)
      have k3 := Nat.le_trans k.ba.nd (Nat.le_trans (nB_le hel) bn.nd)
      have k4 := Nat.le_trans k.bb.nd (Nat.le_trans (nB_le hel) bn.nd)
      refine ⟨_, rfl, pl, _, 2, _, rfl, rfl, SqT.of l1, rfl, _, rfl, pl, _, 3, _, rfl, rfl, SqT.of l1, rfl, ?_⟩
      refine ⟨ℓ.a, ℓ.b, la, lb, rfl, l3, l4, g16.tab, k.sa, k.sb, by omega, by omega, k1, k2, fun H6 g6 => ?_⟩
      have g17 := g16.trans g6
      have ins6 := g17.ins wk.f.at_.ins
      have l16 := g6.tup _ _ l1
      cases hf : HF.faultOf ℓ.a ℓ.b with
      | some ff =>
        have hno := HF.clash_no wk.inv hsd hm hf
        obtain ⟨zf, ezf⟩ : ∃ zf, fV (some ff) = .str zf := by cases ff <;> exact ⟨_, rfl⟩
        rw [ezf]
        refine ⟨_, rfl, _, rfl, iteT ?_⟩
        refine ⟨_, rfl, _, rfl, _, rfl, pl, _, 0, _, rfl, rfl, SqT.of l16, rfl, _, rfl, sv, _, _, _, _, rfl, ins6, hcl, na2, rfl, szl (by show 5 ≤ 10000000; decide), fun p9 hp9 => ?_⟩
        exact qc p9 _ _ ((g17.new hp9).wide) upd_same hno
      | none =>
        refine ⟨_, rfl, _, rfl, iteF ?_⟩
        refine ⟨_, rfl, pl, _, 2, _, rfl, rfl, SqT.of l16, rfl, ℓ.a, la, rfl, l3.mono g6, g17.tab, k.sa, by omega, k1, fun H7 g7 => ?_⟩
        refine ⟨_, rfl, iteT ?_⟩
        refine ⟨_, rfl, pl, _, 3, _, rfl, rfl, SqT.of (g7.tup _ _ l16), rfl, ℓ.b, lb, rfl, (l4.mono g6).mono g7, g7.tab, k.sb, by omega, k2, fun H8 g8 => ?_⟩
        refine ⟨_, rfl, iteT ?_⟩
        have g18 := (g17.trans g7).trans g8
        have l18 := g8.tup _ _ (g7.tup _ _ l16)
        have ins8 := g18.ins wk.f.at_.ins
        have hL : ∀ p ∈ HF.hs ℓ.a ++ HF.hs ℓ.b, p ∈ L := fun p hp => (List.mem_append.mp hp).elim (k.ha p) (k.hb p)
        refine ⟨_, rfl, sv, _, _, rfl, ins8, rfl, _, rfl, pl, _, 1, _, rfl, rfl, SqT.of l18, rfl, _, rfl, pl, _, 2, _, rfl, rfl, SqT.of l18, rfl, _, rfl, pl, _, 3, _, rfl, rfl, SqT.of l18, rfl, ?_⟩
        have sF8 := wk.f.mono g18
        have fits : ∀ c, HF.cls (HF.goOn c ℓ.sc ℓ.a ℓ.b).2.1 (HF.goOn c ℓ.sc ℓ.a ℓ.b).2.2 ∧ ((HF.goOn c ℓ.sc ℓ.a ℓ.b).1, (HF.goOn c ℓ.sc ℓ.a ℓ.b).2.1) ∈ L ∧ HF.ht (HF.goOn c ℓ.sc ℓ.a ℓ.b).2.2 ≤ n ∧ HF.nd (HF.goOn c ℓ.sc ℓ.a ℓ.b).2.2 ≤ 4000000 := fun c => by
          obtain ⟨f1, f2, f3, f4⟩ := HF.step_fit wk.inv hsd hm hf (c := c) rfl
          have h1 := Nat.le_trans (hB_le hel) bn.h
          have h2 := Nat.le_trans (nB_le (n0 := n0) hel) bn.nd
          have h3 := bn.two
          exact ⟨f2, f1, by omega, by omega⟩
        refine ⟨sv, dx, ls, ot, ow, sf, S1, S2, made, fkvs, σ, own, ℓ.sc, ℓ.a, ℓ.b, la, lb, rfl, sF8, by have := wk.mk_; omega, wk.few, by have := wk.fk; omega, (l3.mono g6).mono (g7.trans g8), (l4.mono g6).mono (g7.trans g8), k.sa, k.sb, by omega, by omega, k1, k2, hf, fun g ns ms h1 h2 => ?_, fun k0 => ?_, fun H9 dn => ?_⟩
        · exact HF.fun_of wk.inv.lf (k.ha (g, ns.length) (by rw [h1]; exact List.mem_singleton.mpr rfl)) (k.hb (g, ms.length) (by rw [h2]; exact List.mem_singleton.mpr rfl))
        · refine ⟨fun x kk v hx => ?_⟩
          obtain ⟨i1, i2, i3, i4, i5⟩ := wk.inv.so x kk v hx
          obtain ⟨f1, f2, f3, f4⟩ := fits (nwf k0)
          refine ⟨Nat.le_trans (Nat.le_trans i5.nd (Nat.le_trans (nB_le hel) bn.nd)) (by decide), Nat.le_trans i5.ht (Nat.le_trans (hB_le hel) bn.h), fun y j hj m' t' ho => ?_⟩
          unfold oneF at ho
          by_cases hy : y = (HF.goOn (nwf k0) ℓ.sc ℓ.a ℓ.b).1
          · rw [if_pos hy] at ho
            obtain ⟨o1, o2⟩ := Prod.mk.inj (Option.some.inj ho)
            rw [← o1, ← o2]
            refine ⟨?_, f1, f4, f3⟩
            rw [hy] at hj
            exact HF.fun_of wk.inv.lf f2 (i4 _ hj)
          · rw [if_neg hy] at ho; cases ho
        · have nls : ls ≠ sv := fun z => by rw [z, wk.f.at_.ins] at els; cases els
          have gab := gt_leaf hm (gt_fil gfs _ (wk.gs sd hsd).1) (gt_fil gfs _ (wk.gs sd hsd).2)
          rcases dn with ⟨k0, sf', fk', hk1, hk2, gD, svf, hfr, hl⟩ | ⟨sf', fk', r0, hr0, gD, svf, hl⟩
          · have hfresh : nwf k0 ∉ own.map (·.1) := fun z => by
              obtain ⟨c, hc⟩ := (svf.ow_ _).mp z
              exact hfr c hc
            have mk1 := wk.mk_
            obtain ⟨L', e', iv, hU, hmu⟩ := HF.step_ok wk.inv hsd hm hf hk1 (M := 308915776) (by omega) nwf_inj hfresh rfl
            have gF := (g18.wide (X := [sv])).trans gD
            refine qn H9 sf' (k0 + 1) fk' _ L' e' gF ⟨svf, ⟨sxs, gF.lst els (by simp; exact nls), ats.mono gF⟩, iv, wk.gs, wk.raw, gt_newF wk.gf (gt_goOn (nwf_ok k0) gab.1 gab.2), wk.few, by omega, by have := wk.fk; omega⟩ hmu hU
          · have mk1 := wk.mk_
            obtain ⟨L', e', iv, hU, hmu⟩ := HF.step_elim wk.inv hsd hm hf (c := nwf 0) (c' := nwf 1) (fun z => absurd (nwf_inj 0 1 (by decide) (by decide) z) (by decide)) (r := r0) (hr0 0).symm (hr0 1).symm
            have gF := (g18.wide (X := [sv])).trans gD
            refine qn H9 sf' made fk' _ L' e' gF ⟨svf, ⟨sxs, gF.lst els (by simp; exact nls), ats.mono gF⟩, iv, wk.gs, wk.raw, gt_newF wk.gf (by rw [← hr0 0]; exact gt_goOn (nwf_ok 0) gab.1 gab.2), wk.few, by omega, by have := wk.fk; omega⟩ hmu hU
    · rintro σ' H' ⟨hj, rfl, o8, o9, rfl⟩
      refine ⟨_, _, _, _, _, _, _, rfl, gall, eD5, fun y hy => ?_⟩
      rw [take_snoc es] at hy
      rcases List.mem_append.mp hy with q1 | q1
      · exact hal y q1
      · rw [List.mem_singleton.mp q1]
        have : items = [] := List.eq_nil_of_length_eq_zero hj
        rw [this] at hls
        refine HF.leaves_nil (sc := sd.1) (pl := []) ?_
        cases hl9 : HF.leaves sd.1 [] (HF.fil (HF.sg σ) sd.2.1) (HF.fil (HF.sg σ) sd.2.2) with
        | nil => rfl
        | cons a r =>
          rw [hl9] at hls
          obtain ⟨_, _, e9, _⟩ := hls
          cases e9
  · rintro σ' H' ⟨o1, o2, o3, o4, o5, o6, o7, rfl, g, eD, hal⟩
    have hal2 : ∀ x ∈ sides, HF.fil (HF.sg σ) x.2.1 = HF.fil (HF.sg σ) x.2.2 := fun x hx => hal x (by rw [sl, List.take_length]; exact hx)
    refine ⟨_, rfl, sv, _, _, _, _, rfl, g.ins wk.f.at_.ins, hcl, na2, rfl, _, rfl, D, [], rfl, SqL.of eD, by show 0 < 64; decide, fun ns2 p2 hpm _ hp2 => ?_⟩
    have : ns2 = [] := List.Perm.eq_nil hpm
    subst this
    have g3 := g.new (o := .lst []) hp2
    refine ⟨szl (by show 3 ≤ 10000000; decide), fun p3 hp3 => ?_⟩
    refine qf p3 _ p2 ((g3.new hp3).wide) upd_same ?_ hal2
    rw [upd_ne (ne_of_none upd_same hp3)]; exact upd_same
end

end HW
end
section
set_option Elab.async false
set_option linter.all false
set_option maxRecDepth 100000
set_option maxHeartbeats 4000000
namespace HW
open PySem PySem.Spec PyProof.Rows L2 NdefX LamX
/-! ### Solver(..), solved_apart, solved -/
def sdH (x : HF.Side Str) : List (Str × Nat) := HF.hs x.2.1 ++ HF.hs x.2.2
def sdsH (l : List (HF.Side Str)) : List (Str × Nat) := l.flatMap sdH
section
variable {P : Program} {w : World} {K : PySem.W.Frag} {mg : Str → Option Value} {base : Heap}
def spInit (K : PySem.W.Frag) (T : List NTab) (n : Nat) : Sp := fun vs H Q _ => ∃ (sv dx lp ot : Addr) (sxs : List V) (sides : List (HF.Side Str)) (S2 : List (Str × Nat)) (okvs : List (Key × V)),
  vs = [.ref sv, .ref lp, .ref ot] ∧ H sv = some (.ins (He.ga K "Solver") dx []) ∧ H lp = some (.lst sxs) ∧ AtSds H sides sxs ∧ H ot = some (.dK okvs) ∧ Cnt okvs S2 ∧ TabsN T H ∧ (∀ x ∈ sides, (HF.nd x.2.1 ≤ 1900000 ∧ HF.ht x.2.1 ≤ n) ∧ HF.nd x.2.2 ≤ 1900000 ∧ HF.ht x.2.2 ≤ n) ∧ fnl (sdsH sides) ∧ (sdsH sides).length ≤ 1000 ∧ sides.length ≤ 1000 ∧
  ∀ H' ls ow sf, Gr T [sv] H H' → SvAt K H' sv dx ls ot ow sf (sdsH sides) S2 0 → H' sf = some (.dK []) → H' ls = some (.lst sxs) → Q .non H'
theorem sc_Solver_init : FnScope ["self", "pairs", "others", "scope", "one", "other"] ["self", "pairs", "others"] (defScope s_Solver_init) := ⟨rfl, rfl, rfl, by decide +kernel, rfl, by decide +kernel, by decide +kernel⟩
theorem ok_init (S : Cn K mg base) (T : List NTab) (n : Nat) (hH : Has P w K mg base "holes_of" (n + 1) ["term"] [] (spHoles T n)) : C8.Mak P w K mg base (n + 2) "Solver" (He.ga K "Solver") (spInit K T n) [] := by
  refine mak_of (d := d_Solver_init) S 20 84 53 rfl rfl rfl rfl rfl rfl sc_Solver_init (fun vs H Q E h => ?_) (fun _ _ _ _ _ _ us hl => match us, hl with | [_, _, _], _ => rfl) (fun f cdv A outer s H vs Q E hr h => ?_)
  · obtain ⟨sv, dx, lp, ot, sxs, sides, S2, okvs, rfl, _⟩ := h
    rfl
  refine ⟨_, (pss_cons (ps_fld (pv 0) (pe_callTy call_list_of (by rfl) (S.free 60) (by decide +kernel) (pa_cons (pv 1) pa_nil)) rfl) (pss_cons (ps_fld (pv 0) (pv 2) rfl) (pss_cons (ps_fld (pv 0) pe_dnewK rfl) (pss_cons (ps_for PassesOwn.never rfl (pi_list (pv 1)) (pg_tup rfl (pgs_cons (pg_name (i := 3) sc_Solver_init.nd rfl (Or.inl rfl)) (pgs_cons (pg_name (i := 4) sc_Solver_init.nd rfl (Or.inl rfl)) (pgs_cons (pg_name (i := 5) sc_Solver_init.nd rfl (Or.inl rfl)) pgs_nil)))) (pss_cons (ps_expr (pe_bm PySem.F.plainAttrs_dict PySem.F.slot_dict_update PySem.F.type_dict_update mt_update (pe_fld (pv 0) rfl) (pa_cons (pe_hs hH hr (by omega) rfl (pa_cons (pv 4) pa_nil)) pa_nil))) (pss_one (ps_expr (pe_bm PySem.F.plainAttrs_dict PySem.F.slot_dict_update PySem.F.type_dict_update mt_update (pe_fld (pv 0) rfl) (pa_cons (pe_hs hH hr (by omega) rfl (pa_cons (pv 5) pa_nil)) pa_nil)))))) (pss_cons (ps_fld (pv 0) pe_int rfl) (pss_one (ps_fld (pv 0) pe_dnewK rfl))))))), ?_⟩
  obtain ⟨sv, dx, lp, ot, sxs, sides, S2, okvs, rfl, ins, elp, ats, eot, cot, hT, hb, hf, hl1, hl2, q⟩ := h
  have hcl := S.cls 83
  have n1 := S.noat 85
  have n2 := S.noat 86
  have n3 := S.noat 87
  have n4 := S.noat 88
  have n5 := S.noat 89
  have nlp : lp ≠ sv := fun z => by rw [z, ins] at elp; cases elp
  have not' : ot ≠ sv := fun z => by rw [z, ins] at eot; cases eot
  have sl := ats.len
  refine ⟨_, rfl, lp, sxs, rfl, .inl (SqL.of elp), fun l hl => ?_⟩
  have nl : l ≠ sv := fun z => by rw [z, ins] at hl; cases hl
  have g1 := (Gr.new0 (X := [sv]) (o := .lst sxs) hT hl)
  have i1 : (upd H l (.lst sxs)) sv = some (.ins (He.ga K "Solver") dx []) := by rw [upd_ne nl.symm]; exact ins
  refine ⟨_, rfl, sv, _, _, _, rfl, i1, hcl, n1, by decide, ?_⟩
  have g2 := g1.mutI (o := .ins (He.ga K "Solver") dx (putF "sides" (.ref l) [])) (.inr (by simp)) i1
  refine ⟨_, rfl, _, rfl, sv, _, _, _, rfl, upd_same, hcl, n2, (by show 1 < 1000; decide), ?_⟩
  have g3 := g2.mutI (o := .ins (He.ga K "Solver") dx (putF "others" (.ref ot) (putF "sides" (.ref l) []))) (.inr (by simp)) upd_same
  have e3 : (upd (upd (upd H l (.lst sxs)) sv (.ins (He.ga K "Solver") dx (putF "sides" (.ref l) []))) sv (.ins (He.ga K "Solver") dx (putF "others" (.ref ot) (putF "sides" (.ref l) [])))) l = some (.lst sxs) := by rw [upd_ne nl, upd_ne nl]; exact upd_same
  have i3 : (upd (upd (upd H l (.lst sxs)) sv (.ins (He.ga K "Solver") dx (putF "sides" (.ref l) []))) sv (.ins (He.ga K "Solver") dx (putF "others" (.ref ot) (putF "sides" (.ref l) [])))) sv = some (.ins (He.ga K "Solver") dx [("sides", .ref l), ("others", .ref ot)]) := upd_same
  generalize (upd (upd (upd H l (.lst sxs)) sv (.ins (He.ga K "Solver") dx (putF "sides" (.ref l) []))) sv (.ins (He.ga K "Solver") dx (putF "others" (.ref ot) (putF "sides" (.ref l) [])))) = H3 at g3 e3 i3 ⊢
  refine fun ow how => ?_
  have g4 := g3.new (o := .dK []) how
  have nov : ow ≠ sv := fun z => by rw [z, i3] at how; cases how
  have i4 : (upd H3 ow (.dK [])) sv = some (.ins (He.ga K "Solver") dx [("sides", .ref l), ("others", .ref ot)]) := by rw [upd_ne nov.symm]; exact i3
  refine ⟨_, rfl, sv, _, _, _, rfl, i4, hcl, n3, (by show 2 < 1000; decide), ?_⟩
  have g5 := g4.mutI (o := .ins (He.ga K "Solver") dx (putF "own" (.ref ow) [("sides", .ref l), ("others", .ref ot)])) (.inr (by simp)) i4
  have how0 : H ow = Option.none := g3.back _ how
  have now : l ≠ ow := fun z => by rw [z, how] at e3; cases e3
  refine ⟨_, rfl, lp, rfl, ⟨_, SqL.of (g5.lst elp (by simp; exact nlp))⟩, ?_⟩
  refine for_list (K := K) (a := lp) (xs := sxs) (fun i σ H' => ∃ o1 o2 o3 kvs, σ = [some (.ref sv), some (.ref lp), some (.ref ot), o1, o2, o3] ∧ Gr T [sv] H H' ∧ H' sv = some (.ins (He.ga K "Solver") dx [("sides", .ref l), ("others", .ref ot), ("own", .ref ow)]) ∧ H' l = some (.lst sxs) ∧ H' ow = some (.dK kvs) ∧ Cnt kvs (sdsH (sides.take i)))
    ⟨_, _, _, [], rfl, g5, upd_same, by rw [upd_ne nl, upd_ne now]; exact e3, by rw [upd_ne nov]; exact upd_same, Cnt.nil⟩ (fun i σ H' _ ⟨_, _, _, _, _, g, _⟩ => SqL.of (g.lst elp (by simp; exact nlp))) ?_ ?_
  · rintro i x σ H' hx ⟨o1, o2, o3, kvs, rfl, g, iv, el, eo, hc⟩
    obtain ⟨sd, es, ad⟩ := ats.get hx
    have hsd := List.mem_of_getElem? es
    obtain ⟨ps, va, vb, rfl, d1, d2, d3⟩ := ad.mono g
    have hbb := hb sd hsd
    have fsub : ∀ p ∈ sdH sd, p ∈ sdsH sides := fun p hp => List.mem_flatMap.mpr ⟨sd, hsd, hp⟩
    have ftk : ∀ p ∈ sdsH (sides.take i), p ∈ sdsH sides := fun p hp => (let ⟨y, h5, h6⟩ := List.mem_flatMap.mp hp; List.mem_flatMap.mpr ⟨y, List.mem_of_mem_take h5, h6⟩)
    have fall : fnl (sdsH (sides.take i) ++ sdH sd) := hf.mono fun p hp => (List.mem_append.mp hp).elim (ftk p) (fsub p)
    have lenall : (sdsH (sides.take (i + 1))).length ≤ 1000 := by
      refine Nat.le_trans ?_ hl1
      unfold sdsH
      conv => rhs; rw [← List.take_append_drop (i + 1) sides]
      rw [List.flatMap_append, List.length_append]
      omega
    have esn : sdsH (sides.take (i + 1)) = sdsH (sides.take i) ++ sdH sd := by rw [take_snoc es]; simp [sdsH]
    rw [esn, List.length_append] at lenall
    have lsd : (sdH sd).length = (HF.hs sd.2.1).length + (HF.hs sd.2.2).length := List.length_append
    refine ⟨ps, _, rfl, SqT.of d1, rfl, _, _, rfl, _, _, rfl, _, _, rfl, rfl, ?_⟩
    refine ⟨_, rfl, sv, _, _, _, _, rfl, iv, hcl, n3, rfl, .inr (.inr (.inl ⟨rfl, .inl ⟨_, eo⟩⟩)), ?_⟩
    refine ⟨_, rfl, sd.2.1, va, rfl, d2, g.tab, by omega, hbb.1.2, fall.mono fun p hp => List.mem_append_right _ (List.mem_append_left _ hp), fun da H4 ka ga hda eda ca => ?_⟩
    have nda : ow ≠ da := fun z => by rw [← z, eo] at hda; cases hda
    refine ⟨ow, da, kvs, ka, rfl, rfl, ga.dK eo, eda, nda, szl (by have := hc.len; have := ca.len; omega), ?_⟩
    have gb := (g.trans ga.wide).mutD (o := .dK (mergeK kvs ka)) (.inl how0) (ga.dK eo)
    have ivb : (upd H4 ow (.dK (mergeK kvs ka))) sv = some (.ins (He.ga K "Solver") dx [("sides", .ref l), ("others", .ref ot), ("own", .ref ow)]) := by rw [upd_ne nov.symm]; exact ga.ins iv
    have elb : (upd H4 ow (.dK (mergeK kvs ka))) l = some (.lst sxs) := by rw [upd_ne now]; exact ga.lst el
    have eob : (upd H4 ow (.dK (mergeK kvs ka))) ow = some (.dK (mergeK kvs ka)) := upd_same
    have hcb := hc.merge ca (fall.mono fun p hp => by
      rcases List.mem_append.mp hp with h5 | h5
      · exact List.mem_append_left _ h5
      · exact List.mem_append_right _ (List.mem_append_left _ h5))
    have gz : Gr T [ow] H' (upd H4 ow (.dK (mergeK kvs ka))) := (ga.wide).mutD (.inr (by simp)) (ga.dK eo)
    have d3b := d3.mono gz
    generalize upd H4 ow (.dK (mergeK kvs ka)) = H5 at gb ivb elb eob d3b ⊢
    refine ⟨_, rfl, sv, _, _, _, _, rfl, ivb, hcl, n3, rfl, .inr (.inr (.inl ⟨rfl, .inl ⟨_, eob⟩⟩)), ?_⟩
    refine ⟨_, rfl, sd.2.2, vb, rfl, d3b, gb.tab, by omega, hbb.2.2, fall.mono fun p hp => List.mem_append_right _ (List.mem_append_right _ hp), fun db H6 kb gc hdb edb cb => ?_⟩
    have ndb : ow ≠ db := fun z => by rw [← z, eob] at hdb; cases hdb
    refine ⟨ow, db, _, kb, rfl, rfl, gc.dK eob, edb, ndb, szl (by have := hcb.len; have := cb.len; rw [List.length_append] at *; omega), ?_⟩
    have gd := (gb.trans gc.wide).mutD (o := .dK (mergeK (mergeK kvs ka) kb)) (.inl how0) (gc.dK eob)
    refine ⟨_, _, _, _, rfl, gd, by rw [upd_ne nov.symm]; exact gc.ins ivb, by rw [upd_ne now]; exact gc.lst elb, upd_same, ?_⟩
    rw [esn]
    unfold sdH
    rw [← List.append_assoc]
    refine hcb.merge cb ?_
    rw [List.append_assoc]
    exact fall
  · rintro σ H' ⟨o1, o2, o3, kvs, rfl, g, iv, el, eo, hc⟩
    rw [sl, List.take_length] at hc
    refine ⟨_, rfl, sv, _, _, _, rfl, iv, hcl, n4, (by show 3 < 1000; decide), ?_⟩
    have g6 := g.mutI (o := .ins (He.ga K "Solver") dx (putF "made" (.int 0) [("sides", .ref l), ("others", .ref ot), ("own", .ref ow)])) (.inr (by simp)) iv
    have i6 : (upd H' sv (.ins (He.ga K "Solver") dx (putF "made" (.int 0) [("sides", .ref l), ("others", .ref ot), ("own", .ref ow)]))) sv = some (.ins (He.ga K "Solver") dx [("sides", .ref l), ("others", .ref ot), ("own", .ref ow), ("made", .int 0)]) := upd_same
    have l6 : (upd H' sv (.ins (He.ga K "Solver") dx (putF "made" (.int 0) [("sides", .ref l), ("others", .ref ot), ("own", .ref ow)]))) l = some (.lst sxs) := by rw [upd_ne nl]; exact el
    have o6 : (upd H' sv (.ins (He.ga K "Solver") dx (putF "made" (.int 0) [("sides", .ref l), ("others", .ref ot), ("own", .ref ow)]))) ow = some (.dK kvs) := by rw [upd_ne nov]; exact eo
    generalize (upd H' sv (.ins (He.ga K "Solver") dx (putF "made" (.int 0) [("sides", .ref l), ("others", .ref ot), ("own", .ref ow)]))) = H6 at g6 i6 l6 o6 ⊢
    refine fun sf hsf => ?_
    have nsf : sf ≠ sv := fun z => by rw [z, i6] at hsf; cases hsf
    have i7 : (upd H6 sf (.dK [])) sv = _ := (upd_ne nsf.symm).trans i6
    refine ⟨_, rfl, sv, _, _, _, rfl, i7, hcl, n5, (by show 4 < 1000; decide), ?_⟩
    have g7 := (g6.new (o := .dK []) hsf).mutI (o := .ins (He.ga K "Solver") dx (putF "so_far" (.ref sf) [("sides", .ref l), ("others", .ref ot), ("own", .ref ow), ("made", .int 0)])) (.inr (by simp)) i7
    refine q _ l ow sf g7 ⟨upd_same, ⟨kvs, ?_, hc⟩, ⟨okvs, g7.dK eot (by simp; exact not'), cot⟩⟩ ?_ ?_
    · rw [upd_ne nov, upd_ne (fun z => by rw [← z, o6] at hsf; cases hsf)]; exact o6
    · rw [upd_ne nsf]; exact upd_same
    · rw [upd_ne nl, upd_ne (fun z => by rw [← z, l6] at hsf; cases hsf)]; exact l6
end

end HW
end
section
set_option Elab.async false
set_option linter.all false
set_option maxRecDepth 100000
set_option maxHeartbeats 4000000
namespace HW
open PySem PySem.Spec PyProof.Rows L2 NdefX LamX
/-! ### solved_apart, solved -/
theorem Gr.drop {T : List NTab} {H H0 H1 : Hp} {z : Addr} (a : Gr T [] H H0) (h : H z = Option.none) (b : Gr T [z] H0 H1) : Gr T [] H H1 :=
  ⟨fun c o hx hc n => b.ext c o (by simp; rintro rfl; rw [h] at hc; cases hc) (a.ext c o (by simp) hc n) n, fun c xs e => b.tup c xs (a.tup c xs e), fun c e => a.back c (b.back c e), b.tab⟩
section
variable {P : Program} {w : World} {K : PySem.W.Frag} {mg : Str → Option Value} {base : Heap}
/-- pairs that the solver takes -/
structure Prs (n : Nat) (B : List Str) (h0 n0 l0 : Nat) (sides : List (HF.Side Str)) (own : List (Str × Nat)) : Prop where
  gs : ∀ x ∈ sides, gt B x.2.1 ∧ gt B x.2.2
  bd : ∀ x ∈ sides, HF.Bd h0 n0 0 x.2.1 ∧ HF.Bd h0 n0 0 x.2.2
  sd : ∀ x ∈ sides, HF.SideOk own x
  nd : (own.map (·.1)).Nodup
  mem : ∀ p, p ∈ own ↔ p ∈ sdsH sides
  le : own.length ≤ l0
  few : (sdsH sides).length ≤ 500
  num : sides.length ≤ 500
  mu : HF.mu own ≤ 1000
/-- what the pairs come to, filled -/
def Fld (n : Nat) (B : List Str) (h0 n0 l0 : Nat) (sides : List (HF.Side Str)) (own : List (Str × Nat)) (σ : HF.Fl Str) : Prop :=
  HF.Unif sides own ∧ (∀ x ∈ sides, HF.fil (HF.sg σ) x.2.1 = HF.fil (HF.sg σ) x.2.2) ∧ (∀ x k v, σ x = some (k, v) → gt B v) ∧ ∃ made L e, HF.Inv nwf own sides h0 n0 l0 σ made L e
def spApart (K : PySem.W.Frag) (T : List NTab) (n : Nat) (B : List Str) (h0 n0 l0 : Nat) : Sp := fun vs H Q _ => ∃ (lp ot : Addr) (sxs : List V) (sides : List (HF.Side Str)) (own S2 : List (Str × Nat)) (okvs : List (Key × V)),
  vs = [.ref lp, .ref ot] ∧ H lp = some (.lst sxs) ∧ AtSds H sides sxs ∧ H ot = some (.dK okvs) ∧ Cnt okvs S2 ∧ S2.length ≤ 400 ∧ TabsN T H ∧ Prs n B h0 n0 l0 sides own ∧
  (∀ p H' rest, Gr T [] H H' → H' p = some (.tup (.str "clash" :: rest)) → ¬ HF.Unif sides own → Q (.ref p) H') ∧
  (∀ p H' sf d fk σ, Gr T [] H H' → H' p = some (.tup [.str "filled", .ref sf, .ref d]) → H' d = some (.lst []) → H' sf = some (.dK fk) → AtF H' fk σ → Fld n B h0 n0 l0 sides own σ → Q (.ref p) H')
theorem sc_solved_apart : FnScope ["pairs", "others", "solver", "found"] ["pairs", "others"] (defScope s_solved_apart) := ⟨rfl, rfl, rfl, by decide +kernel, rfl, by decide +kernel, by decide +kernel⟩
theorem ok_apart (S : Cn K mg base) (n : Nat) (B : List Str) (h0 n0 l0 : Nat) (bn : Bn n B h0 n0 l0) (hI : C8.Mak P w K mg base (n + 2) "Solver" (He.ga K "Solver") (spInit K (TT K) n) []) (hT : C8.Met P w K mg base (5 + n + n + 5) (He.ga K "Solver") "turn" (spTurn K (TT K) n B h0 n0 l0) []) :
    Has P w K mg base "solved_apart" (5 + n + n + 6) ["pairs", "others"] [] (spApart K (TT K) n B h0 n0 l0) := by
  refine has_of (d := d_solved_apart) S 26 20 rfl rfl rfl rfl rfl sc_solved_apart (fun vs H Q E h => ?_) (fun _ _ _ _ _ _ us hl => match us, hl with | [_, _], _ => rfl) (fun f cdv A outer s H vs Q E hr h => ?_)
  · obtain ⟨lp, ot, sxs, sides, own, S2, okvs, rfl, _⟩ := h
    rfl
  refine ⟨_, (pss_cons (ps_set (i := 2) sc_solved_apart.nd rfl (Or.inl rfl) (C8.pe_mk hI hr (by omega) rfl (pa_cons (pv 0) (pa_cons (pv 1) pa_nil)))) (pss_cons (ps_set (i := 3) sc_solved_apart.nd rfl (Or.inl rfl) pe_non) (pss_cons (ps_while PassesOwn.never (pt_cmp (pc_isN (pv 3))) (pss_one (ps_set (i := 3) sc_solved_apart.nd rfl (Or.inl rfl) (C8.pe_mt0 hT hr (by omega) (pv 2))))) (pss_one (ps_ret (pv 3)))))), ?_⟩
  obtain ⟨lp, ot, sxs, sides, own, S2, okvs, rfl, elp, ats, eot, cot, hs2, hTb, pr, qc, qf⟩ := h
  have b0 : HF.hB h0 0 ≤ n := Nat.le_trans (hB_le (Nat.zero_le l0)) bn.h
  have b1 : HF.nB n0 0 ≤ 1900000 := Nat.le_trans (nB_le (Nat.zero_le l0)) bn.nd
  have raw : ∀ x ∈ sides, (HF.ht x.2.1 ≤ n ∧ HF.nd x.2.1 ≤ 1900000) ∧ (HF.ht x.2.2 ≤ n ∧ HF.nd x.2.2 ≤ 1900000) := fun x hx => (let ⟨p, q⟩ := pr.bd x hx; ⟨⟨Nat.le_trans p.ht b0, Nat.le_trans p.nd b1⟩, ⟨Nat.le_trans q.ht b0, Nat.le_trans q.nd b1⟩⟩)
  have hfn : fnl (sdsH sides) := fun u c d h1 h2 => HF.fun_of pr.nd ((pr.mem _).mpr h1) ((pr.mem _).mpr h2)
  refine ⟨_, rfl, _, rfl, fun sv dx hsv hdx hne => ?_⟩
  have g1 := (Gr.new0 (X := []) (o := .own sv) hTb hdx).new (o := .ins (He.ga K "Solver") dx []) (by rw [upd_ne hne.symm]; exact hsv)
  refine ⟨sv, dx, lp, ot, sxs, sides, S2, okvs, rfl, upd_same, g1.lst elp, ats.mono g1, g1.dK eot, cot, g1.tab, fun x hx => ⟨⟨(raw x hx).1.2, (raw x hx).1.1⟩, (raw x hx).2.2, (raw x hx).2.1⟩, hfn, by have := pr.few; omega, by have := pr.num; omega, fun H2 ls ow sf g2 sv2 esf els => ⟨rfl, ?_⟩⟩
  have gg := g1.drop hsv g2
  have iv0 : HF.Inv nwf own sides h0 n0 l0 (fun _ => Option.none) 0 own 0 := HF.init_inv pr.nd pr.sd pr.bd pr.le
  have wk0 : Wk K (TT K) n B h0 n0 l0 H2 sv dx ls ot ow sf (sdsH sides) S2 0 [] (fun _ => Option.none) own sides own 0 :=
    ⟨⟨sv2, g2.tab, esf, ⟨fun z hz => (by cases hz), fun u x hx => (by cases hx)⟩, by decide, fun x => ⟨fun hx => (by
      obtain ⟨p, hp, e⟩ := List.mem_map.mp hx
      exact ⟨p.2, (pr.mem _).mp (by rw [← e]; exact hp)⟩), fun ⟨c, hc⟩ => List.mem_map.mpr ⟨_, (pr.mem _).mpr hc, rfl⟩⟩, fun x k hx => (by cases hx)⟩,
      ⟨sxs, els, (ats.mono g1).mono g2⟩, iv0, pr.gs, raw, fun x k v hx => (by cases hx), by have := pr.few; omega, by have := pr.mu; omega, by have := pr.mu; show 0 + HF.mu own + 1 < 100000; omega⟩
  refine ⟨fun m σ H' => (∃ (sf : Addr) (made : Nat) (fkvs : List (Key × V)) (σs : HF.Fl Str) (L : List (Str × Nat)) (e : Nat), m = HF.mu L + 1 ∧ σ = [some (.ref lp), some (.ref ot), some (.ref sv), some .non] ∧ Gr (TT K) [] H H' ∧ Wk K (TT K) n B h0 n0 l0 H' sv dx ls ot ow sf (sdsH sides) S2 made fkvs σs own sides L e ∧ (HF.U sides (fun _ => Option.none) own → HF.U sides σs L)) ∨
      ∃ p, m = 0 ∧ σ = [some (.ref lp), some (.ref ot), some (.ref sv), some (.ref p)] ∧ Q (.ref p) H', ⟨_, .inl ⟨sf, 0, [], _, own, 0, rfl, rfl, gg, wk0, id⟩⟩, ?_⟩
  rintro m σ H1 (⟨sf, made, fkvs, σs, L, e, rfl, rfl, g, wk, hU⟩ | ⟨p, rfl, rfl, hq⟩)
  · refine ⟨_, rfl, _, rfl, iteT ⟨_, fun _ _ z => z, ?_⟩⟩
    refine ⟨_, rfl, sv, _, _, rfl, wk.f.at_.ins, rfl, ?_⟩
    refine ⟨sv, dx, ls, ot, ow, sf, sdsH sides, S2, made, fkvs, σs, own, sides, L, e, rfl, wk, fun p H3 rest g3 ep hno => ?_, fun p H3 d g3 ep ed heq => ?_, fun H3 sf' made' fk' σ' L' e' g3 wk' hmu hU' => ?_⟩
    · refine ⟨0, Nat.succ_pos _, .inr ⟨p, rfl, rfl, qc p H3 rest (g.drop hsv g3) ep fun hu => hno (hU (HF.unif_U.mp hu))⟩⟩
    · have nsf : sf ≠ sv := fun z => by have := wk.f.sf_; rw [z, wk.f.at_.ins] at this; cases this
      refine ⟨0, Nat.succ_pos _, .inr ⟨p, rfl, rfl, qf p H3 sf d fkvs σs (g.drop hsv g3) ep ed (g3.dK wk.f.sf_ (by simp; exact nsf)) (wk.f.fil.mono g3) ⟨HF.filled_unif "r" wk.inv heq, heq, wk.gf, made, L, e, wk.inv⟩⟩⟩
    · exact ⟨HF.mu L' + 1, by omega, .inl ⟨sf', made', fk', σ', L', e', rfl, rfl, g.drop hsv g3, wk', fun hu => hU' (hU hu)⟩⟩
  · exact ⟨_, rfl, _, rfl, iteF ⟨_, rfl, hq⟩⟩
def spSolved (K : PySem.W.Frag) (T : List NTab) (n : Nat) (B : List Str) (h0 n0 l0 : Nat) : Sp := fun vs H Q _ => ∃ (lp : Addr) (sxs : List V) (sides : List (HF.Side Str)) (own : List (Str × Nat)),
  vs = [.ref lp] ∧ H lp = some (.lst sxs) ∧ AtSds H sides sxs ∧ TabsN T H ∧ Prs n B h0 n0 l0 sides own ∧
  (∀ p H' rest, Gr T [] H H' → H' p = some (.tup (.str "clash" :: rest)) → ¬ HF.Unif sides own → Q (.ref p) H') ∧
  (∀ p H' sf d fk σ, Gr T [] H H' → H' p = some (.tup [.str "filled", .ref sf, .ref d]) → H' d = some (.lst []) → H' sf = some (.dK fk) → AtF H' fk σ → Fld n B h0 n0 l0 sides own σ → Q (.ref p) H')
theorem sc_solved : FnScope ["pairs"] ["pairs"] (defScope s_solved) := ⟨rfl, rfl, rfl, by decide +kernel, rfl, by decide +kernel, by decide +kernel⟩
theorem ok_solved (S : Cn K mg base) (n : Nat) (B : List Str) (h0 n0 l0 : Nat) (hA : Has P w K mg base "solved_apart" (5 + n + n + 6) ["pairs", "others"] [] (spApart K (TT K) n B h0 n0 l0)) :
    Has P w K mg base "solved" (5 + n + n + 7) ["pairs"] [] (spSolved K (TT K) n B h0 n0 l0) := by
  refine has_of (d := d_solved) S 27 21 rfl rfl rfl rfl rfl sc_solved (fun vs H Q E h => ?_) (fun _ _ _ _ _ _ us hl => match us, hl with | [_], _ => rfl) (fun f cdv A outer s H vs Q E hr h => ?_)
  · obtain ⟨lp, sxs, sides, own, rfl, _⟩ := h
    rfl
  refine ⟨_, (pss_one (ps_ret (pe_hs hA hr (by omega) rfl (pa_cons (pv 0) (pa_cons pe_dnewK pa_nil))))), ?_⟩
  obtain ⟨lp, sxs, sides, own, rfl, elp, ats, hTb, pr, qc, qf⟩ := h
  refine ⟨_, rfl, fun d hd => ?_⟩
  have g := Gr.new0 (X := []) (o := .dK []) hTb hd
  exact ⟨lp, d, sxs, sides, own, [], [], rfl, g.lst elp, ats.mono g, upd_same, Cnt.nil, by decide, g.tab, pr, fun p H' rest g2 => qc p H' rest (g.trans g2), fun p H' sf d' fk σ g2 => qf p H' sf d' fk σ (g.trans g2)⟩
end

end HW
end
section
set_option Elab.async false
set_option linter.all false
set_option maxRecDepth 100000
set_option maxHeartbeats 4000000
namespace HW
open PySem PySem.Spec PyProof.Rows L2 NdefX LamX
/-! ### boards -/
theorem AtSds.snoc {H : Hp} {q : HF.Side Str} {v : V} (hq : AtSd H q v) : ∀ {l : List (HF.Side Str)} {vs : List V}, AtSds H l vs → AtSds H (l ++ [q]) (vs ++ [v])
  | [], _, h => by rw [show _ = [] from h]; exact ⟨v, [], rfl, hq, rfl⟩
  | z :: r, _, ⟨x, vs', e, hx, h⟩ => by rw [e]; exact ⟨x, vs' ++ [v], rfl, hx, AtSds.snoc hq h⟩
/-- a board in the heap -/
structure BdAt (K : PySem.W.Frag) (H : Hp) (b dx l : Addr) (sxs : List V) (sides : List (HF.Side Str)) : Prop where
  ins : H b = some (.ins (He.ga K "Board") dx [("told_pairs", .ref l)])
  lst : H l = some (.lst sxs)
  sds : AtSds H sides sxs
theorem BdAt.mono {K : PySem.W.Frag} {T : List NTab} {H H1 : Hp} {b dx l : Addr} {sxs : List V} {sides : List (HF.Side Str)} (g : Gr T [] H H1) (h : BdAt K H b dx l sxs sides) : BdAt K H1 b dx l sxs sides := ⟨g.ins h.ins, g.lst h.lst, h.sds.mono g⟩
section
variable {P : Program} {w : World} {K : PySem.W.Frag} {mg : Str → Option Value} {base : Heap}
def spBInit (K : PySem.W.Frag) (T : List NTab) : Sp := fun vs H Q _ => ∃ (b dx : Addr), vs = [.ref b] ∧ H b = some (.ins (He.ga K "Board") dx []) ∧ TabsN T H ∧ ∀ H' l, Gr T [b] H H' → H l = Option.none → BdAt K H' b dx l [] [] → Q .non H'
theorem sc_Board_init : FnScope ["self"] ["self"] (defScope s_Board_init) := ⟨rfl, rfl, rfl, by decide +kernel, rfl, by decide +kernel, by decide +kernel⟩
theorem ok_binit (S : Cn K mg base) (T : List NTab) : C8.Mak P w K mg base 1 "Board" (He.ga K "Board") (spBInit K T) [] := by
  refine mak_of (d := d_Board_init) S 28 96 54 rfl rfl rfl rfl rfl rfl sc_Board_init (fun vs H Q E h => ?_) (fun _ _ _ _ _ _ us hl => match us, hl with | [_], _ => rfl) (fun f cdv A outer s H vs Q E hr h => ?_)
  · obtain ⟨b, dx, rfl, _⟩ := h
    rfl
  refine ⟨_, (pss_one (ps_fld (pv 0) (pe_lst pa_nil) rfl)), ?_⟩
  obtain ⟨b, dx, rfl, ins, hT, q⟩ := h
  refine ⟨szl (by decide), fun l hl => ?_⟩
  have nl : l ≠ b := fun z => by rw [z, ins] at hl; cases hl
  have g1 := Gr.new0 (X := [b]) (o := .lst []) hT hl
  have i1 : (upd H l (.lst [])) b = some (.ins (He.ga K "Board") dx []) := by rw [upd_ne nl.symm]; exact ins
  refine ⟨_, rfl, b, _, _, _, rfl, i1, S.cls 95, S.noat 97, by decide, ?_⟩
  exact q _ l (g1.mutI (.inr (by simp)) i1) hl ⟨upd_same, by rw [upd_ne nl]; exact upd_same, rfl⟩
def spBTell (K : PySem.W.Frag) (T : List NTab) : Sp := fun vs H Q _ => ∃ (b dx l : Addr) (sxs : List V) (sides : List (HF.Side Str)) (x : HF.Side Str) (va vb : V), vs = [.ref b, .int (x.1 : Int), va, vb] ∧ BdAt K H b dx l sxs sides ∧ At H x.2.1 va ∧ At H x.2.2 vb ∧ TabsN T H ∧ sxs.length ≤ 1000 ∧
  ∀ H' v, Gr T [l] H H' → BdAt K H' b dx l (sxs ++ [v]) (sides ++ [x]) → Q (.int (sxs.length : Nat)) H'
theorem sc_Board_tell : FnScope ["self", "scope", "one", "other"] ["self", "scope", "one", "other"] (defScope s_Board_tell) := ⟨rfl, rfl, rfl, by decide +kernel, rfl, by decide +kernel, by decide +kernel⟩
theorem ok_btell (S : Cn K mg base) (T : List NTab) : C8.Met P w K mg base 1 (He.ga K "Board") "tell" (spBTell K T) [] := by
  refine met_of (d := d_Board_tell) S 29 98 95 rfl rfl rfl rfl rfl rfl sc_Board_tell (fun vs H Q E h => ?_) (fun _ _ _ _ _ _ us hl => match us, hl with | [_, _, _, _], _ => rfl) (fun f cdv A outer s H vs Q E hr h => ?_)
  · obtain ⟨b, dx, l, sxs, sides, x, va, vb, rfl, _⟩ := h
    rfl
  refine ⟨_, (pss_cons (ps_expr (pe_bm PySem.F.plainAttrs_list PySem.F.slot_list_append PySem.F.type_list_append mt_append (pe_fld (pv 0) rfl) (pa_cons (pe_tup (pa_cons (pv 1) (pa_cons (pv 2) (pa_cons (pv 3) pa_nil)))) pa_nil))) (pss_one (ps_ret (pe_op op_sub (pe_callB call_len_seq (by rfl) (S.free 58) (by decide +kernel) (pa_cons (pe_fld (pv 0) rfl) pa_nil)) pe_int)))), ?_⟩
  obtain ⟨b, dx, l, sxs, sides, x, va, vb, rfl, bd, ha, hb, hT, hn, q⟩ := h
  have hcl := S.cls 95
  have na := S.noat 97
  refine ⟨_, rfl, b, _, _, _, _, rfl, bd.ins, hcl, na, rfl, .inl ⟨rfl, _, SqL.of bd.lst⟩, ?_⟩
  refine ⟨_, rfl, _, rfl, _, rfl, szl (by show 3 ≤ 10000000; decide), fun p hp => ?_⟩
  have g1 := Gr.new0 (X := [l]) (o := .tup [.int (x.1 : Int), va, vb]) hT hp
  have g0 := Gr.new0 (X := []) (o := .tup [.int (x.1 : Int), va, vb]) hT hp
  have e1 := g0.lst bd.lst
  refine ⟨l, _, _, rfl, rfl, e1, szl' (by omega), ?_⟩
  have g2 := g1.mutL (o := .lst (sxs ++ [.ref p])) (.inr (by simp)) e1
  have nbl : b ≠ l := fun z => by have := bd.lst; rw [← z, bd.ins] at this; cases this
  have i2 : (upd (upd H p (.tup [.int (x.1 : Int), va, vb])) l (.lst (sxs ++ [.ref p]))) b = _ := (upd_ne nbl).trans (g0.ins bd.ins)
  have p2 : (upd (upd H p (.tup [.int (x.1 : Int), va, vb])) l (.lst (sxs ++ [.ref p]))) p = some (.tup [.int (x.1 : Int), va, vb]) := by
    rw [upd_ne (ne_of upd_same e1 fun z => by cases z)]; exact upd_same
  have bd2 : BdAt K (upd (upd H p (.tup [.int (x.1 : Int), va, vb])) l (.lst (sxs ++ [.ref p]))) b dx l (sxs ++ [.ref p]) (sides ++ [x]) := ⟨i2, upd_same, (bd.sds.mono g2).snoc ⟨p, va, vb, rfl, p2, ha.mono g2, hb.mono g2⟩⟩
  refine ⟨_, rfl, b, _, _, _, _, rfl, i2, hcl, na, rfl, l, _, rfl, .inl (SqL.of upd_same), _, _, rfl, rfl, ?_⟩
  have := q _ (.ref p) g2 bd2
  rw [List.length_append]
  show Q (.int (((sxs.length + 1 : Nat) : Int) - 1)) _
  have e9 : (((sxs.length + 1 : Nat) : Int) - 1) = ((sxs.length : Nat) : Int) := by omega
  rw [e9]
  exact this
def spBPairs (K : PySem.W.Frag) (T : List NTab) : Sp := fun vs H Q _ => ∃ (b dx l : Addr) (sxs : List V) (sides : List (HF.Side Str)), vs = [.ref b] ∧ BdAt K H b dx l sxs sides ∧ TabsN T H ∧ ∀ H' p, Gr T [] H H' → H' p = some (.lst sxs) → Q (.ref p) H'
theorem sc_Board_pairs : FnScope ["self"] ["self"] (defScope s_Board_pairs) := ⟨rfl, rfl, rfl, by decide +kernel, rfl, by decide +kernel, by decide +kernel⟩
theorem ok_bpairs (S : Cn K mg base) (T : List NTab) : C8.Met P w K mg base 1 (He.ga K "Board") "pairs" (spBPairs K T) [] := by
  refine met_of (d := d_Board_pairs) S 31 100 95 rfl rfl rfl rfl rfl rfl sc_Board_pairs (fun vs H Q E h => ?_) (fun _ _ _ _ _ _ us hl => match us, hl with | [_], _ => rfl) (fun f cdv A outer s H vs Q E hr h => ?_)
  · obtain ⟨b, dx, l, sxs, sides, rfl, _⟩ := h
    rfl
  refine ⟨_, (pss_one (ps_ret (pe_callTy call_list_of (by rfl) (S.free 60) (by decide +kernel) (pa_cons (pe_fld (pv 0) rfl) pa_nil)))), ?_⟩
  obtain ⟨b, dx, l, sxs, sides, rfl, bd, hT, q⟩ := h
  refine ⟨_, rfl, b, _, _, _, _, rfl, bd.ins, S.cls 95, S.noat 97, rfl, l, _, rfl, .inl (SqL.of bd.lst), fun p hp => ?_⟩
  exact q _ p (Gr.new0 hT hp) upd_same
def spBOut (K : PySem.W.Frag) (T : List NTab) (n : Nat) (B : List Str) (h0 n0 l0 : Nat) : Sp := fun vs H Q _ => ∃ (b dx l : Addr) (sxs : List V) (sides : List (HF.Side Str)) (own : List (Str × Nat)), vs = [.ref b] ∧ BdAt K H b dx l sxs sides ∧ TabsN T H ∧ Prs n B h0 n0 l0 sides own ∧
  (∀ p H' rest, Gr T [] H H' → H' p = some (.tup (.str "clash" :: rest)) → ¬ HF.Unif sides own → Q (.ref p) H') ∧
  (∀ p H' sf d fk σ, Gr T [] H H' → H' p = some (.tup [.str "filled", .ref sf, .ref d]) → H' d = some (.lst []) → H' sf = some (.dK fk) → AtF H' fk σ → Fld n B h0 n0 l0 sides own σ → Q (.ref p) H')
theorem sc_Board_outcome : FnScope ["self"] ["self"] (defScope s_Board_outcome) := ⟨rfl, rfl, rfl, by decide +kernel, rfl, by decide +kernel, by decide +kernel⟩
theorem ok_bout (S : Cn K mg base) (n : Nat) (B : List Str) (h0 n0 l0 : Nat) (hS : Has P w K mg base "solved" (5 + n + n + 7) ["pairs"] [] (spSolved K (TT K) n B h0 n0 l0)) :
    C8.Met P w K mg base (5 + n + n + 8) (He.ga K "Board") "outcome" (spBOut K (TT K) n B h0 n0 l0) [] := by
  refine met_of (d := d_Board_outcome) S 32 101 95 rfl rfl rfl rfl rfl rfl sc_Board_outcome (fun vs H Q E h => ?_) (fun _ _ _ _ _ _ us hl => match us, hl with | [_], _ => rfl) (fun f cdv A outer s H vs Q E hr h => ?_)
  · obtain ⟨b, dx, l, sxs, sides, own, rfl, _⟩ := h
    rfl
  refine ⟨_, (pss_one (ps_ret (pe_hs hS hr (by omega) rfl (pa_cons (pe_fld (pv 0) rfl) pa_nil)))), ?_⟩
  obtain ⟨b, dx, l, sxs, sides, own, rfl, bd, hT, pr, qc, qf⟩ := h
  exact ⟨_, rfl, b, _, _, _, _, rfl, bd.ins, S.cls 95, S.noat 97, rfl, l, sxs, sides, own, rfl, bd.lst, bd.sds, hT, pr, qc, qf⟩
end

end HW
end
section
set_option Elab.async false
set_option linter.all false
set_option maxRecDepth 100000
set_option maxHeartbeats 4000000
namespace HW
open PySem PySem.Spec PyProof.Rows L2 NdefX LamX
/-! ### reading: words at places -/
def isIn (i j : Str) : Bool := !(Builtin.Str.occurrences j i 0 j.length 1).isEmpty
def lettered (u : Str) : Bool := (!decide (V.str u = V.str "")) && !isIn u "()[],.?"
section
variable {P : Program} {w : World} {K : PySem.W.Frag} {mg : Str → Option Value} {base : Heap}
def spWordAt : Sp := fun vs H Q _ => ∃ (l : Addr) (ws : List Str) (i : Nat), vs = [.ref l, .int (i : Int)] ∧ H l = some (.lst (ws.map V.str)) ∧ Q (.str (ws.getD i "")) H
theorem sc_word_at : FnScope ["words", "spot"] ["words", "spot"] (defScope s_word_at) := ⟨rfl, rfl, rfl, by decide +kernel, rfl, by decide +kernel, by decide +kernel⟩
theorem ok_wordAt (S : Cn K mg base) : Has P w K mg base "word_at" 1 ["words", "spot"] [] spWordAt := by
  refine has_of (d := d_word_at) S 42 28 rfl rfl rfl rfl rfl sc_word_at (fun vs H Q E h => ?_) (fun _ _ _ _ _ _ us hl => match us, hl with | [_, _], _ => rfl) (fun f cdv A outer s H vs Q E hr h => ?_)
  · obtain ⟨l, ws, i, rfl, _⟩ := h
    rfl
  refine ⟨_, (pss_cons (ps_if (pt_cmpR op_lt (pv 1) (pe_callB call_len_seq (by rfl) (S.free 58) (by decide +kernel) (pa_cons (pv 0) pa_nil)) (nomark _)) (pss_one (ps_ret (pe_ix ix_list (pv 0) (pv 1) (fun _ _ => rfl)))) pss_nil) (pss_one (ps_ret pe_str))), ?_⟩
  obtain ⟨l, ws, i, rfl, hl, q⟩ := h
  refine ⟨_, rfl, _, rfl, l, _, rfl, .inl (SqL.of hl), _, _, rfl, rfl, _, rfl, ite2 (fun hc => ?_) (fun hc => ?_)⟩
  · have hc : (i : Int) < ((ws.map V.str).length : Int) := of_decide_eq_true hc
    rw [List.length_map] at hc
    have hi : i < ws.length := by omega
    refine ⟨_, rfl, _, rfl, l, _, _, _, rfl, rfl, SqL.of hl, at_of (j := i) rfl (v := .str ws[i]) (by rw [List.getElem?_map, List.getElem?_eq_getElem hi] <;> rfl), ?_⟩
    rw [List.getD_eq_getElem?_getD, List.getElem?_eq_getElem hi] at q
    exact q
  · have hc : ¬ (i : Int) < ((ws.map V.str).length : Int) := of_decide_eq_false (Bool.eq_false_iff.mpr hc)
    rw [List.length_map] at hc
    rw [List.getD_eq_getElem?_getD, List.getElem?_eq_none_iff.mpr (by omega)] at q
    exact q
def spLettered : Sp := fun vs H Q _ => ∃ u : Str, vs = [.str u] ∧ Q (.bl (lettered u)) H
theorem sc_is_lettered : FnScope ["word"] ["word"] (defScope s_is_lettered) := ⟨rfl, rfl, rfl, by decide +kernel, rfl, by decide +kernel, by decide +kernel⟩
theorem ok_lettered (S : Cn K mg base) : Has P w K mg base "is_lettered" 1 ["word"] [] spLettered := by
  refine has_of (d := d_is_lettered) S 43 29 rfl rfl rfl rfl rfl sc_is_lettered (fun vs H Q E h => ?_) (fun _ _ _ _ _ _ us hl => match us, hl with | [_], _ => rfl) (fun f cdv A outer s H vs Q E hr h => ?_)
  · obtain ⟨u, rfl, _⟩ := h
    rfl
  refine ⟨_, (pss_one (ps_ret (pe_and (pe_cmpR op_ne (pv 0) pe_str (nomark _)) (pe_one (pe_cmpR op_notIn_str (pv 0) (C8.pe_gc (v := .str "()[],.?") rfl (S.gstr 80)) (by rfl)))))), ?_⟩
  obtain ⟨u, rfl, q⟩ := h
  unfold lettered at q
  cases hb : (!decide (V.str u = V.str "")) with
  | false =>
    rw [hb] at q
    refine ⟨_, rfl, rfl, _, rfl, ?_⟩
    rw [hb]
    exact iteF q
  | true =>
    rw [hb] at q
    refine ⟨_, rfl, rfl, _, rfl, ?_⟩
    rw [hb]
    exact iteT ⟨_, rfl, _, _, rfl, rfl, q⟩
def spLook : Sp := fun vs H Q _ => ∃ (l : Addr) (ws : List Str) (i : Nat) (u : Str), vs = [.ref l, .int (i : Int), .str u] ∧ H l = some (.lst (ws.map V.str)) ∧ ws.getD i "" = u ∧ Q (.int ((i + 1 : Nat) : Int)) H
theorem sc_look_for : FnScope ["words", "spot", "wanted"] ["words", "spot", "wanted"] (defScope s_look_for) := ⟨rfl, rfl, rfl, by decide +kernel, rfl, by decide +kernel, by decide +kernel⟩
theorem ok_look (S : Cn K mg base) (hW : Has P w K mg base "word_at" 1 ["words", "spot"] [] spWordAt) : Has P w K mg base "look_for" 2 ["words", "spot", "wanted"] [] spLook := by
  refine has_of (d := d_look_for) S 44 30 rfl rfl rfl rfl rfl sc_look_for (fun vs H Q E h => ?_) (fun _ _ _ _ _ _ us hl => match us, hl with | [_, _, _], _ => rfl) (fun f cdv A outer s H vs Q E hr h => ?_)
  · obtain ⟨l, ws, i, u, rfl, _⟩ := h
    rfl
  refine ⟨_, (pss_cons (ps_if (pt_cmpR op_ne (pe_hs hW hr (by omega) rfl (pa_cons (pv 0) (pa_cons (pv 1) pa_nil))) (pv 2) (nomark _)) (pss_one ps_never) pss_nil) (pss_one (ps_ret (pe_op op_add (pv 1) pe_int)))), ?_⟩
  obtain ⟨l, ws, i, u, rfl, hl, hu, q⟩ := h
  refine ⟨_, rfl, _, rfl, l, ws, i, rfl, hl, ?_⟩
  refine ⟨_, rfl, rfl, _, rfl, iff' ?_ ?_⟩
  · show (!decide (V.str (ws.getD i "") = V.str u)) = false
    rw [hu, decide_eq_true rfl] <;> rfl
  · refine ⟨_, rfl, _, _, rfl, rfl, ?_⟩
    exact q
end

end HW
end
section
set_option Elab.async false
set_option linter.all false
set_option maxRecDepth 100000
set_option maxHeartbeats 4000000
namespace HW
open PySem PySem.Spec PyProof.Rows L2 NdefX LamX
/-! ### showing: words for names -/
def wby (n : Nat) : Str := if n < 26 then ltr n else ltr (n / 26 - 1) ++ ltr (n % 26)
section
variable {P : Program} {w : World} {K : PySem.W.Frag} {mg : Str → Option Value} {base : Heap}
def spBy : Sp := fun vs H Q _ => ∃ n : Nat, vs = [.int (n : Int)] ∧ n < 702 ∧ Q (.str (wby n)) H
theorem sc_word_by : FnScope ["number", "word"] ["number"] (defScope s_word_by) := ⟨rfl, rfl, rfl, by decide +kernel, rfl, by decide +kernel, by decide +kernel⟩
theorem ok_by (S : Cn K mg base) : Has P w K mg base "word_by" 1 ["number"] [] spBy := by
  refine has_of (d := d_word_by) S 36 22 rfl rfl rfl rfl rfl sc_word_by (fun vs H Q E h => ?_) (fun _ _ _ _ _ _ us hl => match us, hl with | [_], _ => rfl) (fun f cdv A outer s H vs Q E hr h => ?_)
  · obtain ⟨n, rfl, _⟩ := h
    rfl
  refine ⟨_, (pss_cons (ps_set (i := 1) sc_word_by.nd rfl (Or.inl rfl) (pe_ix ix_str (C8.pe_gc (v := .str "abcdefghijklmnopqrstuvwxyz") rfl (S.gstr 78)) (pe_op op_mod (pv 0) pe_int) (fun _ _ => rfl))) (pss_cons (ps_while PassesOwn.never (pt_cmpR op_ge (pv 0) pe_int (nomark _)) (pss_cons (ps_set (i := 0) sc_word_by.nd rfl (Or.inl rfl) (pe_op op_sub (pe_op op_fdiv (pv 0) pe_int) pe_int)) (pss_one (ps_set (i := 1) sc_word_by.nd rfl (Or.inl rfl) (pe_op op_add_str (pe_ix ix_str (C8.pe_gc (v := .str "abcdefghijklmnopqrstuvwxyz") rfl (S.gstr 78)) (pe_op op_mod (pv 0) pe_int) (fun _ _ => rfl)) (pv 1)))))) (pss_one (ps_ret (pv 1))))), ?_⟩
  obtain ⟨n, rfl, hn, q⟩ := h
  have hq := ltr_at ⟨n % 26, Nat.mod_lt _ (by decide)⟩
  refine ⟨_, rfl, _, _, rfl, rfl, (by show (0 : Int) < 26; decide), _, _, _, rfl, rfl, by decide +kernel, hq, ?_⟩
  refine ⟨fun m σ H' => H' = H ∧ ∃ (k : Nat) (u : Str), σ = [some (.int (k : Int)), some (.str u)] ∧ ((m = 1 ∧ k = n ∧ u = ltr (n % 26)) ∨ (m = 0 ∧ k < 26 ∧ u = wby n)), ⟨1, rfl, n, _, rfl, .inl ⟨rfl, rfl, rfl⟩⟩, ?_⟩
  rintro m σ H' ⟨rfl, k, u, rfl, alt⟩
  refine ⟨_, rfl, _, _, rfl, rfl, _, rfl, ite2 (fun hc => ?_) (fun hc => ?_)⟩
  · have hc : (26 : Int) ≤ (k : Int) := of_decide_eq_true hc
    rcases alt with ⟨rfl, rfl, rfl⟩ | ⟨_, h2, _⟩
    · refine ⟨fun σ' H2 => ∃ m', m' < 1 ∧ H2 = H' ∧ ∃ (k2 : Nat) (u : Str), σ' = [some (.int (k2 : Int)), some (.str u)] ∧ ((m' = 1 ∧ k2 = k ∧ u = ltr (k % 26)) ∨ (m' = 0 ∧ k2 < 26 ∧ u = wby k)), fun _ _ z => z, ?_⟩
      have hq2 := ltr_at ⟨(k / 26 - 1) % 26, Nat.mod_lt _ (by decide)⟩
      refine ⟨_, rfl, _, _, rfl, rfl, ⟨by decide, by decide⟩, _, _, rfl, rfl, ?_⟩
      have e1 : (k : Int) / 26 - 1 = ((k / 26 - 1 : Nat) : Int) := by omega
      have e2 : (k / 26 - 1) % 26 = k / 26 - 1 := Nat.mod_eq_of_lt (by omega)
      have hq3 : atI ("abcdefghijklmnopqrstuvwxyz" : Str).cps.toList (((k : Int) / 26 - 1) % 26) = some (97 + (k / 26 - 1) % 26) := by
        rw [e1]
        exact hq2
      refine ⟨_, rfl, _, _, rfl, rfl, (by show (0 : Int) < 26; decide), _, _, _, rfl, rfl, by decide +kernel, hq3, _, rfl, _, _, rfl, rfl, szl (by show 1 + 1 ≤ _; decide), ?_⟩
      · refine ⟨0, Nat.zero_lt_one, rfl, k / 26 - 1, wby k, ?_, .inr ⟨rfl, by omega, rfl⟩⟩
        have h26 : ¬ k < 26 := by omega
        show [some (V.int ((k : Int) / 26 - 1)), some (V.str (⟨#[97 + (k / 26 - 1) % 26]⟩ ++ ltr (k % 26)))] = _
        unfold wby
        rw [if_neg h26, e1, e2] <;> rfl
    · omega
  · have hc : ¬ (26 : Int) ≤ (k : Int) := of_decide_eq_false (Bool.eq_false_iff.mpr hc)
    refine ⟨_, rfl, ?_⟩
    rcases alt with ⟨_, rfl, rfl⟩ | ⟨_, _, rfl⟩
    · have : wby k = ltr (k % 26) := by unfold wby; rw [if_pos (by omega), Nat.mod_eq_of_lt (by omega)]
      rw [← this]; exact q
    · exact q
end

end HW
end
section
set_option Elab.async false
set_option linter.all false
set_option maxRecDepth 100000
set_option maxHeartbeats 4000000
namespace HW
open PySem PySem.Spec PyProof.Rows L2 NdefX LamX
theorem wby_cps (n : Nat) : (wby n).cps.toList = if n < 26 then [97 + n] else [97 + (n / 26 - 1), 97 + n % 26] := by
  unfold wby
  by_cases h : n < 26
  · rw [if_pos h, if_pos h] <;> rfl
  · rw [if_neg h, if_neg h, cps_app] <;> rfl
theorem wby_inj {i j : Nat} (e : wby i = wby j) : i = j := by
  have e1 := congrArg (fun u : Str => u.cps.toList) e
  simp only [wby_cps] at e1
  by_cases h1 : i < 26
  · by_cases h2 : j < 26
    · rw [if_pos h1, if_pos h2] at e1
      have := (List.cons.inj e1).1
      omega
    · rw [if_pos h1, if_neg h2] at e1
      cases (List.cons.inj e1).2
  · by_cases h2 : j < 26
    · rw [if_neg h1, if_pos h2] at e1
      cases (List.cons.inj e1).2
    · rw [if_neg h1, if_neg h2] at e1
      obtain ⟨a, b⟩ := List.cons.inj e1
      have := (List.cons.inj b).1
      omega
/-- the words below a number that are none of some -/
def okW (bs : List Str) (n : Nat) : List Nat := (List.range n).filter fun k => !decide (wby k ∈ bs)
def fws (bs : List Str) (many : Nat) : List Str := ((okW bs (many + bs.length)).take many).map wby
theorem okW_succ (bs : List Str) (n : Nat) : okW bs (n + 1) = okW bs n ++ (if wby n ∈ bs then [] else [n]) := by
  unfold okW
  rw [List.range_succ, List.filter_append]
  congr 1
  by_cases h : wby n ∈ bs
  · rw [if_pos h]; exact List.filter_cons_of_neg (by simp [h])
  · rw [if_neg h]; exact List.filter_cons_of_pos (by simp [h])
theorem okW_len (bs : List Str) (n : Nat) : n ≤ (okW bs n).length + bs.length := by
  have h1 : ((List.range n).filter fun k => decide (wby k ∈ bs)).length ≤ bs.length := by
    have := nodup_len (((List.range n).filter fun k => decide (wby k ∈ bs)).map wby) bs (List.pairwise_map.mpr (List.Pairwise.imp (fun ne e => ne (wby_inj e)) (List.Nodup.sublist List.filter_sublist List.nodup_range))) fun x hx => (by
      obtain ⟨k, hk, rfl⟩ := List.mem_map.mp hx
      exact of_decide_eq_true (List.mem_filter.mp hk).2)
    rw [List.length_map] at this
    exact this
  have h2 : n = ((List.range n).filter fun k => decide (wby k ∈ bs)).length + (okW bs n).length := by
    have := List.length_eq_countP_add_countP (fun k => decide (wby k ∈ bs)) (l := List.range n)
    rw [List.length_range, List.countP_eq_length_filter, List.countP_eq_length_filter] at this
    have e : (fun a => decide ¬decide (wby a ∈ bs) = true) = fun k => !decide (wby k ∈ bs) := funext fun a => by by_cases h : wby a ∈ bs <;> simp [h]
    rw [e] at this
    exact this
  omega
theorem okW_pre (bs : List Str) {n m : Nat} (h : n ≤ m) : ∃ r, okW bs m = okW bs n ++ r := by
  induction h with
  | refl => exact ⟨[], (List.append_nil _).symm⟩
  | step _ ih =>
    obtain ⟨r, e⟩ := ih
    exact ⟨_, by rw [okW_succ, e, List.append_assoc]⟩
theorem fws_of {bs : List Str} {n many : Nat} (hl : (okW bs n).length = many) : (okW bs n).map wby = fws bs many := by
  unfold fws
  have h1 := okW_len bs n
  obtain ⟨r, e⟩ := okW_pre bs (n := n) (m := many + bs.length) (by omega)
  rw [e, ← hl, List.take_left]
section
variable {P : Program} {w : World} {K : PySem.W.Frag} {mg : Str → Option Value} {base : Heap}
theorem inV_str {u : Str} : ∀ {bs : List Str}, inV (.str u) (bs.map V.str) = decide (u ∈ bs)
  | [] => rfl
  | a :: r => by
    have ih := inV_str (u := u) (bs := r)
    unfold inV at *
    rw [List.map_cons, List.any_cons, ih]
    show ((a == u) || decide (u ∈ r)) = decide (u ∈ a :: r)
    by_cases h : a = u
    · subst h; simp
    · have h1 : ¬ u = a := fun z => h z.symm
      simp [h, h1]
def spFirst (T : List NTab) : Sp := fun vs H Q _ => ∃ (many : Nat) (lb : Addr) (bs : List Str), vs = [.int (many : Int), .ref lb] ∧ H lb = some (.lst (bs.map V.str)) ∧ TabsN T H ∧ many + bs.length ≤ 700 ∧
  ∀ H' p, Gr T [] H H' → H p = Option.none → H' p = some (.lst ((fws bs many).map V.str)) → Q (.ref p) H'
theorem sc_first_words : FnScope ["many", "barred", "found", "number", "word"] ["many", "barred"] (defScope s_first_words) := ⟨rfl, rfl, rfl, by decide +kernel, rfl, by decide +kernel, by decide +kernel⟩
theorem ok_first (S : Cn K mg base) (T : List NTab) (hB : Has P w K mg base "word_by" 1 ["number"] [] spBy) : Has P w K mg base "first_words" 2 ["many", "barred"] [] (spFirst T) := by
  refine has_of (d := d_first_words) S 37 23 rfl rfl rfl rfl rfl sc_first_words (fun vs H Q E h => ?_) (fun _ _ _ _ _ _ us hl => match us, hl with | [_, _], _ => rfl) (fun f cdv A outer s H vs Q E hr h => ?_)
  · obtain ⟨many, lb, bs, rfl, _⟩ := h
    rfl
  refine ⟨_, (pss_cons (ps_set (i := 2) sc_first_words.nd rfl (Or.inl rfl) (pe_lst pa_nil)) (pss_cons (ps_set (i := 3) sc_first_words.nd rfl (Or.inl rfl) pe_int) (pss_cons (ps_while PassesOwn.never (pt_cmpR op_lt (pe_callB call_len_seq (by rfl) (S.free 58) (by decide +kernel) (pa_cons (pv 2) pa_nil)) (pv 0) (nomark _)) (pss_cons (ps_set (i := 4) sc_first_words.nd rfl (Or.inl rfl) (pe_hs hB hr (by omega) rfl (pa_cons (pv 3) pa_nil))) (pss_cons (ps_aug (i := 3) sc_first_words.nd rfl (Or.inl rfl) pe_int ip_add) (pss_one (ps_if (pt_cmpR op_notIn_seq (pv 4) (pv 1) (by rfl)) (pss_one (ps_expr (pe_bm PySem.F.plainAttrs_list PySem.F.slot_list_append PySem.F.type_list_append mt_append (pv 2) (pa_cons (pv 4) pa_nil)))) pss_nil))))) (pss_one (ps_ret (pv 2)))))), ?_⟩
  obtain ⟨many, lb, bs, rfl, hl, hT, hm, q⟩ := h
  refine ⟨szl (by decide), fun p hp => ?_⟩
  have g0 := Gr.new0 (X := []) (o := .lst []) hT hp
  refine ⟨fun m σ H' => ∃ (n : Nat) (o : Option V), m = many + bs.length - n ∧ (okW bs n).length ≤ many ∧ σ = [some (.int (many : Int)), some (.ref lb), some (.ref p), some (.int (n : Int)), o] ∧ Gr T [] H H' ∧ H' p = some (.lst (((okW bs n).map wby).map V.str)), ⟨_, 0, _, rfl, Nat.zero_le _, rfl, g0, upd_same⟩, ?_⟩
  rintro m σ H1 ⟨n, o, rfl, hle, rfl, g, ep⟩
  refine ⟨_, rfl, p, _, rfl, .inl (SqL.of ep), _, rfl, _, _, rfl, rfl, _, rfl, ite2 (fun hc => ?_) (fun hc => ?_)⟩
  · have hc := of_decide_eq_true hc
    rw [List.length_map, List.length_map] at hc
    have hc : (okW bs n).length < many := by omega
    have hn := okW_len bs n
    refine ⟨fun σ' H2 => ∃ m', m' < many + bs.length - n ∧ ∃ (n : Nat) (o : Option V), m' = many + bs.length - n ∧ (okW bs n).length ≤ many ∧ σ' = [some (.int (many : Int)), some (.ref lb), some (.ref p), some (.int (n : Int)), o] ∧ Gr T [] H H2 ∧ H2 p = some (.lst (((okW bs n).map wby).map V.str)), fun _ _ z => z, ?_⟩
    refine ⟨_, rfl, n, rfl, by omega, ?_⟩
    refine ⟨_, rfl, _, _, rfl, rfl, ?_⟩
    refine ⟨_, rfl, _, rfl, lb, _, rfl, .inl (SqL.of (g.lst hl)), rfl, flat_strs bs, _, rfl, ite2 (fun hw => ?_) (fun hw => ?_)⟩
    · have hw : (!inV (.str (wby n)) (bs.map V.str)) = true := hw
      rw [inV_str] at hw
      have hw : ¬ wby n ∈ bs := by simpa using hw
      have e := okW_succ bs n
      rw [if_neg hw] at e
      refine ⟨_, rfl, .inl ⟨rfl, _, SqL.of ep⟩, _, rfl, p, _, _, rfl, rfl, ep, szl' (by rw [List.length_map, List.length_map]; omega), ?_⟩
      refine ⟨many + bs.length - (n + 1), by omega, n + 1, _, rfl, by rw [e, List.length_append]; exact hc, rfl, g.mutL (.inl hp) ep, ?_⟩
      rw [upd_same, e, List.map_append, List.map_append] <;> rfl
    · have hw : ¬ (!inV (.str (wby n)) (bs.map V.str)) = true := hw
      rw [inV_str] at hw
      have hw : wby n ∈ bs := by simpa using hw
      have e := okW_succ bs n
      rw [if_pos hw, List.append_nil] at e
      exact ⟨many + bs.length - (n + 1), by omega, n + 1, _, rfl, by rw [e]; exact hle, rfl, g, by rw [e]; exact ep⟩
  · have hc := of_decide_eq_false (Bool.eq_false_iff.mpr hc)
    rw [List.length_map, List.length_map] at hc
    have he : (okW bs n).length = many := by omega
    refine ⟨_, rfl, q _ p g hp ?_⟩
    rw [← fws_of he]
    exact ep
end

end HW
end
section
set_option Elab.async false
set_option linter.all false
set_option maxRecDepth 100000
set_option maxHeartbeats 4000000
namespace HW
open PySem PySem.Spec PyProof.Rows L2 NdefX LamX
/-! ### Board.back -/
def sdD (x : HF.Side Str) : PyData := .tuple [.int (x.1 : Int), toD x.2.1, toD x.2.2]
theorem dp_sds {K : PySem.W.Frag} {H : Hp} : ∀ {l : List (HF.Side Str)} {vs : List V}, AtSds H l vs → DpAll K H vs (l.map sdD)
  | [], _, h => by rw [show _ = [] from h]; exact .nil
  | x :: r, _, ⟨v, vs', e, ⟨p, va, vb, e2, h1, h2, h3⟩, h⟩ => by
    rw [e, e2]
    exact .cons (.tup (SqT.of h1) (.cons (.int _) (.cons (dp_of h2) (.cons (dp_of h3) .nil)))) (dp_sds h)
theorem sds_ok {l : List (HF.Side Str)} (h : ∀ x ∈ l, wg wOk x.2.1 ∧ wg wOk x.2.2) : PyData.canLayAll0 (l.map sdD) = true := by
  induction l with
  | nil => rfl
  | cons x r ih =>
    obtain ⟨a, b⟩ := h x List.mem_cons_self
    have ih := ih fun y hy => h y (List.mem_cons_of_mem _ hy)
    simp only [List.map_cons, PyData.canLayAll0, sdD, PyData.canLay0, toD_ok a, toD_ok b, ih]
    rfl
theorem sds_depth {n : Nat} {l : List (HF.Side Str)} (h : ∀ x ∈ l, HF.ht x.2.1 ≤ n ∧ HF.ht x.2.2 ≤ n) : PyData.depthAll (l.map sdD) ≤ 3 * n + 4 := by
  induction l with
  | nil => simp [PyData.depthAll]
  | cons x r ih =>
    obtain ⟨a, b⟩ := h x List.mem_cons_self
    have ih := ih fun y hy => h y (List.mem_cons_of_mem _ hy)
    have d1 := toD_depth x.2.1
    have d2 := toD_depth x.2.2
    simp only [List.map_cons, PyData.depthAll, sdD, PyData.depth]
    omega
section
variable {P : Program} {w : World} {K : PySem.W.Frag} {mg : Str → Option Value} {base : Heap}
def spBBack (K : PySem.W.Frag) (T : List NTab) (n : Nat) : Sp := fun vs H Q _ => ∃ (b dx l : Addr) (sxs : List V) (v : V) (sides : List (HF.Side Str)) (x : HF.Side Str), vs = [.ref b] ∧ BdAt K H b dx l (sxs ++ [v]) (sides ++ [x]) ∧ AtSds H sides sxs ∧ TabsN T H ∧ (∀ y ∈ sides ++ [x], wg wOk y.2.1 ∧ wg wOk y.2.2) ∧ (∀ y ∈ sides ++ [x], HF.ht y.2.1 ≤ n ∧ HF.ht y.2.2 ≤ n) ∧
  ∀ H', Gr T [l] H H' → BdAt K H' b dx l sxs sides → Q .non H'
theorem sc_Board_back : FnScope ["self"] ["self"] (defScope s_Board_back) := ⟨rfl, rfl, rfl, by decide +kernel, rfl, by decide +kernel, by decide +kernel⟩
theorem ok_bback (S : Cn K mg base) (T : List NTab) (n : Nat) : C8.Met P w K mg base (n + 1) (He.ga K "Board") "back" (spBBack K T n) [] := by
  refine met_of (d := d_Board_back) S 30 99 95 rfl rfl rfl rfl rfl rfl sc_Board_back (fun vs H Q E h => ?_) (fun _ _ _ _ _ _ us hl => match us, hl with | [_], _ => rfl) (fun f cdv A outer s H vs Q E hr h => ?_)
  · obtain ⟨b, dx, l, sxs, v, sides, x, rfl, _⟩ := h
    rfl
  refine ⟨_, (pss_cons (ps_if (pt_cmpR (op_eqB (D := 3 * n + 8) (Room.un hr (by omega))) (pe_fld (pv 0) rfl) (pe_lst pa_nil) (nomark _)) (pss_one ps_never) pss_nil) (pss_one (ps_expr (pe_bm0 PySem.F.plainAttrs_list PySem.F.slot_list_pop PySem.F.type_list_pop mt_pop (pe_fld (pv 0) rfl))))), ?_⟩
  obtain ⟨b, dx, l, sxs, v, sides, x, rfl, bd, as, hT, hw, hh, q⟩ := h
  have hcl := S.cls 95
  have na := S.noat 97
  refine ⟨_, rfl, b, _, _, _, _, rfl, bd.ins, hcl, na, rfl, szl (by decide), fun e he => ?_⟩
  have g0 := Gr.new0 (X := []) (o := .lst []) hT he
  have bd1 := bd.mono g0
  have d1 := sds_depth hh
  refine ⟨.list ((sides ++ [x]).map sdD), .list [], .lst (SqL.of bd1.lst) (dp_sds bd1.sds), .lst (SqL.of upd_same) .nil, sds_ok hw, rfl, by simp only [PyData.depth]; omega, _, rfl, iff' ?_ ?_⟩
  · cases sides <;> rfl
  refine ⟨_, rfl, b, _, _, _, _, rfl, bd1.ins, hcl, na, rfl, .inl ⟨rfl, _, SqL.of bd1.lst⟩, ?_⟩
  have g1 := (g0.wide (X := [l])).mutL (o := .lst (sxs ++ [v]).dropLast) (.inr (by simp)) bd1.lst
  have nbl : b ≠ l := fun z => by have := bd.lst; rw [← z, bd.ins] at this; cases this
  refine ⟨l, _, v, rfl, rfl, bd1.lst, by simp, q _ g1 ⟨(upd_ne nbl).trans bd1.ins, by rw [upd_same, List.dropLast_concat], as.mono g1⟩⟩
end

end HW
end
section
set_option Elab.async false
set_option linter.all false
set_option maxRecDepth 100000
set_option maxHeartbeats 4000000
namespace HW
open PySem PySem.Spec PyProof.Rows L2 NdefX LamX
/-! ### Board.filling_for, where the pairs don't clash -/
structure AtV (H : Hp) (ts : List Tm) (vs : List V) : Prop where
  len : vs.length = ts.length
  get : ∀ (i : Nat) (v : V), vs[i]? = some v → ∃ t, ts[i]? = some t ∧ At H t v
theorem AtV.mono {T : List NTab} {X : List Addr} {H H1 : Hp} (g : Gr T X H H1) {ts : List Tm} {vs : List V} (h : AtV H ts vs) : AtV H1 ts vs := ⟨h.len, fun i v e => (let ⟨t, a, b⟩ := h.get i v e; ⟨t, a, b.mono g⟩)⟩
def tsH (l : List Tm) : List (Str × Nat) := l.flatMap HF.hs
section
variable {P : Program} {w : World} {K : PySem.W.Frag} {mg : Str → Option Value} {base : Heap}
def spBFor (K : PySem.W.Frag) (T : List NTab) (n : Nat) (B : List Str) (h0 n0 l0 : Nat) : Sp := fun vs H Q _ => ∃ (b dx l lt : Addr) (sxs tv : List V) (sides : List (HF.Side Str)) (own : List (Str × Nat)) (ts : List Tm), vs = [.ref b, .ref lt] ∧ BdAt K H b dx l sxs sides ∧ H lt = some (.lst tv) ∧ AtV H ts tv ∧
  (∀ t ∈ ts, HF.nd t ≤ 1900000 ∧ HF.ht t ≤ n) ∧ fnl (tsH ts) ∧ (tsH ts).length ≤ 400 ∧ TabsN T H ∧ Prs n B h0 n0 l0 sides own ∧ HF.Unif sides own ∧
  ∀ H' sf fk σ, Gr T [] H H' → H' sf = some (.dK fk) → AtF H' fk σ → Fld n B h0 n0 l0 sides own σ → Q (.ref sf) H'
theorem sc_Board_filling_for : FnScope ["self", "terms", "words", "term", "found"] ["self", "terms"] (defScope s_Board_filling_for) := ⟨rfl, rfl, rfl, by decide +kernel, rfl, by decide +kernel, by decide +kernel⟩
theorem ok_bfor (S : Cn K mg base) (n : Nat) (B : List Str) (h0 n0 l0 : Nat) (hH : Has P w K mg base "holes_of" (n + 1) ["term"] [] (spHoles (TT K) n)) (hA : Has P w K mg base "solved_apart" (5 + n + n + 6) ["pairs", "others"] [] (spApart K (TT K) n B h0 n0 l0)) :
    C8.Met P w K mg base (5 + n + n + 7) (He.ga K "Board") "filling_for" (spBFor K (TT K) n B h0 n0 l0) [] := by
  refine met_of (d := d_Board_filling_for) S 33 102 95 rfl rfl rfl rfl rfl rfl sc_Board_filling_for (fun vs H Q E h => ?_) (fun _ _ _ _ _ _ us hl => match us, hl with | [_, _], _ => rfl) (fun f cdv A outer s H vs Q E hr h => ?_)
  · obtain ⟨b, dx, l, lt, sxs, tv, sides, own, ts, rfl, _⟩ := h
    rfl
  refine ⟨_, (pss_cons (ps_set (i := 2) sc_Board_filling_for.nd rfl (Or.inl rfl) pe_dnewK) (pss_cons (ps_for PassesOwn.never rfl (pi_list (pv 1)) (pg_name (i := 3) sc_Board_filling_for.nd rfl (Or.inl rfl)) (pss_one (ps_expr (pe_bm PySem.F.plainAttrs_dict PySem.F.slot_dict_update PySem.F.type_dict_update mt_update (pv 2) (pa_cons (pe_hs hH hr (by omega) rfl (pa_cons (pv 3) pa_nil)) pa_nil))))) (pss_cons (ps_set (i := 4) sc_Board_filling_for.nd rfl (Or.inl rfl) (pe_hs hA hr (by omega) rfl (pa_cons (pe_fld (pv 0) rfl) (pa_cons (pv 2) pa_nil)))) (pss_cons (ps_if (ptEq (ixT (pv 4))) (pss_one ps_never) pss_nil) (pss_one (ps_ret (ixT (pv 4)))))))), ?_⟩
  obtain ⟨b, dx, l, lt, sxs, tv, sides, own, ts, rfl, bd, elt, atv, hts, hf, hl, hT, pr, hu, q⟩ := h
  have hcl := S.cls 95
  have na := S.noat 97
  refine fun d hd => ?_
  have g0 := Gr.new0 (X := []) (o := .dK []) hT hd
  refine ⟨_, rfl, lt, rfl, ⟨_, SqL.of (g0.lst elt)⟩, ?_⟩
  refine for_list (K := K) (a := lt) (xs := tv) (fun i σ H' => ∃ o1 o2 kvs, σ = [some (.ref b), some (.ref lt), some (.ref d), o1, o2] ∧ Gr (TT K) [] H H' ∧ H' d = some (.dK kvs) ∧ Cnt kvs (tsH (ts.take i))) ⟨_, _, [], rfl, g0, upd_same, Cnt.nil⟩ (fun i σ H' _ ⟨_, _, _, _, g, _⟩ => SqL.of (g.lst elt)) ?_ ?_
  · rintro i x σ H' hx ⟨o1, o2, kvs, rfl, g, eo, hc⟩
    obtain ⟨t, et, at1⟩ := atv.get i x hx
    have ht := List.mem_of_getElem? et
    have fall : fnl (tsH (ts.take i) ++ HF.hs t) := hf.mono fun p hp => (List.mem_append.mp hp).elim (fun h5 => (let ⟨y, h6, h7⟩ := List.mem_flatMap.mp h5; List.mem_flatMap.mpr ⟨y, List.mem_of_mem_take h6, h7⟩)) fun h5 => List.mem_flatMap.mpr ⟨t, ht, h5⟩
    have esn : tsH (ts.take (i + 1)) = tsH (ts.take i) ++ HF.hs t := by rw [take_snoc et]; simp [tsH]
    have lenall : (tsH (ts.take (i + 1))).length ≤ 400 := by
      refine Nat.le_trans ?_ hl
      unfold tsH
      conv => rhs; rw [← List.take_append_drop (i + 1) ts]
      rw [List.flatMap_append, List.length_append]
      omega
    rw [esn, List.length_append] at lenall
    refine ⟨_, rfl, .inr (.inr (.inl ⟨rfl, .inl ⟨_, eo⟩⟩)), ?_⟩
    refine ⟨_, rfl, t, x, rfl, at1.mono g, g.tab, by have := hts t ht; omega, (hts t ht).2, fall.mono fun p hp => List.mem_append_right _ hp, fun da H4 ka ga hda eda ca => ?_⟩
    have nda : d ≠ da := fun z => by rw [← z, eo] at hda; cases hda
    refine ⟨d, da, kvs, ka, rfl, rfl, ga.dK eo, eda, nda, szl (by have := hc.len; have := ca.len; omega), ?_⟩
    refine ⟨_, _, _, rfl, (g.trans ga).mutD (.inl hd) (ga.dK eo), upd_same, ?_⟩
    rw [esn]
    exact hc.merge ca fall
  · rintro σ H' ⟨o1, o2, kvs, rfl, g, eo, hc⟩
    rw [atv.len, List.take_length] at hc
    have bd1 := bd.mono g
    refine ⟨_, rfl, b, _, _, _, _, rfl, bd1.ins, hcl, na, rfl, _, rfl, ?_⟩
    refine ⟨l, d, sxs, sides, own, tsH ts, kvs, rfl, bd1.lst, bd1.sds, eo, hc, hl, g.tab, pr, fun p H2 rest g2 ep hno => absurd hu hno, fun p H2 sf dd fk σs g2 ep ed esf af fld => ?_⟩
    refine ⟨_, rfl, p, _, 0, _, rfl, rfl, SqT.of ep, rfl, rfl, _, rfl, iff' (by decide +kernel) ?_⟩
    refine ⟨_, rfl, p, _, 1, _, rfl, rfl, SqT.of ep, rfl, q H2 sf fk σs (g.trans g2) esf af fld⟩
end

end HW
end
section
set_option Elab.async false
set_option linter.all false
set_option maxRecDepth 100000
set_option maxHeartbeats 4000000
namespace HW
open PySem PySem.Spec PyProof.Rows L2 NdefX LamX
/-! ### Board.fill, where the pairs don't clash -/
theorem fld_fit {n : Nat} {B : List Str} {h0 n0 l0 : Nat} (bn : Bn n B h0 n0 l0) {sides : List (HF.Side Str)} {own : List (Str × Nat)} {σ : HF.Fl Str} (f : Fld n B h0 n0 l0 sides own σ) {l : List (Str × Nat)} (ag : ∀ p ∈ l, ∀ m, (p.1, m) ∈ own → m = p.2) : fit n σ l := fun u k hk m t hu => by
  obtain ⟨_, _, _, made, L, e, I⟩ := f
  obtain ⟨i1, i2, i3, i4, i5⟩ := I.so u m t hu
  have hel : e ≤ l0 := by have := I.le; omega
  have a1 := Nat.le_trans i5.ht (Nat.le_trans (hB_le hel) bn.h)
  have a2 := Nat.le_trans i5.nd (Nat.le_trans (nB_le hel) bn.nd)
  exact ⟨ag (u, k) hk m i1, i3, by omega, a1⟩
section
variable {P : Program} {w : World} {K : PySem.W.Frag} {mg : Str → Option Value} {base : Heap}
def spBFill (K : PySem.W.Frag) (T : List NTab) (n : Nat) (B : List Str) (h0 n0 l0 : Nat) : Sp := fun vs H Q _ => ∃ (b dx l : Addr) (sxs : List V) (sides : List (HF.Side Str)) (own : List (Str × Nat)) (t : Tm) (v : V), vs = [.ref b, v] ∧ BdAt K H b dx l sxs sides ∧ At H t v ∧
  HF.nd t ≤ 1900000 ∧ HF.ht t ≤ n ∧ fnl (HF.hs t) ∧ (HF.hs t).length ≤ 400 ∧ (∀ p ∈ HF.hs t, ∀ m, (p.1, m) ∈ own → m = p.2) ∧ TabsN T H ∧ Prs n B h0 n0 l0 sides own ∧ HF.Unif sides own ∧
  ∀ H' v' σ, Gr T [] H H' → At H' (HF.fil (HF.sg σ) t) v' → Fld n B h0 n0 l0 sides own σ → Q v' H'
theorem sc_Board_fill : FnScope ["self", "term"] ["self", "term"] (defScope s_Board_fill) := ⟨rfl, rfl, rfl, by decide +kernel, rfl, by decide +kernel, by decide +kernel⟩
theorem ok_bfill (S : Cn K mg base) (n : Nat) (B : List Str) (h0 n0 l0 : Nat) (bn : Bn n B h0 n0 l0) (hG : C8.Met P w K mg base (5 + n + n + 7) (He.ga K "Board") "filling_for" (spBFor K (TT K) n B h0 n0 l0) []) (hF : Has P w K mg base "filled" (5 + n + n + 1) ["filling", "term"] [] (spFilled (TT K) n n)) :
    C8.Met P w K mg base (5 + n + n + 8) (He.ga K "Board") "fill" (spBFill K (TT K) n B h0 n0 l0) [] := by
  refine met_of (d := d_Board_fill) S 34 103 95 rfl rfl rfl rfl rfl rfl sc_Board_fill (fun vs H Q E h => ?_) (fun _ _ _ _ _ _ us hl => match us, hl with | [_, _], _ => rfl) (fun f cdv A outer s H vs Q E hr h => ?_)
  · obtain ⟨b, dx, l, sxs, sides, own, t, v, rfl, _⟩ := h
    rfl
  refine ⟨_, (pss_one (ps_ret (pe_hs hF hr (by omega) rfl (pa_cons (C8.pe_mt hG hr (by omega) (pv 0) (pa_cons (pe_lst (pa_cons (pv 1) pa_nil)) pa_nil)) (pa_cons (pv 1) pa_nil))))), ?_⟩
  obtain ⟨b, dx, l, sxs, sides, own, t, v, rfl, bd, at1, hn, hh, hf, hl, ag, hT, pr, hu, q⟩ := h
  refine ⟨_, rfl, b, _, _, rfl, bd.ins, rfl, _, rfl, szl (by show 1 ≤ 10000000; decide), fun lt hlt => ?_⟩
  have g0 := Gr.new0 (X := []) (o := .lst [v]) hT hlt
  have e1 : tsH [t] = HF.hs t := by simp [tsH]
  refine ⟨b, dx, l, lt, sxs, [v], sides, own, [t], rfl, bd.mono g0, upd_same, ⟨rfl, fun i x hx => ?_⟩, fun y hy => ?_, by rw [e1]; exact hf, by rw [e1]; exact hl, g0.tab, pr, hu, fun H2 sf fk σ g2 esf af fld => ?_⟩
  · cases i with
    | zero =>
      have : v = x := Option.some.inj hx
      exact ⟨t, rfl, by rw [← this]; exact at1.mono g0⟩
    | succ j => simp at hx
  · rw [List.mem_singleton.mp hy]; exact ⟨hn, hh⟩
  have g := g0.trans g2
  exact ⟨_, rfl, sf, fk, σ, t, v, rfl, esf, af, at1.mono g, g2.tab, by omega, hh, fld_fit bn fld ag, fun v' H3 g3 at3 => q H3 v' σ (g.trans g3) at3 fld⟩
end

end HW
end
section
set_option Elab.async false
set_option linter.all false
set_option maxRecDepth 100000
set_option maxHeartbeats 4000000
namespace HW
open PySem PySem.Spec PyProof.Rows L2 NdefX LamX
/-! ### Board.stands, where the pairs don't clash -/
section
variable {P : Program} {w : World} {K : PySem.W.Frag} {mg : Str → Option Value} {base : Heap}
def spStands (K : PySem.W.Frag) (T : List NTab) (n : Nat) (B : List Str) (h0 n0 l0 : Nat) : Sp := fun vs H Q _ => ∃ (b dx l : Addr) (sxs : List V) (sides : List (HF.Side Str)) (own own2 : List (Str × Nat)) (x : HF.Side Str) (va vb : V), vs = [.ref b, .int (x.1 : Int), va, vb] ∧ BdAt K H b dx l sxs sides ∧ At H x.2.1 va ∧ At H x.2.2 vb ∧
  gt B x.2.1 ∧ gt B x.2.2 ∧ ((HF.nd x.2.1 ≤ 1900000 ∧ HF.ht x.2.1 ≤ n) ∧ (HF.nd x.2.2 ≤ 1900000 ∧ HF.ht x.2.2 ≤ n)) ∧ fnl (sdH x) ∧ (sdH x).length ≤ 400 ∧ (∀ p ∈ sdH x, ∀ m, (p.1, m) ∈ own → m = p.2) ∧ TabsN T H ∧ Prs n B h0 n0 l0 sides own ∧ HF.Unif sides own ∧ Prs n B h0 n0 l0 (sides ++ [x]) own2 ∧
  (∀ σ, Fld n B h0 n0 l0 sides own σ → HF.ht (HF.fil (HF.sg σ) x.2.1) ≤ n) ∧
  (∀ H' σ, Gr T [] H H' → Fld n B h0 n0 l0 sides own σ → HF.fil (HF.sg σ) x.2.1 = HF.fil (HF.sg σ) x.2.2 → Q (.str "same") H') ∧
  (∀ H' σ, Gr T [] H H' → Fld n B h0 n0 l0 sides own σ → HF.fil (HF.sg σ) x.2.1 ≠ HF.fil (HF.sg σ) x.2.2 → ¬ HF.Unif (sides ++ [x]) own2 → Q (.str "never") H') ∧
  (∀ H' σ, Gr T [] H H' → Fld n B h0 n0 l0 sides own σ → HF.fil (HF.sg σ) x.2.1 ≠ HF.fil (HF.sg σ) x.2.2 → HF.Unif (sides ++ [x]) own2 → Q (.str "open") H')
theorem sc_Board_stands : FnScope ["self", "scope", "one", "other", "known"] ["self", "scope", "one", "other"] (defScope s_Board_stands) := ⟨rfl, rfl, rfl, by decide +kernel, rfl, by decide +kernel, by decide +kernel⟩
theorem ok_bstands (S : Cn K mg base) (n : Nat) (B : List Str) (h0 n0 l0 : Nat) (bn : Bn n B h0 n0 l0) (hG : C8.Met P w K mg base (5 + n + n + 7) (He.ga K "Board") "filling_for" (spBFor K (TT K) n B h0 n0 l0) []) (hF : Has P w K mg base "filled" (5 + n + n + 1) ["filling", "term"] [] (spFilled (TT K) n n)) (hS : Has P w K mg base "solved" (5 + n + n + 7) ["pairs"] [] (spSolved K (TT K) n B h0 n0 l0)) :
    C8.Met P w K mg base (5 + n + n + 8) (He.ga K "Board") "stands" (spStands K (TT K) n B h0 n0 l0) [] := by
  refine met_of (d := d_Board_stands) S 35 104 95 rfl rfl rfl rfl rfl rfl sc_Board_stands (fun vs H Q E h => ?_) (fun _ _ _ _ _ _ us hl => match us, hl with | [_, _, _, _], _ => rfl) (fun f cdv A outer s H vs Q E hr h => ?_)
  · obtain ⟨b, dx, l, sxs, sides, own, own2, x, va, vb, rfl, _⟩ := h
    rfl
  refine ⟨_, (pss_cons (ps_set (i := 4) sc_Board_stands.nd rfl (Or.inl rfl) (C8.pe_mt hG hr (by omega) (pv 0) (pa_cons (pe_lst (pa_cons (pv 2) (pa_cons (pv 3) pa_nil))) pa_nil))) (pss_cons (ps_if (pt_cmpR (op_eqB (D := 3 * n + 8) (Room.un hr (by omega))) (pe_hs hF hr (by omega) rfl (pa_cons (pv 4) (pa_cons (pv 2) pa_nil))) (pe_hs hF hr (by omega) rfl (pa_cons (pv 4) (pa_cons (pv 3) pa_nil))) (nomark _)) (pss_one (ps_ret pe_str)) pss_nil) (pss_cons (ps_if (ptEq (ixT (pe_hs hS hr (by omega) rfl (pa_cons (pe_op op_cat (pe_fld (pv 0) rfl) (pe_lst (pa_cons (pe_tup (pa_cons (pv 1) (pa_cons (pv 2) (pa_cons (pv 3) pa_nil)))) pa_nil))) pa_nil)))) (pss_one (ps_ret pe_str)) pss_nil) (pss_one (ps_ret pe_str))))), ?_⟩
  obtain ⟨b, dx, l, sxs, sides, own, own2, x, va, vb, rfl, bd, ha, hb, ga, gb, hbd, hf, hl, ag, hT, pr, hu, pr2, hht, q1, q2, q3⟩ := h
  have hcl := S.cls 95
  have na := S.noat 97
  refine ⟨_, rfl, b, _, _, rfl, bd.ins, rfl, _, rfl, _, rfl, szl (by show 2 ≤ 10000000; decide), fun lt hlt => ?_⟩
  have g0 := Gr.new0 (X := []) (o := .lst [va, vb]) hT hlt
  have e1 : tsH [x.2.1, x.2.2] = sdH x := by simp [tsH, sdH]
  refine ⟨b, dx, l, lt, sxs, [va, vb], sides, own, [x.2.1, x.2.2], rfl, bd.mono g0, upd_same, ⟨rfl, fun i y hy => ?_⟩, fun y hy => ?_, by rw [e1]; exact hf, by rw [e1]; exact hl, g0.tab, pr, hu, fun H2 sf fk σ g2 esf af fld => ?_⟩
  · match i, hy with
    | 0, hy => exact ⟨_, rfl, by rw [← (Option.some.inj hy : va = y)]; exact ha.mono g0⟩
    | 1, hy => exact ⟨_, rfl, by rw [← (Option.some.inj hy : vb = y)]; exact hb.mono g0⟩
  · rcases List.mem_cons.mp hy with z | z
    · rw [z]; exact hbd.1
    · rw [List.mem_singleton.mp z]; exact hbd.2
  have g := g0.trans g2
  refine ⟨_, rfl, _, rfl, sf, fk, σ, x.2.1, va, rfl, esf, af, ha.mono g, g2.tab, by omega, hbd.1.2, fld_fit bn fld fun p hp => ag p (List.mem_append_left _ hp), fun v1 H3 g3 at1 => ?_⟩
  have gg := g.trans g3
  refine ⟨_, rfl, _, rfl, sf, fk, σ, x.2.2, vb, rfl, g3.dK esf, af.mono g3, hb.mono gg, g3.tab, by omega, hbd.2.2, fld_fit bn fld fun p hp => ag p (List.mem_append_right _ hp), fun v2 H4 g4 at2 => ?_⟩
  have g5 := gg.trans g4
  have gfs : ∀ z u, HF.sg σ z = some u → gt B u := fun z u hx => by
    unfold HF.sg at hx
    cases hs : σ z with
    | none => rw [hs] at hx; cases hx
    | some y => rw [hs] at hx; rw [← Option.some.inj hx]; exact fld.2.2.1 z y.1 y.2 hs
  have w1 := gt.wg bn.ok (gt_fil gfs _ ga)
  have w2 := gt.wg bn.ok (gt_fil gfs _ gb)
  have dp := toD_depth (HF.fil (HF.sg σ) x.2.1)
  have dh := hht σ fld
  refine ⟨_, _, dp_of (at1.mono g4), dp_of at2, toD_ok w1, toD_ok w2, by omega, _, rfl, ite2 (fun hc => ?_) (fun hc => ?_)⟩
  · exact q1 H4 σ g5 fld (eqv_toD.mp hc)
  · have hne : HF.fil (HF.sg σ) x.2.1 ≠ HF.fil (HF.sg σ) x.2.2 := fun z => hc (eqv_toD.mpr z)
    have bd5 := bd.mono g5
    refine ⟨_, rfl, b, _, _, _, _, rfl, bd5.ins, hcl, na, rfl, _, rfl, _, rfl, _, rfl, szl (by show 3 ≤ 10000000; decide), fun p hp => ⟨szl (by show 1 ≤ 10000000; decide), fun l2 hl2 => ?_⟩⟩
    have g6 := (g5.new (o := .tup [.int (x.1 : Int), va, vb]) hp).new (o := .lst [.ref p]) hl2
    have bd6 := bd.mono g6
    have ep : (upd (upd H4 p (.tup [.int (x.1 : Int), va, vb])) l2 (.lst [.ref p])) p = some (.tup [.int (x.1 : Int), va, vb]) := by rw [upd_ne (ne_of_none upd_same hl2)]; exact upd_same
    have sz := bd.sds.len
    have nm := pr.num
    refine ⟨l, l2, _, _, rfl, rfl, bd6.lst, upd_same, szl (by show sxs.length + 1 ≤ _; omega), fun p3 hp3 => ?_⟩
    have g7 := g6.new (o := .lst (sxs ++ [.ref p])) hp3
    have gs := Gr.new0 (X := []) (o := .lst (sxs ++ [.ref p])) g6.tab hp3
    refine ⟨p3, _, sides ++ [x], own2, rfl, upd_same, (bd6.sds.mono gs).snoc ⟨p, va, vb, rfl, gs.tup _ _ ep, ha.mono g7, hb.mono g7⟩, g7.tab, pr2, fun p9 H9 rest g9 e9 hno => ?_, fun p9 H9 sf9 d9 fk9 σ9 g9 e9 _ _ _ fld9 => ?_⟩
    · refine ⟨p9, _, 0, _, rfl, rfl, SqT.of e9, at_of (j := 0) rfl rfl, rfl, _, rfl, ift eRf ?_⟩
      exact q2 H9 σ (g7.trans g9) fld hne hno
    · refine ⟨p9, _, 0, _, rfl, rfl, SqT.of e9, rfl, rfl, _, rfl, iff' (by decide +kernel) ?_⟩
      exact q3 H9 σ (g7.trans g9) fld hne fld9.1
end

end HW
end
section
set_option Elab.async false
set_option linter.all false
set_option maxRecDepth 100000
set_option maxHeartbeats 4000000
namespace HW
open PySem PySem.Spec PyProof.Rows L2 NdefX LamX
/-! ### is_straight, all levels -/
section
variable {P : Program} {w : World} {K : PySem.W.Frag} {mg : Str → Option Value} {base : Heap}
theorem ok_str (S : Cn K mg base) (T : List NTab) (hT : Has P w K mg base "told_names" 1 ["term"] [] (spTold T)) : ∀ n, Has P w K mg base "is_straight" (n + 1) ["term"] [] (spStr T n)
  | 0 => by
    refine Has.imp (Has.mono (has_zero (d := d_is_straight) S 10 10 (ps := ["term"]) (sp := fun _ _ _ _ => False) rfl rfl rfl rfl rfl (fun _ _ _ _ _ _ us hl => match us, hl with | [_], _ => rfl) (fun vs H Q E h => h)) (Nat.zero_le _)) fun vs H Q E h => ?_
    obtain ⟨t, v, _, _, _, _, _, hn, _⟩ := h
    have := HF.ht_pos t
    omega
  | n + 1 => ok_str1 S T n (ok_str S T hT n) hT
end

end HW
end
section
set_option Elab.async false
set_option linter.all false
set_option maxRecDepth 100000
set_option maxHeartbeats 4000000
namespace HW
open PySem PySem.Spec PyProof.Rows L2 NdefX LamX
/-! ### Desk() -/
theorem pe_mk0 {X : Cx} {k j : Nat} {C : Addr} {x : Str} {sp : Sp} {dvs : List V} {p pos : Pos} (c : C8.Mak X.prog X.w X.K X.mg X.base k x C sp dvs) (hr : Room j X.A) (hk : k + 1 ≤ j) (hg : Gl X x) (hdb : (x == ("__debug__" : Str)) = false := by decide) : PE X (.Call (.Name x p) [] [] pos) (tMake C sp dvs E0 tNil) := by
  obtain ⟨f, fd, ps, ds, M, F, hm, b, d⟩ := c.ex
  exact pe_make0 M F (hr.mono hk) hg hm b d pass0 hdb
/-- a desk in the heap -/
structure DkAt (K : PySem.W.Frag) (H : Hp) (k kdx b dx l r : Addr) (sxs : List V) (sides : List (HF.Side Str)) : Prop where
  ins : H k = some (.ins (He.ga K "Desk") kdx [("board", .ref b), ("rules", .ref r)])
  bd : BdAt K H b dx l sxs sides
section
variable {P : Program} {w : World} {K : PySem.W.Frag} {mg : Str → Option Value} {base : Heap}
def spDInit (K : PySem.W.Frag) (T : List NTab) : Sp := fun vs H Q _ => ∃ (k kdx : Addr), vs = [.ref k] ∧ H k = some (.ins (He.ga K "Desk") kdx []) ∧ TabsN T H ∧ ∀ H' b dx l r, Gr T [k] H H' → H l = Option.none → DkAt K H' k kdx b dx l r [] [] → Q .non H'
theorem sc_Desk_init : FnScope ["self"] ["self"] (defScope s_Desk_init) := ⟨rfl, rfl, rfl, by decide +kernel, rfl, by decide +kernel, by decide +kernel⟩
theorem ok_dinit (S : Cn K mg base) (T : List NTab) (hB : C8.Mak P w K mg base 1 "Board" (He.ga K "Board") (spBInit K T) []) : C8.Mak P w K mg base 3 "Desk" (He.ga K "Desk") (spDInit K T) [] := by
  refine mak_of (d := d_Desk_init) S 55 106 55 rfl rfl rfl rfl rfl rfl sc_Desk_init (fun vs H Q E h => ?_) (fun _ _ _ _ _ _ us hl => match us, hl with | [_], _ => rfl) (fun f cdv A outer s H vs Q E hr h => ?_)
  · obtain ⟨k, kdx, rfl, _⟩ := h
    rfl
  refine ⟨_, (pss_cons (ps_fld (pv 0) (pe_mk0 hB hr (by omega) rfl) rfl) (pss_one (ps_fld (pv 0) (pe_lst pa_nil) rfl))), ?_⟩
  obtain ⟨k, kdx, rfl, ins, hT, q⟩ := h
  have hcl := S.cls 105
  refine fun b dx hb hdx hne => ?_
  have g1 := (Gr.new0 (X := []) (o := .own b) hT hdx).new (o := .ins (He.ga K "Board") dx []) (by rw [upd_ne hne.symm]; exact hb)
  have nkb : k ≠ b := fun z => by rw [← z, ins] at hb; cases hb
  refine ⟨b, dx, rfl, upd_same, g1.tab, fun H2 l g2 hl bd => ⟨rfl, ?_⟩⟩
  have g3 := g1.drop hb g2
  have i3 := g3.ins ins
  refine ⟨_, rfl, k, _, _, _, rfl, i3, hcl, S.noat 107, by decide, ?_⟩
  have g4 := (g3.wide (X := [k])).mutI (o := .ins (He.ga K "Desk") kdx (putF "board" (.ref b) [])) (.inr (by simp)) i3
  have bd4 : BdAt K (upd H2 k (.ins (He.ga K "Desk") kdx (putF "board" (.ref b) []))) b dx l [] [] := ⟨(upd_ne nkb.symm).trans bd.ins, by rw [upd_ne (ne_of bd.lst i3 fun z => by cases z)]; exact bd.lst, rfl⟩
  have i4 : (upd H2 k (.ins (He.ga K "Desk") kdx (putF "board" (.ref b) []))) k = some (.ins (He.ga K "Desk") kdx [("board", .ref b)]) := upd_same
  generalize upd H2 k (.ins (He.ga K "Desk") kdx (putF "board" (.ref b) [])) = H4 at g4 bd4 i4 ⊢
  refine ⟨szl (by decide), fun r hr' => ?_⟩
  have nkr : k ≠ r := fun z => by rw [← z, i4] at hr'; cases hr'
  have i5 : (upd H4 r (.lst [])) k = some (.ins (He.ga K "Desk") kdx [("board", .ref b)]) := (upd_ne nkr).trans i4
  have gr := Gr.new0 (X := []) (o := .lst []) g4.tab hr'
  have bd5 := bd4.mono gr
  refine ⟨_, rfl, k, _, _, _, rfl, i5, hcl, S.noat 108, (by show 1 < 1000; decide), ?_⟩
  refine q _ b dx l r ((g4.new hr').mutI (.inr (by simp)) i5) (g1.back _ hl) ⟨upd_same, (upd_ne nkb.symm).trans bd5.ins, by rw [upd_ne (ne_of bd5.lst i5 fun z => by cases z)]; exact bd5.lst, rfl⟩
end

end HW
end
section
set_option Elab.async false
set_option linter.all false
set_option maxRecDepth 100000
set_option maxHeartbeats 4000000
namespace HW
open PySem PySem.Spec PyProof.Rows L2 NdefX LamX
/-! ### Desk.known -/
section
variable {P : Program} {w : World} {K : PySem.W.Frag} {mg : Str → Option Value} {base : Heap}
def spKnown (K : PySem.W.Frag) (T : List NTab) (n : Nat) : Sp := fun vs H Q _ => ∃ (k kdx b dx l r : Addr) (sxs : List V) (sides : List (HF.Side Str)), vs = [.ref k] ∧ DkAt K H k kdx b dx l r sxs sides ∧ TabsN T H ∧ (∀ x ∈ sides, (HF.nd x.2.1 ≤ 1900000 ∧ HF.ht x.2.1 ≤ n) ∧ HF.nd x.2.2 ≤ 1900000 ∧ HF.ht x.2.2 ≤ n) ∧ fnl (sdsH sides) ∧ (sdsH sides).length ≤ 1000 ∧
  ∀ H' d kvs, Gr T [] H H' → H d = Option.none → H' d = some (.dK kvs) → Cnt kvs (sdsH sides) → Q (.ref d) H'
theorem sc_Desk_known : FnScope ["self", "counts", "scope", "one", "other"] ["self"] (defScope s_Desk_known) := ⟨rfl, rfl, rfl, by decide +kernel, rfl, by decide +kernel, by decide +kernel⟩
theorem ok_known (S : Cn K mg base) (T : List NTab) (n : Nat) (hP : C8.Met P w K mg base 1 (He.ga K "Board") "pairs" (spBPairs K T) []) (hH : Has P w K mg base "holes_of" (n + 1) ["term"] [] (spHoles T n)) : C8.Met P w K mg base (n + 2) (He.ga K "Desk") "known" (spKnown K T n) [] := by
  refine met_of (d := d_Desk_known) S 58 111 105 rfl rfl rfl rfl rfl rfl sc_Desk_known (fun vs H Q E h => ?_) (fun _ _ _ _ _ _ us hl => match us, hl with | [_], _ => rfl) (fun f cdv A outer s H vs Q E hr h => ?_)
  · obtain ⟨k, kdx, b, dx, l, r, sxs, sides, rfl, _⟩ := h
    rfl
  refine ⟨_, (pss_cons (ps_set (i := 1) sc_Desk_known.nd rfl (Or.inl rfl) pe_dnewK) (pss_cons (ps_for PassesOwn.never rfl (pi_list (C8.pe_mt0 hP hr (by omega) (pe_fld (pv 0) rfl))) (pg_tup rfl (pgs_cons (pg_name (i := 2) sc_Desk_known.nd rfl (Or.inl rfl)) (pgs_cons (pg_name (i := 3) sc_Desk_known.nd rfl (Or.inl rfl)) (pgs_cons (pg_name (i := 4) sc_Desk_known.nd rfl (Or.inl rfl)) pgs_nil)))) (pss_cons (ps_expr (pe_bm PySem.F.plainAttrs_dict PySem.F.slot_dict_update PySem.F.type_dict_update mt_update (pv 1) (pa_cons (pe_hs hH hr (by omega) rfl (pa_cons (pv 3) pa_nil)) pa_nil))) (pss_one (ps_expr (pe_bm PySem.F.plainAttrs_dict PySem.F.slot_dict_update PySem.F.type_dict_update mt_update (pv 1) (pa_cons (pe_hs hH hr (by omega) rfl (pa_cons (pv 4) pa_nil)) pa_nil)))))) (pss_one (ps_ret (pv 1))))), ?_⟩
  obtain ⟨k, kdx, b, dx, l, r, sxs, sides, rfl, dk, hT, hb, hf, hl1, q⟩ := h
  have hcl := S.cls 105
  have na := S.noat 107
  refine fun d hd => ?_
  have g0 := Gr.new0 (X := []) (o := .dK []) hT hd
  have bd0 := dk.bd.mono g0
  refine ⟨_, rfl, k, _, _, _, _, rfl, g0.ins dk.ins, hcl, na, rfl, b, _, _, rfl, bd0.ins, rfl, ?_⟩
  refine ⟨b, dx, l, sxs, sides, rfl, bd0, g0.tab, fun H1 p g1 ep => ?_⟩
  have gp := g0.trans g1
  have ed0 : H1 d = some (.dK []) := g1.dK upd_same
  have npd : p ≠ d := fun z => by rw [z, ed0] at ep; cases ep
  have ats := dk.bd.sds.mono gp
  have sl := ats.len
  refine ⟨p, rfl, ⟨_, SqL.of ep⟩, ?_⟩
  refine for_list (K := K) (a := p) (xs := sxs) (fun i σ H' => ∃ o1 o2 o3 kvs, σ = [some (.ref k), some (.ref d), o1, o2, o3] ∧ Gr T [] H H' ∧ Gr T [d] H1 H' ∧ H' d = some (.dK kvs) ∧ Cnt kvs (sdsH (sides.take i)))
    ⟨_, _, _, [], rfl, gp, Gr.refl g1.tab, ed0, Cnt.nil⟩ (fun i σ H' _ ⟨_, _, _, _, _, _, g, _⟩ => SqL.of (g.lst ep (by simp; exact npd))) ?_ ?_
  · rintro i x σ H' hx ⟨o1, o2, o3, kvs, rfl, g, gq, eo, hc⟩
    obtain ⟨sd, es, ad⟩ := ats.get hx
    have hsd := List.mem_of_getElem? es
    obtain ⟨ps, va, vb, rfl, d1, d2, d3⟩ := ad.mono gq
    have hbb := hb sd hsd
    have fsub : ∀ p ∈ sdH sd, p ∈ sdsH sides := fun p hp => List.mem_flatMap.mpr ⟨sd, hsd, hp⟩
    have ftk : ∀ p ∈ sdsH (sides.take i), p ∈ sdsH sides := fun p hp => (let ⟨y, h5, h6⟩ := List.mem_flatMap.mp hp; List.mem_flatMap.mpr ⟨y, List.mem_of_mem_take h5, h6⟩)
    have fall : fnl (sdsH (sides.take i) ++ sdH sd) := hf.mono fun p hp => (List.mem_append.mp hp).elim (ftk p) (fsub p)
    have lenall : (sdsH (sides.take (i + 1))).length ≤ 1000 := by
      refine Nat.le_trans ?_ hl1
      unfold sdsH
      conv => rhs; rw [← List.take_append_drop (i + 1) sides]
      rw [List.flatMap_append, List.length_append]
      omega
    have esn : sdsH (sides.take (i + 1)) = sdsH (sides.take i) ++ sdH sd := by rw [take_snoc es]; simp [sdsH]
    rw [esn, List.length_append] at lenall
    have lsd : (sdH sd).length = (HF.hs sd.2.1).length + (HF.hs sd.2.2).length := List.length_append
    refine ⟨ps, _, rfl, SqT.of d1, rfl, _, _, rfl, _, _, rfl, _, _, rfl, rfl, ?_⟩
    refine ⟨_, rfl, .inr (.inr (.inl ⟨rfl, .inl ⟨_, eo⟩⟩)), ?_⟩
    refine ⟨_, rfl, sd.2.1, va, rfl, d2, g.tab, by omega, hbb.1.2, fall.mono fun p hp => List.mem_append_right _ (List.mem_append_left _ hp), fun da H4 ka ga hda eda ca => ?_⟩
    have nda : d ≠ da := fun z => by rw [← z, eo] at hda; cases hda
    refine ⟨d, da, kvs, ka, rfl, rfl, ga.dK eo, eda, nda, szl (by have := hc.len; have := ca.len; omega), ?_⟩
    have gb := (g.trans ga).mutD (o := .dK (mergeK kvs ka)) (.inl hd) (ga.dK eo)
    have gqb := (gq.trans ga.wide).mutD (o := .dK (mergeK kvs ka)) (.inr (by simp)) (ga.dK eo)
    have eob : (upd H4 d (.dK (mergeK kvs ka))) d = some (.dK (mergeK kvs ka)) := upd_same
    have hcb := hc.merge ca (fall.mono fun p hp => by
      rcases List.mem_append.mp hp with h5 | h5
      · exact List.mem_append_left _ h5
      · exact List.mem_append_right _ (List.mem_append_left _ h5))
    have gz : Gr T [d] H' (upd H4 d (.dK (mergeK kvs ka))) := (ga.wide).mutD (.inr (by simp)) (ga.dK eo)
    have d3b := d3.mono gz
    generalize upd H4 d (.dK (mergeK kvs ka)) = H5 at gb gqb eob d3b ⊢
    refine ⟨_, rfl, .inr (.inr (.inl ⟨rfl, .inl ⟨_, eob⟩⟩)), ?_⟩
    refine ⟨_, rfl, sd.2.2, vb, rfl, d3b, gb.tab, by omega, hbb.2.2, fall.mono fun p hp => List.mem_append_right _ (List.mem_append_right _ hp), fun db H6 kb gc hdb edb cb => ?_⟩
    have ndb : d ≠ db := fun z => by rw [← z, eob] at hdb; cases hdb
    refine ⟨d, db, _, kb, rfl, rfl, gc.dK eob, edb, ndb, szl (by have := hcb.len; have := cb.len; rw [List.length_append] at *; omega), ?_⟩
    refine ⟨_, _, _, _, rfl, (gb.trans gc).mutD (.inl hd) (gc.dK eob), (gqb.trans gc.wide).mutD (.inr (by simp)) (gc.dK eob), upd_same, ?_⟩
    rw [esn]
    unfold sdH
    rw [← List.append_assoc]
    refine hcb.merge cb ?_
    rw [List.append_assoc]
    exact fall
  · rintro σ H' ⟨o1, o2, o3, kvs, rfl, g, gq, eo, hc⟩
    rw [sl, List.take_length] at hc
    exact ⟨_, rfl, q H' d kvs g hd eo hc⟩
end

end HW
end
section
set_option Elab.async false
set_option linter.all false
set_option maxRecDepth 100000
set_option maxHeartbeats 4000000
namespace HW
open PySem PySem.Spec PyProof.Rows L2 NdefX LamX
/-! ### parted -/
section
variable {P : Program} {w : World} {K : PySem.W.Frag} {mg : Str → Option Value} {base : Heap}
def spParted (T : List NTab) : Sp := fun vs H Q _ => ∃ (z m : Str) (i : Nat), vs = [.str z, .str m] ∧ TabsN T H ∧ z.length ≤ sizeLine ∧ m.length ≤ sizeLine ∧ Txt.find z m = (i : Int) ∧
  ∀ H' p, Gr T [] H H' → H' p = some (.tup [.str (cutS z none (some (i : Int))), .str (cutS z (some ((i : Int) + (m.length : Nat))) none)]) → Q (.ref p) H'
theorem sc_parted : FnScope ["text", "mark", "spot"] ["text", "mark"] (defScope s_parted) := ⟨rfl, rfl, rfl, by decide +kernel, rfl, by decide +kernel, by decide +kernel⟩
theorem ok_parted (S : Cn K mg base) (T : List NTab) : Has P w K mg base "parted" 1 ["text", "mark"] [] (spParted T) := by
  refine has_of (d := d_parted) S 52 38 rfl rfl rfl rfl rfl sc_parted (fun vs H Q E h => ?_) (fun _ _ _ _ _ _ us hl => match us, hl with | [_, _], _ => rfl) (fun f cdv A outer s H vs Q E hr h => ?_)
  · obtain ⟨z, m, i, rfl, _⟩ := h
    rfl
  refine ⟨_, (pss_cons (ps_set (i := 2) sc_parted.nd rfl (Or.inl rfl) (pe_bm PySem.F.plainAttrs_str PySem.F.slot_str_find PySem.F.type_str_find mt_find (pv 0) (pa_cons (pv 1) pa_nil))) (pss_cons (ps_if (pt_cmpR op_lt (pv 2) pe_int (nomark _)) (pss_one ps_never) pss_nil) (pss_one (ps_ret (pe_tup (pa_cons (pe_slice sl_str (pv 0) po_none (po_some (pv 2))) (pa_cons (pe_slice sl_str (pv 0) (po_some (pe_op op_add (pv 2) (pe_callB call_len_str (by rfl) (S.free 58) (by decide +kernel) (pa_cons (pv 1) pa_nil)))) po_none) pa_nil))))))), ?_⟩
  obtain ⟨z, m, i, rfl, hT, hz, hm, hf, q⟩ := h
  refine ⟨_, rfl, rfl, _, rfl, _, _, rfl, rfl, ?_⟩
  rw [hf]
  refine ⟨_, rfl, _, _, rfl, rfl, _, rfl, iff' (decide_eq_false (by omega)) ?_⟩
  refine ⟨_, rfl, _, rfl, _, rfl, z, rfl, hz, _, rfl, ?_⟩
  refine ⟨_, rfl, _, rfl, m, rfl, hm, _, _, rfl, rfl, _, rfl, _, rfl, hz, szl (by show 2 ≤ 10000000; decide), fun p hp => ?_⟩
  exact q _ p (Gr.new0 hT hp) upd_same
end

end HW
end
section
set_option Elab.async false
set_option linter.all false
set_option maxRecDepth 100000
set_option maxHeartbeats 4000000
namespace HW
open PySem PySem.Spec PyProof.Rows L2 NdefX LamX
/-! ### texts in pieces -/
open TL
def cat : List Str → Str
  | [] => ""
  | p :: r => p ++ cat r
theorem tl_nil : tl ("" : Str) = [] := by decide +kernel
theorem app_nil (a : Str) : a ++ "" = a := ext_tl (by rw [tl_append, tl_nil, List.append_nil])
theorem nil_app (a : Str) : "" ++ a = a := ext_tl (by rw [tl_append, tl_nil, List.nil_append])
theorem app_assoc' (a b c : Str) : a ++ b ++ c = a ++ (b ++ c) := ext_tl (by simp only [tl_append, List.append_assoc])
theorem cat_app : ∀ a b : List Str, cat (a ++ b) = cat a ++ cat b
  | [], b => (nil_app _).symm
  | p :: r, b => by
    show p ++ cat (r ++ b) = p ++ cat r ++ cat b
    rw [cat_app r b, app_assoc']
theorem cat_one (a : Str) : cat [a] = a := app_nil a
def isM (c : Nat) : Bool := decide (c ∈ tl ("()[],.?" : Str))
theorem isM_iff {c : Nat} : isM c = true ↔ c = 40 ∨ c = 41 ∨ c = 91 ∨ c = 93 ∨ c = 44 ∨ c = 46 ∨ c = 63 := by
  have e : tl ("()[],.?" : Str) = [40, 41, 91, 93, 44, 46, 63] := by decide +kernel
  unfold isM
  rw [decide_eq_true_iff, e]
  simp
theorem isL_not {c : Nat} (h : isM c = true ∨ c = 32) : isL c = false := by
  cases e : isL c with
  | false => rfl
  | true =>
    have := isL_iff.mp e
    rcases h with h | h
    · have := isM_iff.mp h; omega
    · omega
/-- a sign by itself -/
def Sn (u : Str) : Prop := ∃ c, u = ⟨#[c]⟩ ∧ (isM c = true ∨ c = 32)
/-! the lexer -/
def lxs (st : List Str × Str) (c : Nat) : List Str × Str :=
  if isL c = true then (st.1, st.2 ++ ⟨#[c]⟩) else (st.1 ++ (if st.2 = "" then [] else [st.2]) ++ (if isM c = true then [⟨#[c]⟩] else []), "")
def lexs (z : Str) : List Str := ((tl z ++ [32]).foldl lxs ([], "")).1
def nb (ps : List Str) : List Str := ps.filter fun p => decide (p ≠ " ")
/-- pieces follow one another: no two words side by side -/
def Gd : Bool → List Str → Bool → Prop
  | b, [], b' => b = b'
  | b, p :: r, b' => (Wd p ∧ b = false ∧ Gd true r b') ∨ (Sn p ∧ Gd false r b')
theorem Gd.app {b b1 b2 : Bool} : ∀ {p q : List Str}, Gd b p b1 → Gd b1 q b2 → Gd b (p ++ q) b2
  | [], q, h, g => by rw [show b = b1 from h]; exact g
  | x :: r, q, h, g => by
    rcases h with ⟨h1, h2, h3⟩ | ⟨h1, h3⟩
    · exact .inl ⟨h1, h2, Gd.app h3 g⟩
    · exact .inr ⟨h1, Gd.app h3 g⟩
theorem Wd.ne {u : Str} (h : Wd u) : u ≠ "" := fun e => by have := h.one; rw [e] at this; exact absurd this (by decide +kernel)
theorem Wd.nb {u : Str} (h : Wd u) : u ≠ " " := fun e => by
  have := h.all 32 (by rw [e]; decide +kernel)
  exact absurd this (by decide +kernel)
theorem fold_word : ∀ (l : List Nat) (f : List Str) (run : Str), (∀ c ∈ l, isL c = true) → l.foldl lxs (f, run) = (f, run ++ ⟨l.toArray⟩)
  | [], f, run, _ => by
    show (f, run) = (f, run ++ "")
    rw [app_nil]
  | c :: r, f, run, h => by
    rw [List.foldl_cons]
    have e : lxs (f, run) c = (f, run ++ ⟨#[c]⟩) := by unfold lxs; rw [if_pos (h c List.mem_cons_self)]
    rw [e, fold_word r f _ fun x hx => h x (List.mem_cons_of_mem _ hx)]
    congr 1
    exact ext_tl (by simp only [tl_append, List.append_assoc]; rfl)
theorem lxs_sign {f : List Str} {run : Str} {c : Nat} (h : isM c = true ∨ c = 32) : lxs (f, run) c = (f ++ (if run = "" then [] else [run]) ++ nb [⟨#[c]⟩], ("" : Str)) := by
  have e := isL_not h
  unfold lxs
  rw [if_neg (by rw [e]; decide)]
  congr 2
  rcases h with h | h
  · have hn : (⟨#[c]⟩ : Str) ≠ " " := fun z => by
      have e2 := congrArg tl z
      have e3 : tl (" " : Str) = [32] := by decide +kernel
      rw [e3] at e2
      have : c = 32 := (List.cons.inj e2).1
      rw [this] at h
      exact absurd h (by decide +kernel)
    rw [if_pos h]
    unfold nb
    rw [List.filter_cons_of_pos (by simpa using hn)] <;> rfl
  · subst h
    rfl
theorem nb_cons_w {p : Str} {r : List Str} (h : Wd p) : nb (p :: r) = p :: nb r := by
  unfold nb
  rw [List.filter_cons_of_pos (by simpa using h.nb)]
theorem nb_app (a b : List Str) : nb (a ++ b) = nb a ++ nb b := List.filter_append ..
theorem fold_pieces : ∀ {b b' : Bool} {ps : List Str} {f : List Str} {run : Str}, Gd b ps b' → (b = false → run = "") → (tl (cat ps) ++ [32]).foldl lxs (f, run) = (f ++ (if run = "" then [] else [run]) ++ nb ps, ("" : Str))
  | b, b', [], f, run, h, hr => by
    show [32].foldl lxs (f, run) = _
    show lxs (f, run) 32 = _
    rw [lxs_sign (.inr rfl)]
    rfl
  | b, b', p :: r, f, run, h, hr => by
    show (tl (p ++ cat r) ++ [32]).foldl lxs (f, run) = _
    rw [tl_append, List.append_assoc, List.foldl_append]
    rcases h with ⟨h1, h2, h3⟩ | ⟨⟨c, e, hc⟩, h3⟩
    · rw [hr h2, fold_word _ _ _ h1.all, mk_tl, nil_app, fold_pieces h3 (fun z => by cases z), if_neg h1.ne, nb_cons_w h1]
      simp
    · subst e
      show ((tl (cat r) ++ [32])).foldl lxs (lxs (f, run) c) = _
      rw [lxs_sign hc, fold_pieces h3 fun _ => rfl, if_pos rfl, List.append_nil]
      have e9 : nb (⟨#[c]⟩ :: r) = nb [⟨#[c]⟩] ++ nb r := nb_app [⟨#[c]⟩] r
      simp only [e9, List.append_assoc]
theorem lexs_cat {ps : List Str} {b' : Bool} (h : Gd false ps b') : lexs (cat ps) = nb ps := by
  unfold lexs
  rw [fold_pieces h fun _ => rfl]
  rfl
/-- a sign that a text may have -/
def okc (c : Nat) : Prop := isL c = true ∨ isM c = true ∨ c = 32
theorem Gd.okc {b b' : Bool} : ∀ {ps : List Str}, Gd b ps b' → ∀ c ∈ tl (cat ps), okc c
  | [], _, c, hc => by rw [show cat [] = "" from rfl, tl_nil] at hc; cases hc
  | p :: r, h, c, hc => by
    rw [show cat (p :: r) = p ++ cat r from rfl, tl_append] at hc
    rcases List.mem_append.mp hc with q | q
    · rcases h with ⟨h1, _, _⟩ | ⟨⟨d, e, hd⟩, _⟩
      · exact .inl (h1.all c q)
      · subst e
        rw [List.mem_singleton.mp (show c ∈ [d] from q)]
        exact .inr hd
    · rcases h with ⟨_, _, h3⟩ | ⟨_, h3⟩
      · exact Gd.okc h3 c q
      · exact Gd.okc h3 c q
theorem Gd.len {b b' : Bool} : ∀ {ps : List Str}, Gd b ps b' → ∀ p ∈ nb ps, p.length ≤ 8
  | [], _, p, hp => by cases hp
  | x :: r, h, p, hp => by
    have sub : p ∈ x :: nb r := by
      have := (List.mem_filter.mp hp)
      rcases List.mem_cons.mp this.1 with z | z
      · rw [z]; exact List.mem_cons_self
      · exact List.mem_cons_of_mem _ (List.mem_filter.mpr ⟨z, this.2⟩)
    rcases h with ⟨h1, _, h3⟩ | ⟨⟨d, e, _⟩, h3⟩
    · rcases List.mem_cons.mp sub with z | z
      · rw [z]; exact h1.few
      · exact Gd.len h3 p z
    · rcases List.mem_cons.mp sub with z | z
      · rw [z, e]; exact (by decide : 1 ≤ 8)
      · exact Gd.len h3 p z
/-! finding a mark -/
theorem find_at {a m b : Str} {c d : Nat} (hd : (tl m)[d]? = some c) (ha : c ∉ tl a) (hm : c ∉ (tl m).take d) : Txt.find (a ++ m ++ b) m = ((a.length : Nat) : Int) := by
  have hne : tl m ≠ [] := fun e => by rw [e] at hd; cases hd
  have hdl : d < (tl m).length := (List.getElem?_eq_some_iff.mp hd).1
  have ex : tl (a ++ m ++ b) = tl a ++ (tl m ++ tl b) := by rw [tl_append, tl_append, List.append_assoc]
  have la := len_tl a
  have here : StrLaws.At (a ++ m ++ b) m (a ++ m ++ b).length a.length := (at_iff hne _).mpr (by
    rw [ex, la, List.drop_left]
    unfold TL.pre
    rw [List.take_left]
    exact beq_self_eq_true _)
  have no : ∀ i, i < a.length → ¬ StrLaws.At (a ++ m ++ b) m (a ++ m ++ b).length i := fun i hi h => by
    have h := (at_iff hne i).mp h
    unfold TL.pre at h
    have h := eq_of_beq h
    rw [ex] at h
    have h2 : (tl m)[d]? = (tl a ++ (tl m ++ tl b))[i + d]? := by
      rw [← List.getElem?_drop]
      conv => lhs; rw [← h]
      rw [List.getElem?_take, if_pos hdl]
    rw [hd] at h2
    by_cases q : i + d < (tl a).length
    · rw [List.getElem?_append_left q] at h2
      exact ha (List.mem_of_getElem? h2.symm)
    · rw [List.getElem?_append_right (by omega)] at h2
      have q2 : i + d - (tl a).length < d := by omega
      rw [List.getElem?_append_left (by omega)] at h2
      refine hm (List.mem_of_getElem? (i := i + d - (tl a).length) ?_)
      rw [List.getElem?_take, if_pos q2]
      exact h2.symm
  unfold Txt.find
  rcases StrLaws.occ_head (a ++ m ++ b) m 1 (Nat.le_refl _) with ⟨h0, hn⟩ | ⟨i, r, h0, h1, h2⟩
  · exact absurd here (hn _)
  · rw [h0]
    have : i = a.length := by
      rcases Nat.lt_trichotomy i a.length with q | q | q
      · exact absurd h1 (no i q)
      · exact q
      · exact absurd here (h2 _ q)
    rw [this]
theorem no_in {a m : Str} {c d : Nat} (hd : (tl m)[d]? = some c) (ha : c ∉ tl a) : isIn m a = false := by
  have hne : tl m ≠ [] := fun e => by rw [e] at hd; cases hd
  have hdl : d < (tl m).length := (List.getElem?_eq_some_iff.mp hd).1
  unfold isIn
  cases e : (!(Builtin.Str.occurrences a m 0 a.length 1).isEmpty) with
  | false => rfl
  | true =>
    obtain ⟨i, h1, h2⟩ := (StrLaws.found_iff a m).mp e
    have h := (at_iff hne i).mp ⟨h1, h2⟩
    unfold TL.pre at h
    have h := eq_of_beq h
    exfalso
    refine ha (List.mem_of_getElem? (i := i + d) ?_)
    rw [← List.getElem?_drop, ← hd]
    conv => rhs; rw [← h]
    rw [List.getElem?_take, if_pos hdl]
theorem six0 (n d : Nat) : HT.sIx n d none = d := rfl
theorem sixN {n d i : Nat} (h : i ≤ n) : HT.sIx n d (some (i : Int)) = i := by
  have h0 : ¬ ((i : Nat) : Int) < 0 := by omega
  unfold HT.sIx
  simp only
  rw [if_neg h0]
  omega
theorem cut_pre (a b : Str) : cutS (a ++ b) none (some ((a.length : Nat) : Int)) = a := by
  have la := len_tl a
  have lab : (a ++ b).length = (tl a).length + (tl b).length := by rw [len_tl, tl_append, List.length_append]
  refine ext_tl ?_
  show ((tl (a ++ b)).drop _).take _ = _
  rw [six0, sixN (by omega), tl_append, List.drop_zero, la, Nat.sub_zero, List.take_left]
theorem cut_post (a b : Str) : cutS (a ++ b) (some ((a.length : Nat) : Int)) none = b := by
  have la := len_tl a
  have lab : (a ++ b).length = (tl a).length + (tl b).length := by rw [len_tl, tl_append, List.length_append]
  refine ext_tl ?_
  show ((tl (a ++ b)).drop _).take _ = _
  rw [six0, sixN (by omega), tl_append, la, List.drop_left, List.take_of_length_le (by omega)]

end HW
end
section
set_option Elab.async false
set_option linter.all false
set_option maxRecDepth 100000
set_option maxHeartbeats 4000000
namespace HW
open PySem PySem.Spec PyProof.Rows L2 NdefX LamX
/-! ### a term as a text, and texts that read as a term -/
open TL
theorem okW_lt {bs : List Str} {n k : Nat} (h : k ∈ okW bs n) : k < n := List.mem_range.mp (List.mem_filter.mp h).1
theorem okW_no {bs : List Str} {n k : Nat} (h : k ∈ okW bs n) : wby k ∉ bs := by
  have := (List.mem_filter.mp h).2
  simpa using this
theorem okW_nd (bs : List Str) (n : Nat) : (okW bs n).Nodup := List.Nodup.sublist List.filter_sublist List.nodup_range
theorem fws_len (bs : List Str) (s : Nat) : (fws bs s).length = s := by
  have := okW_len bs (s + bs.length)
  unfold fws
  rw [List.length_map, List.length_take]
  omega
theorem fws_take (bs : List Str) (s m : Nat) : (fws bs (s + m)).take s = fws bs s := by
  obtain ⟨r, e⟩ := okW_pre bs (n := s + bs.length) (m := s + m + bs.length) (by omega)
  have := okW_len bs (s + bs.length)
  unfold fws
  rw [← List.map_take, List.take_take, e, Nat.min_eq_left (by omega), List.take_append_of_le_length (by omega)]
theorem fws_split (bs : List Str) (s m : Nat) : fws bs s ++ (fws bs (s + m)).drop s = fws bs (s + m) := by
  rw [← fws_take bs s m, List.take_append_drop]
theorem fws_nodup (bs : List Str) (s : Nat) : (fws bs s).Nodup := by
  unfold fws
  refine List.pairwise_map.mpr (List.Pairwise.imp (fun ne e => ne (wby_inj e)) (List.Nodup.sublist (List.take_sublist _ _) (okW_nd bs _)))
theorem fws_mem {bs : List Str} {s : Nat} {u : Str} (h : u ∈ fws bs s) : u ∉ bs ∧ ∃ k, k < s + bs.length ∧ u = wby k := by
  unfold fws at h
  obtain ⟨k, hk, rfl⟩ := List.mem_map.mp h
  have := List.mem_of_mem_take hk
  exact ⟨okW_no this, k, okW_lt this, rfl⟩
theorem wby_wd {k : Nat} (h : k < 702) : Wd (wby k) := by
  have e := wby_cps k
  have hl : (wby k).length = (wby k).cps.toList.length := by rw [Array.length_toList] <;> rfl
  refine ⟨fun c hc => ?_, ?_, ?_⟩
  · rw [e] at hc
    split at hc
    · simp at hc; exact isL_iff.mpr (by omega)
    · simp at hc; exact isL_iff.mpr (by omega)
  · rw [hl, e]; split <;> simp
  · rw [hl, e]; split <;> simp
theorem fws_wd {bs : List Str} {s : Nat} {u : Str} (hs : s + bs.length ≤ 700) (h : u ∈ fws bs s) : Wd u := by
  obtain ⟨_, k, hk, rfl⟩ := fws_mem h
  exact wby_wd (by omega)
theorem str_size (u : Str) : u.length = u.cps.toList.length := by rw [Array.length_toList] <;> rfl
theorem Wd.lettered {u : Str} (h : Wd u) : lettered u = true := by
  unfold HW.lettered
  have h1 : decide (V.str u = V.str "") = false := decide_eq_false fun z => h.ne (V.str.inj z)
  rw [h1]
  have h2 : isIn u "()[],.?" = false := by
    unfold isIn
    cases e : (!(Builtin.Str.occurrences ("()[],.?" : Str) u 0 ("()[],.?" : Str).length 1).isEmpty) with
    | false => rfl
    | true =>
      obtain ⟨i, h3, h4⟩ := (StrLaws.found_iff _ u).mp e
      have hne : tl u ≠ [] := fun z => by
        have := h.one
        rw [str_size, show u.cps.toList = [] from z] at this
        exact absurd this (by decide)
      have h5 := (at_iff hne i).mp ⟨h3, h4⟩
      unfold TL.pre at h5
      have h5 := eq_of_beq h5
      cases q : tl u with
      | nil => exact absurd q hne
      | cons c r =>
        exfalso
        have hc : c ∈ tl ("()[],.?" : Str) := by
          rw [q] at h5
          have : c ∈ ((tl ("()[],.?" : Str)).drop i).take (c :: r).length := by rw [h5]; exact List.mem_cons_self
          exact List.mem_of_mem_drop (List.mem_of_mem_take this)
        have h6 := isL_iff.mp (h.all c (by rw [show u.cps.toList = c :: r from q]; exact List.mem_cons_self))
        have h7 := isM_iff.mp (show isM c = true by unfold isM; exact decide_eq_true hc)
        omega
  rw [h2] <;> rfl
abbrev mO : Str := "("
abbrev mC : Str := ")"
abbrev mL : Str := "["
abbrev mR : Str := "]"
abbrev mK : Str := ","
abbrev mD : Str := "."
abbrev mQ : Str := "?"
abbrev mB : Str := " "
/-! #### pieces -/
def sepS (s : List Str) : List (List Str) → List Str
  | [] => []
  | [x] => x
  | x :: y :: r => x ++ (s ++ sepS s (y :: r))
def wrp (op cl : Str) (hd : List Str) (L : List (List Str)) : List Str := match L with
  | [] => hd
  | x :: r => hd ++ [op] ++ sepS [mK, mB] (x :: r) ++ [cl]
def bnd (bs : List Str) (s m : Nat) : List Str := if m = 0 then [] else sepS [mB] (((fws bs (s + m)).drop s).map fun u => [u]) ++ [mD, mB]
def nmw (bs : List Str) (s k : Nat) : Str := (fws bs s).getD (s - 1 - k) ""
mutual
def pcs (bs : List Str) : Nat → HF.T Str → List Str
  | s, .name k => [nmw bs s k]
  | s, .sign u ps => wrp mO mC [u] (pcsL bs s ps)
  | s, .hole u ns => wrp mL mR [mQ, u] (ns.map fun k => [nmw bs s k])
def pcsL (bs : List Str) : Nat → HF.Ts Str → List (List Str)
  | _, .nil => []
  | s, .cons m t r => (bnd bs s m ++ pcs bs (s + m) t) :: pcsL bs s r
end
/-! #### tokens that read as a term -/
def RdIs {α : Type} (R : α → List Str → Prop) : List α → List Str → Prop
  | [], _ => False
  | [x], ws => R x ws
  | x :: y :: r, ws => ∃ w1 w2, ws = w1 ++ mK :: w2 ∧ R x w1 ∧ RdIs R (y :: r) w2
/-- u is the name k -/
structure RdN (nm : List Str) (k : Nat) (u : Str) : Prop where
  at_ : nm.reverse[k]? = some u
  fst : ∀ m, m < k → nm.reverse[m]? ≠ some u
  wd : Wd u
structure RdB (nm bs : List Str) (m : Nat) : Prop where
  len : bs.length = m
  wd : ∀ u ∈ bs, Wd u
  nd : bs.Nodup
def bp (bs : List Str) : List Str := if bs = [] then [] else bs ++ [mD]
def RdK (nm : List Str) (k : Nat) (ws : List Str) : Prop := ∃ x, ws = [x] ∧ RdN nm k x
mutual
def Rd : List Str → HF.T Str → List Str → Prop
  | nm, .name k, ws => ∃ u, ws = [u] ∧ RdN nm k u
  | nm, .sign u ps, ws => Wd u ∧ ((ps = .nil ∧ ws = [u] ∧ u ∉ nm) ∨ ∃ bd, ws = u :: mO :: (bd ++ [mC]) ∧ RdL nm ps bd)
  | nm, .hole u ns, ws => Wd u ∧ ((ns = [] ∧ ws = [mQ, u]) ∨ ∃ bd, ws = mQ :: u :: mL :: (bd ++ [mR]) ∧ RdIs (RdK nm) ns bd)
def RdL : List Str → HF.Ts Str → List Str → Prop
  | _, .nil, _ => False
  | nm, .cons m t r, ws => ∃ bs w1, RdB nm bs m ∧ Rd (nm ++ bs) t w1 ∧ ((r = .nil ∧ ws = bp bs ++ w1) ∨ ∃ w2, ws = bp bs ++ w1 ++ mK :: w2 ∧ RdL nm r w2)
end
def RdP (nm : List Str) (z : Nat × HF.T Str) (ws : List Str) : Prop := ∃ bs w1, RdB nm bs z.1 ∧ Rd (nm ++ bs) z.2 w1 ∧ ws = bp bs ++ w1
theorem rdL_is {nm : List Str} : ∀ {ps : HF.Ts Str} {ws : List Str}, RdL nm ps ws → RdIs (RdP nm) (tsL ps) ws
  | .nil, _, h => h.elim
  | .cons m t .nil, ws, h => by
    obtain ⟨bs, w1, h1, h2, ⟨_, e⟩ | ⟨w2, _, h4⟩⟩ := h
    · exact ⟨bs, w1, h1, h2, e⟩
    · exact h4.elim
  | .cons m t (.cons m2 t2 r), ws, h => by
    obtain ⟨bs, w1, h1, h2, ⟨z, _⟩ | ⟨w2, e, h4⟩⟩ := h
    · cases z
    · exact ⟨bp bs ++ w1, w2, e, ⟨bs, w1, h1, h2, rfl⟩, rdL_is h4⟩
/-! #### the pieces of a closed term read as the term -/
theorem sn_of {c : Nat} (h : isM c = true ∨ c = 32) : Sn ⟨#[c]⟩ := ⟨c, rfl, h⟩
theorem sn1 : Sn mO := ⟨40, by decide +kernel, .inl (by decide +kernel)⟩
theorem sn2 : Sn mC := ⟨41, by decide +kernel, .inl (by decide +kernel)⟩
theorem sn3 : Sn mL := ⟨91, by decide +kernel, .inl (by decide +kernel)⟩
theorem sn4 : Sn mR := ⟨93, by decide +kernel, .inl (by decide +kernel)⟩
theorem sn5 : Sn mK := ⟨44, by decide +kernel, .inl (by decide +kernel)⟩
theorem sn6 : Sn mD := ⟨46, by decide +kernel, .inl (by decide +kernel)⟩
theorem sn7 : Sn mQ := ⟨63, by decide +kernel, .inl (by decide +kernel)⟩
theorem sn8 : Sn mB := ⟨32, by decide +kernel, .inr rfl⟩
theorem nb_mark {u : Str} (h : u ≠ mB) (r : List Str) : nb (u :: r) = u :: nb r := by
  unfold nb
  rw [List.filter_cons_of_pos (by simpa using h)]
theorem nb_blank (r : List Str) : nb (mB :: r) = nb r := by
  unfold nb
  rw [List.filter_cons_of_neg (by simp)]
theorem nb_words : ∀ {ws : List Str}, (∀ u ∈ ws, Wd u) → nb (sepS [mB] (ws.map fun u => [u])) = ws
  | [], _ => rfl
  | [x], h => nb_cons_w (h x List.mem_cons_self)
  | x :: y :: r, h => by
    show nb ([x] ++ ([mB] ++ sepS [mB] ((y :: r).map fun u => [u]))) = _
    rw [nb_app, nb_app, nb_words (ws := y :: r) fun u hu => h u (List.mem_cons_of_mem _ hu), nb_cons_w (h x List.mem_cons_self)]
    rfl
theorem gd_words : ∀ {ws : List Str}, (∀ u ∈ ws, Wd u) → ws ≠ [] → Gd false (sepS [mB] (ws.map fun u => [u])) true
  | [], _, h => absurd rfl h
  | [x], h, _ => .inl ⟨h x List.mem_cons_self, rfl, rfl⟩
  | x :: y :: r, h, _ => .inl ⟨h x List.mem_cons_self, rfl, .inr ⟨sn8, gd_words (ws := y :: r) (fun u hu => h u (List.mem_cons_of_mem _ hu)) (by simp)⟩⟩
theorem gd_sep : ∀ {L : List (List Str)}, L ≠ [] → (∀ x ∈ L, ∃ b, Gd false x b) → ∃ b, Gd false (sepS [mK, mB] L) b
  | [], h, _ => absurd rfl h
  | [x], _, h => h x List.mem_cons_self
  | x :: y :: r, _, h => by
    obtain ⟨b, h1⟩ := h x List.mem_cons_self
    obtain ⟨b2, h2⟩ := gd_sep (L := y :: r) (by simp) fun z hz => h z (List.mem_cons_of_mem _ hz)
    exact ⟨b2, h1.app (Or.inr ⟨sn5, Or.inr ⟨sn8, h2⟩⟩)⟩
theorem gd_wrp {op cl : Str} {hd : List Str} {L : List (List Str)} (ho : Sn op) (hc : Sn cl) {b : Bool} (hh : Gd false hd b) (h : ∀ x ∈ L, ∃ b, Gd false x b) : ∃ b, Gd false (wrp op cl hd L) b := by
  cases L with
  | nil => exact ⟨b, hh⟩
  | cons x r =>
    obtain ⟨b2, h2⟩ := gd_sep (by simp) h
    have g1 : Gd b [op] false := .inr ⟨ho, rfl⟩
    have g2 : Gd b2 [cl] false := .inr ⟨hc, rfl⟩
    exact ⟨false, ((hh.app g1).app h2).app g2⟩
/-- names bound on the way -/
def closed (n : Nat) (t : HF.T Str) : Prop := HF.cls n t
theorem rdn_fws {bs : List Str} {s k : Nat} (hk : k < s) (hs : s + bs.length ≤ 700) : RdN (fws bs s) k (nmw bs s k) := by
  have hl := fws_len bs s
  have e : (fws bs s)[s - 1 - k]? = some (nmw bs s k) := by
    unfold nmw
    rw [List.getD_eq_getElem?_getD, List.getElem?_eq_getElem (by omega)]
    rfl
  have nd : (fws bs s).reverse.Nodup := (List.reverse_perm _).symm.nodup (fws_nodup bs s)
  have e2 : (fws bs s).reverse[k]? = some (nmw bs s k) := by rw [List.getElem?_reverse (by omega), hl]; exact e
  refine ⟨e2, fun m hm z => ?_, fws_wd hs (List.mem_of_getElem? e)⟩
  obtain ⟨h1, h2⟩ := List.getElem?_eq_some_iff.mp e2
  obtain ⟨h3, h4⟩ := List.getElem?_eq_some_iff.mp z
  have := (List.getElem_inj nd).mp (h4.trans h2.symm)
  omega
/-- the longest way of bound names -/
def bm2 (s : Nat) (t : HF.T Str) : Nat := s + 2 * HF.ht t
theorem rdh_fws {bs : List Str} {s : Nat} (hs : s + bs.length ≤ 700) : ∀ {ns : List Nat}, ns ≠ [] → (∀ k ∈ ns, k < s) → RdIs (RdK (fws bs s)) ns (nb (sepS [mK, mB] (ns.map fun k => [nmw bs s k])))
  | [], h, _ => absurd rfl h
  | [k], _, h => by
    have r := rdn_fws (h k List.mem_cons_self) hs
    exact ⟨_, nb_cons_w r.wd, r⟩
  | k :: j :: r, _, h => by
    have r1 := rdn_fws (h k List.mem_cons_self) hs
    refine ⟨[nmw bs s k], nb (sepS [mK, mB] ((j :: r).map fun k => [nmw bs s k])), ?_, ⟨_, rfl, r1⟩, rdh_fws hs (by simp) fun x hx => h x (List.mem_cons_of_mem _ hx)⟩
    show nb ([nmw bs s k] ++ ([mK, mB] ++ sepS [mK, mB] ((j :: r).map fun k => [nmw bs s k]))) = _
    rw [nb_app, nb_app, nb_cons_w r1.wd]
    rfl
theorem gd_hole {bs : List Str} {s : Nat} (hs : s + bs.length ≤ 700) {u : Str} (hu : Wd u) {ns : List Nat} (h : ∀ k ∈ ns, k < s) : ∃ b, Gd false (wrp mL mR [mQ, u] (ns.map fun k => [nmw bs s k])) b :=
  gd_wrp sn3 sn4 (b := true) (.inr ⟨sn7, .inl ⟨hu, rfl, rfl⟩⟩) fun x hx => by
    obtain ⟨k, hk, rfl⟩ := List.mem_map.mp hx
    exact ⟨true, .inl ⟨(rdn_fws (h k hk) hs).wd, rfl, rfl⟩⟩
theorem nb_wrp {op cl : Str} {hd : List Str} {x : List Str} {r : List (List Str)} (ho : op ≠ mB) (hc : cl ≠ mB) : nb (wrp op cl hd (x :: r)) = nb hd ++ op :: (nb (sepS [mK, mB] (x :: r)) ++ [cl]) := by
  show nb (hd ++ [op] ++ sepS [mK, mB] (x :: r) ++ [cl]) = _
  rw [nb_app, nb_app, nb_app, nb_mark ho, nb_mark hc]
  simp [nb]
theorem mO_ne : mO ≠ mB := by decide +kernel
theorem mC_ne : mC ≠ mB := by decide +kernel
theorem mL_ne : mL ≠ mB := by decide +kernel
theorem mR_ne : mR ≠ mB := by decide +kernel
theorem mD_ne : mD ≠ mB := by decide +kernel
theorem mQ_ne : mQ ≠ mB := by decide +kernel
theorem mK_ne : mK ≠ mB := by decide +kernel
theorem bnd_all {bs : List Str} {s m : Nat} (hs : s + m + bs.length ≤ 700) : ∀ u ∈ (fws bs (s + m)).drop s, Wd u := fun u hu => fws_wd hs (List.mem_of_mem_drop hu)
theorem bnd_len (bs : List Str) (s m : Nat) : ((fws bs (s + m)).drop s).length = m := by rw [List.length_drop, fws_len]; omega
theorem bnd_nb {bs : List Str} {s m : Nat} (hs : s + m + bs.length ≤ 700) : nb (bnd bs s m) = bp ((fws bs (s + m)).drop s) := by
  have hl := bnd_len bs s m
  unfold bnd bp
  by_cases h : m = 0
  · rw [if_pos h, if_pos (List.length_eq_zero_iff.mp (by omega))] <;> rfl
  · rw [if_neg h, if_neg (fun z => h (by rw [z] at hl; simpa using hl.symm)), nb_app, nb_words (bnd_all hs)]
    rfl
theorem bnd_gd {bs : List Str} {s m : Nat} (hs : s + m + bs.length ≤ 700) : Gd false (bnd bs s m) false := by
  have hl := bnd_len bs s m
  unfold bnd
  by_cases h : m = 0
  · rw [if_pos h]; rfl
  · rw [if_neg h]
    have g2 : Gd true [mD, mB] false := .inr ⟨sn6, .inr ⟨sn8, rfl⟩⟩
    exact (gd_words (bnd_all hs) (fun z => h (by rw [z] at hl; simpa using hl.symm))).app g2
theorem rdb_fws {bs : List Str} {s m : Nat} (hs : s + m + bs.length ≤ 700) : RdB (fws bs s) ((fws bs (s + m)).drop s) m := ⟨bnd_len bs s m, bnd_all hs, List.Nodup.sublist (List.drop_sublist _ _) (fws_nodup bs _)⟩
/-- what a text wants of a term: words, few bound names, closed, its plain signs barred -/
structure Tx (bs B : List Str) (s : Nat) (t : HF.T Str) : Prop where
  g : gt B t
  c : HF.cls s t
  p : ∀ u ∈ psg t, u ∈ bs
theorem clsL_of {s : Nat} {u : Str} {ps : HF.Ts Str} (h : HF.cls s (.sign u ps)) : HF.clsL s ps := fun x hx => h x hx
theorem psg_ne {u : Str} {m : Nat} {t : HF.T Str} {r : HF.Ts Str} : psg (.sign u (.cons m t r)) = psg t ++ psgL r := rfl
mutual
theorem rd_pcs {bs B : List Str} (hB : ∀ u ∈ B, Wd u) : ∀ (s : Nat) (t : HF.T Str), gt B t → HF.cls s t → (∀ u ∈ psg t, u ∈ bs) → bm2 s t + bs.length ≤ 700 → Rd (fws bs s) t (nb (pcs bs s t)) ∧ ∃ b, Gd false (pcs bs s t) b
  | s, .name k, g, c, p, h => by
    have hk : k < s := c k rfl
    have r := rdn_fws (bs := bs) hk (by unfold bm2 at h; omega)
    exact ⟨⟨_, nb_cons_w r.wd, r⟩, true, .inl ⟨r.wd, rfl, rfl⟩⟩
  | s, .hole u ns, g, c, p, h => by
    have hu : Wd u := g
    have hs : s + bs.length ≤ 700 := by unfold bm2 at h; omega
    have hk : ∀ k ∈ ns, k < s := fun k hk => c k hk
    refine ⟨⟨hu, ?_⟩, gd_hole hs hu hk⟩
    cases ns with
    | nil => exact .inl ⟨rfl, by show nb [mQ, u] = _; rw [nb_mark mQ_ne, nb_cons_w hu] <;> rfl⟩
    | cons k r =>
      refine .inr ⟨_, ?_, rdh_fws hs (by simp) hk⟩
      show nb (wrp mL mR [mQ, u] ([nmw bs s k] :: r.map fun k => [nmw bs s k])) = _
      rw [nb_wrp mL_ne mR_ne, nb_mark mQ_ne, nb_cons_w hu]
      rfl
  | s, .sign u ps, g, c, p, h => by
    have hu : Wd u := hB u g.1
    cases ps with
    | nil =>
      have hn : u ∉ fws bs s := fun z => (fws_mem z).1 (p u (by simp [psg, psgL]))
      exact ⟨⟨hu, .inl ⟨rfl, nb_cons_w hu, hn⟩⟩, true, .inl ⟨hu, rfl, rfl⟩⟩
    | cons m t r =>
      obtain ⟨h1, h2⟩ := rd_pcsL hB s (.cons m t r) (by simp) g.2.2 g.2.1.2 (clsL_of c) (fun x hx => p x hx) (by unfold bm2 at h; show s + 2 * HF.htL _ + bs.length + 2 ≤ 700; have : HF.ht (HF.T.sign u (.cons m t r)) = 1 + HF.htL (.cons m t r) := rfl; omega)
      refine ⟨⟨hu, .inr ⟨_, ?_, h1⟩⟩, ?_⟩
      · show nb (wrp mO mC [u] (pcsL bs s (.cons m t r))) = _
        have e : pcsL bs s (.cons m t r) = (bnd bs s m ++ pcs bs (s + m) t) :: pcsL bs s r := rfl
        rw [e, nb_wrp mO_ne mC_ne, nb_cons_w hu]
        rfl
      · have g1 : Gd false [u] true := .inl ⟨hu, rfl, rfl⟩
        exact gd_wrp sn1 sn2 g1 h2
theorem rd_pcsL {bs B : List Str} (hB : ∀ u ∈ B, Wd u) : ∀ (s : Nat) (ps : HF.Ts Str), ps ≠ .nil → gtL B ps → (∀ z ∈ tsL ps, z.1 ≤ 2) → HF.clsL s ps → (∀ u ∈ psgL ps, u ∈ bs) → s + 2 * HF.htL ps + bs.length + 2 ≤ 700 →
    RdL (fws bs s) ps (nb (sepS [mK, mB] (pcsL bs s ps))) ∧ ∀ x ∈ pcsL bs s ps, ∃ b, Gd false x b
  | s, .nil, h, _, _, _, _, _ => absurd rfl h
  | s, .cons m t r, _, g, z, c, p, h => by
    have hm : m ≤ 2 := z (m, t) List.mem_cons_self
    have hh : HF.htL (.cons m t r) = Nat.max (HF.ht t) (HF.htL r) := rfl
    have l1 : HF.ht t ≤ HF.htL (.cons m t r) := by rw [hh]; exact Nat.le_max_left _ _
    have l2 : HF.htL r ≤ HF.htL (.cons m t r) := by rw [hh]; exact Nat.le_max_right _ _
    have hs : s + m + bs.length ≤ 700 := by omega
    obtain ⟨a1, b1, a2⟩ := rd_pcs hB (s + m) t g.1 (HF.cls_part c) (fun x hx => p x (List.mem_append_left _ hx)) (by unfold bm2; omega)
    have ga : Gd false (bnd bs s m ++ pcs bs (s + m) t) b1 := (bnd_gd hs).app a2
    have e1 : nb (bnd bs s m ++ pcs bs (s + m) t) = bp ((fws bs (s + m)).drop s) ++ nb (pcs bs (s + m) t) := by rw [nb_app, bnd_nb hs]
    have a3 : Rd (fws bs s ++ (fws bs (s + m)).drop s) t (nb (pcs bs (s + m) t)) := by rw [fws_split]; exact a1
    cases r with
    | nil =>
      refine ⟨⟨_, _, rdb_fws hs, a3, .inl ⟨rfl, ?_⟩⟩, fun x hx => ?_⟩
      · show nb (bnd bs s m ++ pcs bs (s + m) t) = _
        exact e1
      · rw [List.mem_singleton.mp (show x ∈ [bnd bs s m ++ pcs bs (s + m) t] from hx)]; exact ⟨_, ga⟩
    | cons m2 t2 r2 =>
      obtain ⟨q1, q2⟩ := rd_pcsL hB s (.cons m2 t2 r2) (by simp) g.2 (fun y hy => z y (List.mem_cons_of_mem _ hy)) (HF.clsL_rest c) (fun x hx => p x (List.mem_append_right _ hx)) (by omega)
      refine ⟨⟨_, _, rdb_fws hs, a3, .inr ⟨_, ?_, q1⟩⟩, fun x hx => ?_⟩
      · show nb ((bnd bs s m ++ pcs bs (s + m) t) ++ ([mK, mB] ++ sepS [mK, mB] (pcsL bs s (.cons m2 t2 r2)))) = _
        rw [nb_app, nb_app, bnd_nb hs]
        rfl
      · rcases List.mem_cons.mp (show x ∈ (bnd bs s m ++ pcs bs (s + m) t) :: pcsL bs s (.cons m2 t2 r2) from hx) with y | y
        · rw [y]; exact ⟨_, ga⟩
        · exact q2 x y
end

end HW
end
section
set_option Elab.async false
set_option linter.all false
set_option maxRecDepth 100000
set_option maxHeartbeats 4000000
namespace HW
open PySem PySem.Spec PyProof.Rows L2 NdefX LamX
/-! ### showing -/
open TL
theorem cat_sep {s : List Str} : ∀ L : List (List Str), Txt.join (cat s) (L.map cat) = cat (sepS s L)
  | [] => by rw [join_eq] <;> rfl
  | [x] => by rw [join_eq] <;> rfl
  | x :: y :: r => by
    have ih := cat_sep (s := s) (y :: r)
    rw [join_eq] at ih ⊢
    show cat x ++ cat s ++ Str.join (cat s) ((y :: r).map cat) = cat (x ++ (s ++ sepS s (y :: r)))
    rw [ih, cat_app, cat_app, app_assoc']
theorem cat_KB : cat [mK, mB] = ", " := by decide +kernel
theorem cat_B : cat [mB] = " " := by decide +kernel
theorem cat_DB : cat [mD, mB] = ". " := by decide +kernel
theorem cat_words (ws : List Str) : (ws.map fun u => [u]).map cat = ws := by
  rw [List.map_map]
  have : (cat ∘ fun u => [u]) = id := funext fun u => cat_one u
  rw [this, List.map_id]
theorem cat_wrp (op cl : Str) (hd : List Str) {L : List (List Str)} (h : L ≠ []) : cat (wrp op cl hd L) = cat hd ++ op ++ Txt.join ", " (L.map cat) ++ cl := by
  cases L with
  | nil => exact absurd rfl h
  | cons x r =>
    show cat (hd ++ [op] ++ sepS [mK, mB] (x :: r) ++ [cl]) = _
    rw [cat_app, cat_app, cat_app, cat_one, cat_one, ← cat_sep, cat_KB]
theorem cat_bnd {bs : List Str} {s m : Nat} (h : m ≠ 0) : cat (bnd bs s m) = Txt.join " " ((fws bs (s + m)).drop s) ++ ". " := by
  unfold bnd
  rw [if_neg h, cat_app, ← cat_sep, cat_B, cat_words, cat_DB]
theorem len_cat_app (a b : List Str) : (cat (a ++ b)).length = (cat a).length + (cat b).length := by rw [cat_app, str_size, str_size, str_size]; simp only [cps_app, List.length_append]
theorem len_app (a b : Str) : (a ++ b).length = a.length + b.length := by rw [str_size, str_size, str_size]; simp only [cps_app, List.length_append]
theorem len_cat_one (a : Str) : (cat [a]).length = a.length := by rw [cat_one]
theorem len_nil : (cat []).length = 0 := by decide +kernel
def sumL (L : List (List Str)) : Nat := (L.map fun x => (cat x).length).sum
theorem len_sep (s : List Str) : ∀ L : List (List Str), (cat (sepS s L)).length ≤ sumL L + L.length * (cat s).length
  | [] => by show (cat []).length ≤ _; rw [len_nil]; omega
  | [x] => by simp [sepS, sumL]
  | x :: y :: r => by
    have ih := len_sep s (y :: r)
    show (cat (x ++ (s ++ sepS s (y :: r)))).length ≤ _
    rw [len_cat_app, len_cat_app]
    have e : sumL (x :: y :: r) = (cat x).length + sumL (y :: r) := rfl
    rw [e, List.length_cons, Nat.add_mul, Nat.one_mul]
    omega
theorem len_wrp (op cl : Str) (hd : List Str) (L : List (List Str)) : (cat (wrp op cl hd L)).length ≤ (cat hd).length + op.length + cl.length + sumL L + L.length * 2 := by
  cases L with
  | nil => show (cat hd).length ≤ _; omega
  | cons x r =>
    have h := len_sep [mK, mB] (x :: r)
    have h2 : (cat [mK, mB]).length = 2 := by decide +kernel
    rw [h2] at h
    show (cat (hd ++ [op] ++ sepS [mK, mB] (x :: r) ++ [cl])).length ≤ _
    rw [len_cat_app, len_cat_app, len_cat_app, len_cat_one, len_cat_one]
    omega
theorem sum_le {c : Nat} : ∀ {l : List Nat}, (∀ x ∈ l, x ≤ c) → l.sum ≤ l.length * c
  | [], _ => Nat.zero_le _
  | x :: r, h => by
    have ih := sum_le (l := r) fun y hy => h y (List.mem_cons_of_mem _ hy)
    have := h x List.mem_cons_self
    rw [List.sum_cons, List.length_cons, Nat.add_mul, Nat.one_mul]
    omega
theorem len_words {ws : List Str} (h : ∀ u ∈ ws, Wd u) : sumL (ws.map fun u => [u]) ≤ ws.length * 8 := by
  unfold sumL
  rw [List.map_map]
  have := sum_le (c := 8) (l := ws.map ((fun x => (cat x).length) ∘ fun u => [u])) fun x hx => (by
    obtain ⟨u, hu, rfl⟩ := List.mem_map.mp hx
    show (cat [u]).length ≤ 8
    rw [len_cat_one]; exact (h u hu).few)
  rw [List.length_map] at this
  exact this
theorem len_bnd {bs : List Str} {s m : Nat} (hm : m ≤ 2) (hs : s + m + bs.length ≤ 700) : (cat (bnd bs s m)).length ≤ 20 := by
  unfold bnd
  by_cases h : m = 0
  · rw [if_pos h, len_nil]; omega
  · rw [if_neg h, len_cat_app]
    have h1 := len_sep [mB] (((fws bs (s + m)).drop s).map fun u => [u])
    have h2 : (cat [mB]).length = 1 := by decide +kernel
    have h3 : (cat [mD, mB]).length = 2 := by decide +kernel
    have h4 := len_words (bnd_all hs)
    have h5 := bnd_len bs s m
    rw [List.length_map, h2, h5] at h1
    rw [h5] at h4
    omega
theorem nmw_len {bs : List Str} {s k : Nat} (hk : k < s) (hs : s + bs.length ≤ 700) : (cat [nmw bs s k]).length ≤ 8 := by rw [len_cat_one]; exact (rdn_fws hk hs).wd.few
theorem one_len : mO.length = 1 ∧ mC.length = 1 ∧ mL.length = 1 ∧ mR.length = 1 ∧ mQ.length = 1 := by decide +kernel
mutual
theorem len_pcs {bs B : List Str} (hB : ∀ u ∈ B, Wd u) : ∀ (s : Nat) (t : HF.T Str), gt B t → HF.cls s t → bm2 s t + bs.length ≤ 700 → (cat (pcs bs s t)).length + 22 ≤ 40 * HF.nd t
  | s, .name k, g, c, h => by
    have := nmw_len (bs := bs) (c k rfl : k < s) (by unfold bm2 at h; omega)
    show (cat [nmw bs s k]).length + 22 ≤ 40 * 1
    omega
  | s, .hole u ns, g, c, h => by
    have hu : Wd u := g
    have hs : s + bs.length ≤ 700 := by unfold bm2 at h; omega
    have h1 := len_wrp mL mR [mQ, u] (ns.map fun k => [nmw bs s k])
    have h2 : sumL (ns.map fun k => [nmw bs s k]) ≤ ns.length * 8 := by
      unfold sumL
      rw [List.map_map]
      have := sum_le (c := 8) (l := ns.map ((fun x => (cat x).length) ∘ fun k => [nmw bs s k])) fun x hx => (by
        obtain ⟨k, hk, rfl⟩ := List.mem_map.mp hx
        exact nmw_len (c k hk) hs)
      rw [List.length_map] at this
      exact this
    have h3 : (cat [mQ, u]).length ≤ 9 := by
      show (mQ ++ cat [u]).length ≤ 9
      rw [len_app, len_cat_one, one_len.2.2.2.2]
      have := hu.few
      omega
    rw [List.length_map, one_len.2.2.1, one_len.2.2.2.1] at h1
    show (cat (wrp mL mR [mQ, u] (ns.map fun k => [nmw bs s k]))).length + 22 ≤ 40 * (1 + ns.length)
    omega
  | s, .sign u ps, g, c, h => by
    have hu : Wd u := hB u g.1
    have h1 := len_wrp mO mC [u] (pcsL bs s ps)
    obtain ⟨h2, h3⟩ := len_pcsL (bs := bs) hB s ps g.2.2 g.2.1.2 (clsL_of c) (by unfold bm2 at h; show s + 2 * HF.htL _ + bs.length + 2 ≤ 700; have : HF.ht (HF.T.sign u ps) = 1 + HF.htL ps := rfl; omega)
    rw [len_cat_one, one_len.1, one_len.2.1] at h1
    have := hu.few
    show (cat (wrp mO mC [u] (pcsL bs s ps))).length + 22 ≤ 40 * (1 + HF.ndL ps)
    omega
theorem len_pcsL {bs B : List Str} (hB : ∀ u ∈ B, Wd u) : ∀ (s : Nat) (ps : HF.Ts Str), gtL B ps → (∀ z ∈ tsL ps, z.1 ≤ 2) → HF.clsL s ps → s + 2 * HF.htL ps + bs.length + 2 ≤ 700 →
    sumL (pcsL bs s ps) + (pcsL bs s ps).length * 2 ≤ 40 * HF.ndL ps ∧ (pcsL bs s ps).length = (tsL ps).length
  | s, .nil, _, _, _, _ => ⟨Nat.le_refl _, rfl⟩
  | s, .cons m t r, g, z, c, h => by
    have hm : m ≤ 2 := z (m, t) List.mem_cons_self
    have hh : HF.htL (.cons m t r) = Nat.max (HF.ht t) (HF.htL r) := rfl
    have l1 : HF.ht t ≤ HF.htL (.cons m t r) := by rw [hh]; exact Nat.le_max_left _ _
    have l2 : HF.htL r ≤ HF.htL (.cons m t r) := by rw [hh]; exact Nat.le_max_right _ _
    have a := len_pcs (bs := bs) hB (s + m) t g.1 (HF.cls_part c) (by unfold bm2; omega)
    obtain ⟨b1, b2⟩ := len_pcsL (bs := bs) hB s r g.2 (fun y hy => z y (List.mem_cons_of_mem _ hy)) (HF.clsL_rest c) (by omega)
    have d := len_bnd (bs := bs) (s := s) hm (by omega)
    have e : sumL (pcsL bs s (.cons m t r)) = (cat (bnd bs s m ++ pcs bs (s + m) t)).length + sumL (pcsL bs s r) := rfl
    have e2 : (pcsL bs s (.cons m t r)).length = (pcsL bs s r).length + 1 := rfl
    have e3 : HF.ndL (.cons m t r) = HF.nd t + HF.ndL r := rfl
    rw [len_cat_app] at e
    refine ⟨by omega, by rw [e2, b2] <;> rfl⟩
end
theorem wOk_of {u : Str} (h : ∀ c ∈ tl u, okc c) : wOk u := by
  show u.cps.all (· < 0x110000) = true
  rw [Array.all_eq_true_iff_forall_mem]
  intro c hc
  have h1 := h c (by simpa using hc)
  simp only [decide_eq_true_eq]
  rcases h1 with h1 | h1 | h1
  · have := isL_iff.mp h1; omega
  · have := isM_iff.mp h1; omega
  · omega
theorem dp_strs {K : PySem.W.Frag} {H : Hp} : ∀ ws : List Str, DpAll K H (ws.map V.str) (ws.map PyData.str)
  | [] => .nil
  | u :: r => .cons (.str u) (dp_strs r)
theorem strs_ok : ∀ {ws : List Str}, (∀ u ∈ ws, wOk u) → PyData.canLayAll0 (ws.map PyData.str) = true
  | [], _ => rfl
  | u :: r, h => by
    have ih := strs_ok fun x hx => h x (List.mem_cons_of_mem _ hx)
    have h1 : PyData.strOk u = true := h u List.mem_cons_self
    simp only [List.map_cons, PyData.canLayAll0, PyData.canLay0, h1, ih]
    rfl
theorem strs_depth : ∀ ws : List Str, PyData.depthAll (ws.map PyData.str) ≤ 1
  | [] => by simp [PyData.depthAll]
  | u :: r => by
    have := strs_depth r
    simp only [List.map_cons, PyData.depthAll, PyData.depth]
    omega
/-- a list of texts against the empty list -/
theorem eq_none {ws : List Str} : PyData.eqv (.list (ws.map PyData.str)) (.list []) = decide (ws = []) := by
  cases ws with
  | nil => rfl
  | cons x r => rfl

end HW
end
section
set_option Elab.async false
set_option linter.all false
set_option maxRecDepth 100000
set_option maxHeartbeats 4000000
namespace HW
open PySem PySem.Spec PyProof.Rows L2 NdefX LamX
/-! ### shown_part, shown_in, shown -/
open TL
/-- what showing asks of a term -/
structure Sh (bs B : List Str) (s : Nat) (t : HF.T Str) : Prop where
  w : ∀ u ∈ B, Wd u
  g : gt B t
  c : HF.cls s t
  p : ∀ u ∈ psg t, u ∈ bs
  b : bm2 s t + bs.length ≤ 700
  n : HF.nd t ≤ 200000
theorem Sh.len {bs B : List Str} {s : Nat} {t : HF.T Str} (h : Sh bs B s t) : (cat (pcs bs s t)).length ≤ 8000000 := by
  have := len_pcs h.w s t h.g h.c h.b
  have := h.n
  omega
theorem Sh.ok {bs B : List Str} {s : Nat} {t : HF.T Str} (h : Sh bs B s t) : wOk (cat (pcs bs s t)) := by
  obtain ⟨_, b, g⟩ := rd_pcs h.w s t h.g h.c h.p h.b
  exact wOk_of g.okc
theorem psgL_mem {ps : HF.Ts Str} {z : Nat × HF.T Str} {x : Str} (hz : z ∈ tsL ps) (h : x ∈ psg z.2) : x ∈ psgL ps := by
  rw [psgL_P]
  exact List.mem_flatMap.mpr ⟨z, hz, h⟩
theorem Sh.part {bs B : List Str} {s : Nat} {u : Str} {ps : HF.Ts Str} (h : Sh bs B s (.sign u ps)) {z : Nat × HF.T Str} (hz : z ∈ tsL ps) : Sh bs B (s + z.1) z.2 ∧ z.1 ≤ 2 := by
  obtain ⟨i, hi⟩ := List.mem_iff_getElem?.mp hz
  obtain ⟨h1, h2⟩ := htL_get hi
  have h3 := h.b
  have h4 := h.n
  have h5 := h.g.2.1.2 z hz
  rw [nd_sign] at h4
  unfold bm2 at h3
  rw [ht_sign] at h3
  refine ⟨⟨h.w, gtL_get h.g.2.2 hz, fun x hx => ?_, fun x hx => h.p x (List.mem_append_right _ (psgL_mem hz hx)), by unfold bm2; omega, by omega⟩, h5⟩
  by_cases q : x < z.1
  · omega
  · have e : x = (x - z.1) + z.1 := by omega
    have : HF.fr (x - z.1) 0 (.sign u ps) := frL_mem.mpr ⟨z, hz, by
      rw [e] at hx
      have := HF.fr_unshift (y := x - z.1) (c := z.1) (d := 0) (t := z.2) hx
      exact this⟩
    have := h.c _ this
    omega
theorem pcsL_map (bs : List Str) (s : Nat) : ∀ ps : HF.Ts Str, pcsL bs s ps = (tsL ps).map fun z => bnd bs s z.1 ++ pcs bs (s + z.1) z.2
  | .nil => rfl
  | .cons m t r => by simp only [pcsL, tsL, List.map_cons, pcsL_map bs s r]
section
variable {P : Program} {w : World} {K : PySem.W.Frag} {mg : Str → Option Value} {base : Heap}
def spShIn (T : List NTab) (n : Nat) : Sp := fun vs H Q _ => ∃ (t : Tm) (v : V) (s : Nat) (lb : Addr) (bs B : List Str), vs = [v, .int (s : Int), .ref lb] ∧ At H t v ∧ H lb = some (.lst (bs.map V.str)) ∧ TabsN T H ∧ Sh bs B s t ∧ HF.ht t ≤ n ∧
  ∀ H', Gr T [] H H' → Q (.str (cat (pcs bs s t))) H'
def spShPt (T : List NTab) (n : Nat) : Sp := fun vs H Q _ => ∃ (z : Nat × Tm) (v : V) (s : Nat) (lb : Addr) (bs B : List Str), vs = [v, .int (s : Int), .ref lb] ∧ AtP H z v ∧ H lb = some (.lst (bs.map V.str)) ∧ TabsN T H ∧ Sh bs B (s + z.1) z.2 ∧ z.1 ≤ 2 ∧ HF.ht z.2 ≤ n ∧
  ∀ H', Gr T [] H H' → Q (.str (cat (bnd bs s z.1 ++ pcs bs (s + z.1) z.2))) H'
theorem sc_shown_part : FnScope ["part", "scope", "barred", "many", "term", "text"] ["part", "scope", "barred"] (defScope s_shown_part) := ⟨rfl, rfl, rfl, by decide +kernel, rfl, by decide +kernel, by decide +kernel⟩
theorem ok_shpt (S : Cn K mg base) (T : List NTab) (n : Nat) (hW : Has P w K mg base "first_words" 2 ["many", "barred"] [] (spFirst T)) (hI : Has P w K mg base "shown_in" (2 * n + 2) ["term", "scope", "barred"] [] (spShIn T n)) :
    Has P w K mg base "shown_part" (2 * n + 3) ["part", "scope", "barred"] [] (spShPt T n) := by
  refine has_of (d := d_shown_part) S 38 24 rfl rfl rfl rfl rfl sc_shown_part (fun vs H Q E h => ?_) (fun _ _ _ _ _ _ us hl => match us, hl with | [_, _, _], _ => rfl) (fun f cdv A outer s H vs Q E hr h => ?_)
  · obtain ⟨z, v, s, lb, bs, B, rfl, _⟩ := h
    rfl
  refine ⟨_, (pss_cons (ps_asg (pv 0) (pg_tup rfl (pgs_cons (pg_name (i := 3) sc_shown_part.nd rfl (Or.inl rfl)) (pgs_cons (pg_name (i := 4) sc_shown_part.nd rfl (Or.inl rfl)) pgs_nil)))) (pss_cons (ps_set (i := 5) sc_shown_part.nd rfl (Or.inl rfl) (pe_hs hI hr (by omega) rfl (pa_cons (pv 4) (pa_cons (pe_op op_add (pv 1) (pv 3)) (pa_cons (pv 2) pa_nil))))) (pss_cons (ps_if (pt_cmpR op_eq (pv 3) pe_int (nomark _)) (pss_one (ps_ret (pv 5))) pss_nil) (pss_one (ps_ret (pe_op op_add_str (pe_op op_add_str (pe_join pe_str (pe_slice sl_list (pe_hs hW hr (by omega) rfl (pa_cons (pe_op op_add (pv 1) (pv 3)) (pa_cons (pv 2) pa_nil))) (po_some (pv 1)) po_none)) pe_str) (pv 5))))))), ?_⟩
  obtain ⟨z, v, s, lb, bs, B, rfl, ⟨c, tv, rfl, h1, h2⟩, hl, hT, sh, hm, hn, q⟩ := h
  refine ⟨_, rfl, c, _, rfl, SqT.of h1, rfl, _, _, rfl, _, _, rfl, rfl, ?_⟩
  refine ⟨_, rfl, _, rfl, _, rfl, _, _, rfl, rfl, _, rfl, z.2, tv, s + z.1, lb, bs, B, rfl, h2, hl, hT, sh, hn, fun H1 g1 => ?_⟩
  refine ⟨_, rfl, rfl, _, rfl, ite2 (fun hc => ?_) (fun hc => ?_)⟩
  · have hc : z.1 = 0 := by have := of_decide_eq_true hc; have := V.int.inj this; omega
    refine ⟨_, rfl, ?_⟩
    have e : bnd bs s z.1 = [] := by unfold bnd; rw [if_pos hc]
    have := q H1 g1
    rw [e, List.nil_append] at this
    exact this
  · have hc : z.1 ≠ 0 := fun e => by
      have := of_decide_eq_false (Bool.eq_false_iff.mpr hc)
      exact this (by rw [e] <;> rfl)
    have hb := sh.b
    unfold bm2 at hb
    refine ⟨⟨_, rfl⟩, _, rfl, _, rfl, _, _, rfl, rfl, _, rfl, s + z.1, lb, bs, rfl, g1.lst hl, g1.tab, by omega, fun H2 p g2 _ ep => ?_⟩
    refine ⟨_, rfl, _, rfl, p, _, rfl, SqL.of ep, fun p3 hp3 => ?_⟩
    have ecut : cutV ((fws bs (s + z.1)).map V.str) (some (s : Int)) none = ((fws bs (s + z.1)).drop s).map V.str := by
      unfold cutV
      have l1 : ((fws bs (s + z.1)).map V.str).length = s + z.1 := by rw [List.length_map, fws_len]
      rw [l1, HT.sIx_nat, HT.sIx_none, Nat.min_eq_left (by omega), List.map_drop, List.take_of_length_le (by rw [List.length_drop, l1]; omega)]
    rw [ecut]
    have hs : s + z.1 + bs.length ≤ 700 := by omega
    have lw : ∀ u ∈ (fws bs (s + z.1)).drop s, u.length ≤ 8 := fun u hu => (bnd_all hs u hu).few
    have l5 := bnd_len bs s z.1
    have l6 : (((fws bs (s + z.1)).drop s).map (·.length)).sum ≤ 2 * 8 := by
      have := sum_le (c := 8) (l := ((fws bs (s + z.1)).drop s).map (·.length)) fun x hx => (by
        obtain ⟨u, hu, rfl⟩ := List.mem_map.mp hx
        exact lw u hu)
      rw [List.length_map, l5] at this
      omega
    refine ⟨" ", p3, (fws bs (s + z.1)).drop s, rfl, rfl, .inl (SqL.of upd_same), ?_, ?_⟩
    · have l7 : (" " : Str).length = 1 := by decide +kernel
      rw [l5, l7]; omega
    have ej := cat_bnd (bs := bs) (s := s) hc
    have lb2 := len_bnd (bs := bs) hm hs
    have lp := sh.len
    rw [ej, len_app] at lb2
    refine ⟨_, _, rfl, rfl, szl (by omega), _, rfl, _, _, rfl, rfl, szl (by rw [len_app]; omega), ?_⟩
    have g3 := (g1.trans g2).new (o := .lst (((fws bs (s + z.1)).drop s).map V.str)) hp3
    have := q _ g3
    rw [cat_app, ej] at this
    exact this
theorem sc_shown_in : FnScope ["term", "scope", "barred", "told", "parts", "part", "inner"] ["term", "scope", "barred"] (defScope s_shown_in) := ⟨rfl, rfl, rfl, by decide +kernel, rfl, by decide +kernel, by decide +kernel⟩
theorem ok_shin1 (S : Cn K mg base) (T : List NTab) (n : Nat) (hW : Has P w K mg base "first_words" 2 ["many", "barred"] [] (spFirst T)) (ih : Has P w K mg base "shown_in" (2 * n + 2) ["term", "scope", "barred"] [] (spShIn T n))
    (hP : Has P w K mg base "shown_part" (2 * n + 3) ["part", "scope", "barred"] [] (spShPt T n)) :
    Has P w K mg base "shown_in" (2 * n + 4) ["term", "scope", "barred"] [] (spShIn T (n + 1)) := by
  refine has_of (d := d_shown_in) S 39 25 rfl rfl rfl rfl rfl sc_shown_in (fun vs H Q E h => ?_) (fun _ _ _ _ _ _ us hl => match us, hl with | [_, _, _], _ => rfl) (fun f cdv A outer s H vs Q E hr h => ?_)
  · obtain ⟨t, v, s, lb, bs, B, rfl, _⟩ := h
    rfl
  refine ⟨_, (pss_cons (ps_if (ptEq (ixT (pv 0))) (pss_one (ps_ret (pe_ix ix_list (pe_hs hW hr (by omega) rfl (pa_cons (pv 1) (pa_cons (pv 2) pa_nil))) (pe_op op_sub (pe_op op_sub (pv 1) pe_int) (ixT (pv 0))) (fun _ _ => rfl)))) pss_nil) (pss_cons (ps_if (ptEq (ixT (pv 0))) (pss_cons (ps_setLc (i := 3) (own := [("inner", 6)]) (g := (gName 6)) (by rfl) sc_shown_in.nd rfl rfl (sw_true rfl rfl rfl (by decide +kernel)) (pi_tup (ixT (pv 0))) (blkOk_by (N := ["term", "scope", "barred", "told", "parts", "part", "inner"]) (sc := defScope s_shown_in) (by decide +kernel)) (fun _ _ _ _ _ => (pg_name (i := 6) sc_shown_in.nd rfl (Or.inl rfl))) (fun _ _ _ _ _ => pts_nil) (fun _ _ _ _ _ => (pe_hs ih hr (by omega) rfl (pa_cons (pv 6) (pa_cons (pv 1) (pa_cons (pv 2) pa_nil)))))) (pss_cons (ps_if (pt_cmpR (op_eqB (D := 3) (Room.un hr (by omega))) (pv 3) (pe_lst pa_nil) (nomark _)) (pss_one (ps_ret (pe_op op_add_str pe_str (ixT (pv 0))))) pss_nil) (pss_one (ps_ret (pe_op op_add_str (pe_op op_add_str (pe_op op_add_str (pe_op op_add_str pe_str (ixT (pv 0))) pe_str) (pe_join pe_str (pv 3))) pe_str))))) pss_nil) (pss_cons (ps_setLc (i := 4) (own := [("part", 5)]) (g := (gName 5)) (by rfl) sc_shown_in.nd rfl rfl (sw_true rfl rfl rfl (by decide +kernel)) (pi_tup (ixT (pv 0))) (blkOk_by (N := ["term", "scope", "barred", "told", "parts", "part", "inner"]) (sc := defScope s_shown_in) (by decide +kernel)) (fun _ _ _ _ _ => (pg_name (i := 5) sc_shown_in.nd rfl (Or.inl rfl))) (fun _ _ _ _ _ => pts_nil) (fun _ _ _ _ _ => (pe_hs hP hr (by omega) rfl (pa_cons (pv 5) (pa_cons (pv 1) (pa_cons (pv 2) pa_nil)))))) (pss_cons (ps_if (pt_cmpR (op_eqB (D := 3) (Room.un hr (by omega))) (pv 4) (pe_lst pa_nil) (nomark _)) (pss_one (ps_ret (ixT (pv 0)))) pss_nil) (pss_one (ps_ret (pe_op op_add_str (pe_op op_add_str (pe_op op_add_str (ixT (pv 0)) pe_str) (pe_join pe_str (pv 4))) pe_str))))))), ?_⟩
  obtain ⟨t, v, s, lb, bs, B, rfl, ht, hl, hT, sh, hn, q⟩ := h
  have hb := sh.b
  unfold bm2 at hb
  cases t with
  | name k =>
    obtain ⟨a, rfl, h1⟩ := ht
    have hk : k < s := sh.c k rfl
    refine ⟨_, rfl, a, _, 0, _, rfl, rfl, SqT.of h1, rfl, rfl, _, rfl, ift eRf ?_⟩
    refine ⟨_, rfl, _, rfl, s, lb, bs, rfl, hl, hT, by omega, fun H2 p g2 _ ep => ?_⟩
    refine ⟨_, rfl, _, _, rfl, rfl, _, rfl, a, _, 1, _, rfl, rfl, SqT.of (g2.tup _ _ h1), rfl, _, _, rfl, rfl, ?_⟩
    have l1 := fws_len bs s
    have e : (s : Int) - 1 - (k : Int) = ((s - 1 - k : Nat) : Int) := by omega
    have e2 : ((fws bs s).map V.str)[s - 1 - k]? = some (.str (nmw bs s k)) := by
      rw [List.getElem?_map, List.getElem?_eq_getElem (by omega)]
      unfold nmw
      rw [List.getD_eq_getElem?_getD, List.getElem?_eq_getElem (by omega)]
      rfl
    refine ⟨p, _, _, _, rfl, rfl, SqL.of ep, at_of (j := s - 1 - k) (by rw [e]) e2, ?_⟩
    have := q H2 g2
    rw [show pcs bs s (.name k) = [nmw bs s k] from rfl, cat_one] at this
    exact this
  | hole u ns =>
    obtain ⟨a, b, vs, rfl, h1, h2, h3⟩ := ht
    have h5 := h3.len
    have hnd := sh.n
    rw [nd_hole] at hnd
    have h9 : HF.ht (HF.T.hole u ns) = 2 := rfl
    have hu : Wd u := sh.g
    have hk : ∀ k ∈ ns, k < s := fun k hk => sh.c k hk
    have hs : s + bs.length ≤ 700 := by omega
    refine ⟨_, rfl, a, _, 0, _, rfl, rfl, SqT.of h1, rfl, rfl, _, rfl, iff' eHN ?_⟩
    refine ⟨_, rfl, a, _, 0, _, rfl, rfl, SqT.of h1, rfl, rfl, _, rfl, ift eRf ?_⟩
    refine ⟨_, rfl, a, _, 2, _, rfl, rfl, SqT.of h1, rfl, b, rfl, ⟨_, SqT.of h2⟩, fun D hD => ?_⟩
    refine lc_mapT (T := T) (K := K) (a := b) (xs := vs) (fun H i y => ∃ k, ns[i]? = some k ∧ y = .str (nmw bs s k)) hT hD (SqT.of h2) (szl (by omega)) (fun H H' i y g z => z)
      (fun H i y acc e z l => z) (fun i x H' Q' Pz hx g hq => ?_) fun H' ys g hy hlen hr' => ?_
    · obtain ⟨k, e, p⟩ := h3.get hx
      refine ⟨rfl, yesT ?_⟩
      refine ⟨_, rfl, _, rfl, _, rfl, .name k, x, s, lb, bs, B, rfl, p.mono g, g.lst hl, g.tab, ⟨sh.w, trivial, fun y hy => ?_, fun y hy => (by cases hy), by unfold bm2; show s + 2 * 1 + bs.length ≤ 700; omega, by show 1 ≤ 200000; decide⟩, by show 1 ≤ n; omega, fun H2 g2 => ?_⟩
      · have e2 : k = y + 0 := hy
        have := hk k (List.mem_of_getElem? e)
        omega
      · refine hq _ _ g2 ⟨k, e, ?_⟩
        rw [show pcs bs s (.name k) = [nmw bs s k] from rfl, cat_one]
    · have ey : ys = (ns.map fun k => nmw bs s k).map V.str := List.ext_getElem? fun i => by
        cases e : ys[i]? with
        | none =>
          have := List.getElem?_eq_none_iff.mp e
          rw [List.getElem?_eq_none_iff.mpr (by rw [List.length_map, List.length_map]; omega)]
        | some y =>
          obtain ⟨k, h6, h7⟩ := hr' i y e
          rw [List.getElem?_map, List.getElem?_map, h6, h7] <;> rfl
      have hw : ∀ x ∈ ns.map (fun k => nmw bs s k), Wd x := fun x hx => by
        obtain ⟨k, h6, rfl⟩ := List.mem_map.mp hx
        exact (rdn_fws (hk k h6) hs).wd
      rw [ey] at hy
      refine ⟨_, rfl, szl (by decide), fun l hl2 => ?_⟩
      have g2 := Gr.new (X := []) (o := .lst []) g hl2
      have hy2 := (Gr.new0 (X := []) (o := .lst []) g.tab hl2).lst hy
      refine ⟨_, _, .lst (SqL.of hy2) (dp_strs _), .lst (SqL.of upd_same) .nil, strs_ok fun x hx => (hw x hx).ok, rfl, ?_, _, rfl, ?_⟩
      · have := strs_depth (ns.map fun k => nmw bs s k)
        simp only [PyData.depth]; omega
      rw [eq_none]
      refine ite2 (fun hc => ?_) (fun hc => ?_)
      · have hc := of_decide_eq_true hc
        have hn0 : ns = [] := List.map_eq_nil_iff.mp hc
        subst hn0
        refine ⟨_, rfl, a, _, 1, _, rfl, rfl, SqT.of (g2.tup _ _ h1), rfl, _, _, rfl, rfl, szl (by have := hu.few; have h8 : ("?" : Str).length = 1 := (by decide +kernel); omega), ?_⟩
        have := q _ g2
        have e8 : cat (pcs bs s (.hole u [])) = "?" ++ u := by
          show mQ ++ cat [u] = _
          rw [cat_one]
        rw [e8] at this
        exact this
      · have hc := of_decide_eq_false (Bool.eq_false_iff.mpr hc)
        have hn0 : ns ≠ [] := fun z => hc (by rw [z] <;> rfl)
        have hlp := sh.len
        have e8 : cat (pcs bs s (.hole u ns)) = "?" ++ u ++ "[" ++ Txt.join ", " (ns.map fun k => nmw bs s k) ++ "]" := by
          show cat (wrp mL mR [mQ, u] (ns.map fun k => [nmw bs s k])) = _
          rw [cat_wrp _ _ _ (fun z => hn0 (List.map_eq_nil_iff.mp z))]
          have e1 : (ns.map fun k => [nmw bs s k]).map cat = ns.map fun k => nmw bs s k := by
            rw [List.map_map]
            exact List.map_congr_left fun k _ => cat_one _
          have e2 : cat [mQ, u] = "?" ++ u := by
            show mQ ++ cat [u] = _
            rw [cat_one]
          rw [e1, e2]
        rw [e8, len_app, len_app, len_app, len_app] at hlp
        refine ⟨_, rfl, a, _, 1, _, rfl, rfl, SqT.of (g2.tup _ _ h1), rfl, _, _, rfl, rfl, szl (by omega), _, _, rfl, rfl, szl (by rw [len_app]; omega), ?_⟩
        refine ⟨⟨_, rfl⟩, _, rfl, ", ", D, _, rfl, rfl, .inl (SqL.of hy2), ?_, _, _, rfl, rfl, szl (by rw [len_app, len_app]; omega), _, _, rfl, rfl, szl (by rw [len_app, len_app, len_app]; omega), ?_⟩
        · have l6 := sum_le (c := 8) (l := (ns.map fun k => nmw bs s k).map (·.length)) fun x hx => (by
            obtain ⟨u, hu, rfl⟩ := List.mem_map.mp hx
            exact (hw u hu).few)
          rw [List.length_map, List.length_map] at l6
          have l7 : (", " : Str).length = 2 := by decide +kernel
          rw [List.length_map, l7]; omega
        · have := q _ g2
          rw [e8] at this
          exact this
  | sign u ps =>
    obtain ⟨a, b, vs, rfl, h1, h2, h3⟩ := ht
    have h4 := atL_ps.mp h3
    have h5 := h4.len
    have h6 := tsL_len ps
    have hnd := sh.n
    rw [nd_sign] at hnd
    rw [ht_sign] at hn
    refine ⟨_, rfl, a, _, 0, _, rfl, rfl, SqT.of h1, rfl, rfl, _, rfl, iff' eSN ?_⟩
    refine ⟨_, rfl, a, _, 0, _, rfl, rfl, SqT.of h1, rfl, rfl, _, rfl, iff' eSH ?_⟩
    refine ⟨_, rfl, a, _, 2, _, rfl, rfl, SqT.of h1, rfl, b, rfl, ⟨_, SqT.of h2⟩, fun D hD => ?_⟩
    refine lc_mapT (T := T) (K := K) (a := b) (xs := vs) (fun H i y => ∃ z, (tsL ps)[i]? = some z ∧ y = .str (cat (bnd bs s z.1 ++ pcs bs (s + z.1) z.2))) hT hD (SqT.of h2) (szl (by omega)) (fun H H' i y g z => z)
      (fun H i y acc e z l => z) (fun i x H' Q' Pz hx g hq => ?_) fun H' ys g hy hlen hr' => ?_
    · obtain ⟨z, e, p⟩ := h4.get hx
      obtain ⟨hh, _⟩ := htL_get e
      obtain ⟨s1, s2⟩ := sh.part (List.mem_of_getElem? e)
      refine ⟨rfl, yesT ?_⟩
      exact ⟨_, rfl, _, rfl, _, rfl, z, x, s, lb, bs, B, rfl, p.mono g, g.lst hl, g.tab, s1, s2, by omega, fun H2 g2 => hq _ _ g2 ⟨z, e, rfl⟩⟩
    · have ey : ys = ((pcsL bs s ps).map cat).map V.str := List.ext_getElem? fun i => by
        rw [pcsL_map]
        cases e : ys[i]? with
        | none =>
          have := List.getElem?_eq_none_iff.mp e
          rw [List.getElem?_eq_none_iff.mpr (by rw [List.length_map, List.length_map, List.length_map]; omega)]
        | some y =>
          obtain ⟨k, h6, h7⟩ := hr' i y e
          rw [List.getElem?_map, List.getElem?_map, List.getElem?_map, h6, h7] <;> rfl
      obtain ⟨_, hgd⟩ := rd_pcs sh.w s _ sh.g sh.c sh.p sh.b
      have hw : ∀ x ∈ (pcsL bs s ps).map cat, wOk x := fun x hx => by
        rw [pcsL_map, List.map_map] at hx
        obtain ⟨z, hz, rfl⟩ := List.mem_map.mp hx
        obtain ⟨s1, s2⟩ := sh.part hz
        obtain ⟨_, b2, g2⟩ := rd_pcs s1.w _ _ s1.g s1.c s1.p s1.b
        have hb3 := s1.b
        unfold bm2 at hb3
        exact wOk_of ((bnd_gd (by omega)).app g2).okc
      rw [ey] at hy
      refine ⟨_, rfl, szl (by decide), fun l hl2 => ?_⟩
      have g2 := Gr.new (X := []) (o := .lst []) g hl2
      have hy2 := (Gr.new0 (X := []) (o := .lst []) g.tab hl2).lst hy
      refine ⟨_, _, .lst (SqL.of hy2) (dp_strs _), .lst (SqL.of upd_same) .nil, strs_ok hw, rfl, ?_, _, rfl, ?_⟩
      · have := strs_depth ((pcsL bs s ps).map cat)
        simp only [PyData.depth]; omega
      rw [eq_none]
      refine ite2 (fun hc => ?_) (fun hc => ?_)
      · have hc := of_decide_eq_true hc
        have hn0 : pcsL bs s ps = [] := List.map_eq_nil_iff.mp hc
        refine ⟨_, rfl, a, _, 1, _, rfl, rfl, SqT.of (g2.tup _ _ h1), rfl, ?_⟩
        have := q _ g2
        have e8 : cat (pcs bs s (.sign u ps)) = u := by
          show cat (wrp mO mC [u] (pcsL bs s ps)) = u
          rw [hn0]
          exact cat_one u
        rw [e8] at this
        exact this
      · have hc := of_decide_eq_false (Bool.eq_false_iff.mpr hc)
        have hn0 : pcsL bs s ps ≠ [] := fun z => hc (by rw [z] <;> rfl)
        have hlp := sh.len
        have e8 : cat (pcs bs s (.sign u ps)) = u ++ "(" ++ Txt.join ", " ((pcsL bs s ps).map cat) ++ ")" := by
          show cat (wrp mO mC [u] (pcsL bs s ps)) = _
          rw [cat_wrp _ _ _ hn0, cat_one]
        rw [e8, len_app, len_app, len_app] at hlp
        refine ⟨_, rfl, a, _, 1, _, rfl, rfl, SqT.of (g2.tup _ _ h1), rfl, _, _, rfl, rfl, szl (by omega), ?_⟩
        refine ⟨⟨_, rfl⟩, _, rfl, ", ", D, _, rfl, rfl, .inl (SqL.of hy2), ?_, _, _, rfl, rfl, szl (by rw [len_app]; omega), _, _, rfl, rfl, szl (by rw [len_app, len_app]; omega), ?_⟩
        · have hb3 : s + 2 * HF.htL ps + bs.length + 2 ≤ 700 := by rw [ht_sign] at hb; omega
          obtain ⟨l6, _⟩ := len_pcsL (bs := bs) sh.w s ps sh.g.2.2 sh.g.2.1.2 (clsL_of sh.c) hb3
          have l7 : (", " : Str).length = 2 := by decide +kernel
          have l8 : (((pcsL bs s ps).map cat).map (·.length)).sum = sumL (pcsL bs s ps) := by rw [List.map_map] <;> rfl
          rw [List.length_map, l7, l8]
          have l9 : HF.ndL ps ≤ 200000 := by omega
          have l10 : 40 * HF.ndL ps ≤ 40 * 200000 := Nat.mul_le_mul_left _ l9
          exact Nat.le_trans l6 (Nat.le_trans l10 (by decide))
        · have := q _ g2
          rw [e8] at this
          exact this
theorem ok_shin (S : Cn K mg base) (T : List NTab) (hW : Has P w K mg base "first_words" 2 ["many", "barred"] [] (spFirst T)) : ∀ n, Has P w K mg base "shown_in" (2 * n + 2) ["term", "scope", "barred"] [] (spShIn T n)
  | 0 => by
    refine Has.imp (Has.mono (has_zero (d := d_shown_in) S 39 25 (ps := ["term", "scope", "barred"]) (sp := fun _ _ _ _ => False) rfl rfl rfl rfl rfl (fun _ _ _ _ _ _ us hl => match us, hl with | [_, _, _], _ => rfl) (fun vs H Q E h => h)) (Nat.zero_le _)) fun vs H Q E h => ?_
    obtain ⟨t, v, s, lb, bs, B, _, _, _, _, _, hn, _⟩ := h
    have := HF.ht_pos t
    omega
  | n + 1 => ok_shin1 S T n hW (ok_shin S T hW n) (ok_shpt S T n hW (ok_shin S T hW n))
def spShown (T : List NTab) (n : Nat) : Sp := fun vs H Q _ => ∃ (t : Tm) (v : V) (B : List Str), vs = [v, .int 0] ∧ At H t v ∧ TabsN T H ∧ (∀ u ∈ B, Wd u) ∧ B.length ≤ 60 ∧ gt B t ∧ HF.cls 0 t ∧ HF.nd t ≤ 200000 ∧ HF.ht t ≤ n ∧
  ∀ H' bs, Gr T [] H H' → Sh bs B 0 t → Q (.str (cat (pcs bs 0 t))) H'
theorem sc_shown : FnScope ["term", "scope"] ["term", "scope"] (defScope s_shown) := ⟨rfl, rfl, rfl, by decide +kernel, rfl, by decide +kernel, by decide +kernel⟩
theorem ok_shown (S : Cn K mg base) (T : List NTab) (n : Nat) (hn2 : n ≤ 300) (hI : Has P w K mg base "shown_in" (2 * n + 2) ["term", "scope", "barred"] [] (spShIn T n)) (hS : Has P w K mg base "plain_signs" (n + 1) ["term"] [] (spSigns T n)) :
    Has P w K mg base "shown" (2 * n + 3) ["term", "scope"] [] (spShown T n) ∧ Has P w K mg base "shown" (2 * n + 3) ["term", "scope"] [.int 0] (spShown T n) := by
  refine hasD (d := d_shown) S 40 26 rfl rfl rfl rfl rfl (fun _ _ _ _ _ _ _ us its hl hi => match us, its, hl, hi with | [_, _], [_], _, _ => ⟨_, rfl, rfl⟩) (fun _ _ _ _ _ _ _ us its hl hi => match us, its, hl, hi with | [_], [_], _, _ => ⟨_, rfl, rfl⟩) (by decide) (fun fd F => F.ok sc_shown (fun vs H Q E h => ?_) fun cdv A outer s H vs Q E hr h => ?_)
  · obtain ⟨t, v, B, rfl, _⟩ := h
    rfl
  refine ⟨_, PSs.nox (pss_one (ps_ret (pe_hs hI hr (by omega) rfl (pa_cons (pv 0) (pa_cons (pv 1) (pa_cons (pe_hs hS hr (by omega) rfl (pa_cons (pv 0) pa_nil)) pa_nil)))))), ?_⟩
  obtain ⟨t, v, B, rfl, ht, hT, hB, hB2, hg, hc, hnd, hh, q⟩ := h
  refine ⟨_, rfl, _, rfl, _, rfl, t, v, B, rfl, ht, hT, by omega, hh, hg, hB2, fun u hu => (hB u hu).ok, fun p H1 bs g1 hp ep hnd2 hm => ?_⟩
  have hlen : bs.length ≤ 60 := by
    have := nodup_len bs B hnd2 fun u hu => psg_B n hh hg u ((hm u).mp hu)
    omega
  have sh : Sh bs B 0 t := ⟨hB, hg, hc, fun u hu => (hm u).mpr hu, by unfold bm2; omega, hnd⟩
  exact ⟨t, v, 0, p, bs, B, rfl, ht.mono g1, ep, g1.tab, sh, hh, fun H2 g2 => q H2 bs (g1.trans g2) sh⟩
end

end HW
end
section
set_option Elab.async false
set_option linter.all false
set_option maxRecDepth 100000
set_option maxHeartbeats 4000000
namespace HW
open PySem PySem.Spec PyProof.Rows L2 NdefX LamX
/-! ### words_of -/
open TL
theorem V_str_inj {a b : Str} : (V.str a = V.str b) ↔ a = b := ⟨fun h => V.str.inj h, fun h => by rw [h]⟩
theorem fold_snoc (l : List Nat) (c : Nat) (st : List Str × Str) : (l ++ [c]).foldl lxs st = lxs (l.foldl lxs st) c := by rw [List.foldl_append] <;> rfl
theorem lxs_len (st : List Str × Str) (c : Nat) : (lxs st c).1.length ≤ st.1.length + 2 ∧ (lxs st c).2.length ≤ st.2.length + 1 := by
  unfold lxs
  split
  · refine ⟨by show st.1.length ≤ _; omega, ?_⟩
    show (st.2 ++ ⟨#[c]⟩ : Str).length ≤ _
    rw [len_app]
    exact Nat.le_refl _
  · refine ⟨?_, by show ("" : Str).length ≤ _; have : ("" : Str).length = 0 := (by decide +kernel); omega⟩
    show (st.1 ++ _ ++ _).length ≤ _
    rw [List.length_append, List.length_append]
    split <;> split <;> simp
theorem fold_len : ∀ (l : List Nat) (st : List Str × Str), (l.foldl lxs st).1.length ≤ st.1.length + 2 * l.length ∧ (l.foldl lxs st).2.length ≤ st.2.length + l.length
  | [], st => ⟨Nat.le_refl _, Nat.le_refl _⟩
  | c :: r, st => by
    have h1 := lxs_len st c
    have h2 := fold_len r (lxs st c)
    rw [List.foldl_cons, List.length_cons]
    omega
section
variable {P : Program} {w : World} {K : PySem.W.Frag} {mg : Str → Option Value} {base : Heap}
def spWords (T : List NTab) : Sp := fun vs H Q _ => ∃ z : Str, vs = [.str z] ∧ TabsN T H ∧ (∀ c ∈ tl z, okc c) ∧ (∀ u ∈ lexs z, u.length ≤ 8) ∧ z.length ≤ 4000000 ∧
  ∀ H' p, Gr T [] H H' → H p = Option.none → H' p = some (.lst ((lexs z).map V.str)) → Q (.ref p) H'
theorem sc_words_of : FnScope ["text", "found", "run", "sign", "word"] ["text"] (defScope s_words_of) := ⟨rfl, rfl, rfl, by decide +kernel, rfl, by decide +kernel, by decide +kernel⟩
theorem ok_words (S : Cn K mg base) (T : List NTab) : Has P w K mg base "words_of" 1 ["text"] [] (spWords T) := by
  refine has_of (d := d_words_of) S 41 27 rfl rfl rfl rfl rfl sc_words_of (fun vs H Q E h => ?_) (fun _ _ _ _ _ _ us hl => match us, hl with | [_], _ => rfl) (fun f cdv A outer s H vs Q E hr h => ?_)
  · obtain ⟨z, rfl, _⟩ := h
    rfl
  refine ⟨_, (pss_cons (ps_if (pt_not (pt_val (pe_callB RZ.call_isTy (by rfl) (S.free 59) (by decide +kernel) (pa_cons (pv 0) (pa_cons (pe_bltn (v := .ty "str") (by rfl) (S.free 74) (by decide +kernel) rfl) pa_nil))))) (pss_one ps_never) pss_nil) (pss_cons (ps_set (i := 1) sc_words_of.nd rfl (Or.inl rfl) (pe_lst pa_nil)) (pss_cons (ps_set (i := 2) sc_words_of.nd rfl (Or.inl rfl) pe_str) (pss_cons (ps_for PassesOwn.never rfl (pi_str (pe_op op_add_str (pv 0) pe_str)) (pg_name (i := 3) sc_words_of.nd rfl (Or.inl rfl)) (pss_cons (ps_if (pt_cmpR op_in_sign (pv 3) (C8.pe_gc (v := .str "abcdefghijklmnopqrstuvwxyz") rfl (S.gstr 79)) (by rfl)) (pss_cons (ps_set (i := 2) sc_words_of.nd rfl (Or.inl rfl) (pe_op op_add_str (pv 2) (pv 3))) (pss_one ps_continue)) pss_nil) (pss_cons (ps_if (ptNe (pv 2)) (pss_one (ps_expr (pe_bm PySem.F.plainAttrs_list PySem.F.slot_list_append PySem.F.type_list_append mt_append (pv 1) (pa_cons (pv 2) pa_nil)))) pss_nil) (pss_cons (ps_set (i := 2) sc_words_of.nd rfl (Or.inl rfl) pe_str) (pss_one (ps_if (pt_cmpR op_in_sign (pv 3) (C8.pe_gc (v := .str "()[],.?") rfl (S.gstr 80)) (by rfl)) (pss_one (ps_expr (pe_bm PySem.F.plainAttrs_list PySem.F.slot_list_append PySem.F.type_list_append mt_append (pv 1) (pa_cons (pv 3) pa_nil)))) (pss_one (ps_if (ptNe (pv 3)) (pss_one ps_never) pss_nil)))))))) (pss_cons (ps_if (pt_val (pe_callB (cr_any rfl) (by rfl) (S.free 70) (by decide +kernel) (pa_cons (pe_lc (own := [("word", 4)]) (g := (gName 4)) (by rfl) sc_words_of.nd (pi_list (pv 1)) (blkOk_by (N := ["text", "found", "run", "sign", "word"]) (sc := defScope s_words_of) (by decide +kernel)) (fun _ _ _ _ _ => (pg_name (i := 4) sc_words_of.nd rfl (Or.inl rfl))) (fun _ _ _ _ _ => pts_nil) (fun _ _ _ _ _ => (pe_cmpR op_gt (pe_callB call_len_str (by rfl) (S.free 58) (by decide +kernel) (pa_cons (pv 4) pa_nil)) (C8.pe_gc (v := .int 8) rfl (S.gint 82)) (nomark _)))) pa_nil))) (pss_one ps_never) pss_nil) (pss_one (ps_ret (pv 1)))))))), ?_⟩
  obtain ⟨z, rfl, hT, hok, hw, hz, q⟩ := h
  refine ⟨_, rfl, _, _, rfl, .str z, _, rfl, iteF ?_⟩
  refine ⟨szl (by decide), fun p hp => ?_⟩
  have g0 := Gr.new0 (X := []) (o := .lst []) hT hp
  have l1 : (" " : Str).length = 1 := by decide +kernel
  refine ⟨_, rfl, _, _, rfl, rfl, szl (by rw [l1]; omega), _, rfl, ?_⟩
  have etl : tl (z ++ " ") = tl z ++ [32] := by rw [tl_append]; congr 1
  have hsz : (z ++ " " : Str).cps.size = (tl z ++ [32]).length := by rw [← etl, Array.length_toList]
  refine for_it walk_str (fun i σ H' => ∃ (f : List Str) (run : Str) (o1 o2 : Option V), (f, run) = ((tl z ++ [32]).take i).foldl lxs ([], ("" : Str)) ∧ σ = [some (.str z), some (.ref p), some (.str run), o1, o2] ∧ Gr T [] H H' ∧ H' p = some (.lst (f.map V.str)))
    ⟨[], "", _, _, rfl, rfl, g0, upd_same⟩ (fun _ _ _ _ _ => True.intro) ?_ ?_
  · rintro i x σ H1 H2 hi ⟨f, run, o1, o2, efr, rfl, g, ep⟩ ⟨rfl, c, ec, rfl⟩
    rw [hsz] at hi
    have ec2 : (tl z ++ [32])[i]? = some c := by rw [← etl, ← ec, Array.getElem?_toList]
    have hcok : okc c := by
      have := List.mem_of_getElem? ec2
      rcases List.mem_append.mp this with q | q
      · exact hok c q
      · rw [List.mem_singleton.mp q]; exact .inr (.inr rfl)
    have hl := fold_len ((tl z ++ [32]).take i) ([], ("" : Str))
    rw [← efr] at hl
    have h0 : ("" : Str).length = 0 := by decide +kernel
    have hzl := len_tl z
    rw [List.length_take] at hl
    simp only [List.length_nil, h0] at hl
    rw [List.length_append, List.length_singleton] at hi
    have hi' : i ≤ 4000000 := by omega
    have estep : ((tl z ++ [32]).take (i + 1)).foldl lxs ([], ("" : Str)) = lxs (f, run) c := by rw [take_snoc ec2, fold_snoc, ← efr]
    refine ⟨_, rfl, c, _, rfl, rfl, _, rfl, ite2 (fun hc => ?_) (fun hc => ?_)⟩
    · have hc : isL c = true := hc
      refine ⟨_, rfl, _, rfl, _, _, rfl, rfl, szl (by have : (⟨#[c]⟩ : Str).length = 1 := rfl; omega), ?_⟩
      refine ⟨f, _, _, _, ?_, rfl, g, ep⟩
      rw [estep]
      unfold lxs
      rw [if_pos hc]
    · have hc : ¬ isL c = true := hc
      have hm : isM c = true ∨ c = 32 := hcok.resolve_left hc
      have estep2 : lxs (f, run) c = (f ++ (if run = "" then [] else [run]) ++ (if isM c = true then [⟨#[c]⟩] else []), ("" : Str)) := by
        unfold lxs; rw [if_neg hc]
      refine ⟨_, rfl, rfl, _, rfl, ite2 (fun hr0 => ?_) (fun hr0 => ?_)⟩
      · have hr0 : run ≠ "" := fun e => by rw [e] at hr0; exact absurd hr0 (by decide +kernel)
        refine ⟨_, rfl, .inl ⟨rfl, _, SqL.of ep⟩, _, rfl, p, _, _, rfl, rfl, ep, szl' (by rw [List.length_map]; omega), ?_⟩
        have g := g.mutL (o := .lst (f.map V.str ++ [.str run])) (.inl hp) ep
        have ep : (upd H2 p (.lst (f.map V.str ++ [.str run]))) p = some (.lst ((f ++ [run]).map V.str)) := by rw [upd_same, List.map_append] <;> rfl
        have hfl : (f ++ [run]).length ≤ 9000000 := by rw [List.length_append, List.length_singleton]; omega
        generalize upd H2 p (.lst (f.map V.str ++ [.str run])) = H2 at g ep ⊢
        refine ⟨_, rfl, c, _, rfl, rfl, _, rfl, ite2 (fun hm2 => ?_) (fun hm2 => ?_)⟩
        · have hm2 : isM c = true := hm2
          refine ⟨_, rfl, .inl ⟨rfl, _, SqL.of ep⟩, _, rfl, p, _, _, rfl, rfl, ep, szl' (by rw [List.length_map]; omega), ?_⟩
          refine ⟨(f ++ [run]) ++ [⟨#[c]⟩], "", _, _, ?_, rfl, g.mutL (.inl hp) ep, ?_⟩
          · rw [estep, estep2, if_neg hr0, if_pos hm2]
          · rw [upd_same]; simp only [List.map_append]; rfl
        · have hm2 : ¬ isM c = true := hm2
          have h32 : c = 32 := hm.resolve_left hm2
          refine ⟨_, rfl, rfl, _, rfl, iff' ?_ ?_⟩
          · subst h32; decide +kernel
          · refine ⟨(f ++ [run]), "", _, _, ?_, rfl, g, ep⟩
            rw [estep, estep2, if_neg hr0, if_neg hm2, List.append_nil]
      · have hr0 : run = "" := Classical.byContradiction fun e => hr0 (by show (!decide (V.str run = V.str "")) = true; rw [decide_eq_false (fun z => e (V.str.inj z))]; rfl)
        have hfl : f.length ≤ 9000000 := by omega
        refine ⟨_, rfl, c, _, rfl, rfl, _, rfl, ite2 (fun hm2 => ?_) (fun hm2 => ?_)⟩
        · have hm2 : isM c = true := hm2
          refine ⟨_, rfl, .inl ⟨rfl, _, SqL.of ep⟩, _, rfl, p, _, _, rfl, rfl, ep, szl' (by rw [List.length_map]; omega), ?_⟩
          refine ⟨f ++ [⟨#[c]⟩], "", _, _, ?_, rfl, g.mutL (.inl hp) ep, ?_⟩
          · rw [estep, estep2, if_pos hr0, List.append_nil, if_pos hm2]
          · rw [upd_same]; simp only [List.map_append]; rfl
        · have hm2 : ¬ isM c = true := hm2
          have h32 : c = 32 := hm.resolve_left hm2
          refine ⟨_, rfl, rfl, _, rfl, iff' ?_ ?_⟩
          · subst h32; decide +kernel
          · refine ⟨f, "", _, _, ?_, rfl, g, ep⟩
            rw [estep, estep2, if_pos hr0, List.append_nil, if_neg hm2, List.append_nil]
  · rintro σ H1 ⟨f, run, o1, o2, efr, rfl, g, ep⟩
    have efull : (tl z ++ [32]).take ((z ++ " " : Str).cps.size) = tl z ++ [32] := by rw [hsz, List.take_length]
    rw [efull] at efr
    have elx : lexs z = f := by unfold lexs; rw [← efr]
    refine ⟨_, rfl, p, rfl, ⟨_, SqL.of ep⟩, fun D hD => ?_⟩
    have hzl := len_tl z
    have hl := fold_len (tl z ++ [32]) ([], ("" : Str))
    rw [← efr, List.length_append] at hl
    simp only [List.length_nil, List.length_singleton] at hl
    refine lc_mapL (T := T) (K := K) (a := p) (xs := f.map V.str) (fun H i y => y = .bl false) g.tab hD (SqL.of ep) (szl (by rw [List.length_map]; omega)) (fun H H' i y g z => z)
      (fun H i y acc e z l => z) (fun i x H' Q' Pz hx g hq => ?_) fun H' ys g2 hy hlen hr' => ?_
    · rw [List.getElem?_map] at hx
      cases e : f[i]? with
      | none => rw [e] at hx; cases hx
      | some u =>
        rw [e] at hx
        cases hx
        have hu := hw u (by rw [elx]; exact List.mem_of_getElem? e)
        refine ⟨rfl, yesT ⟨_, rfl, _, rfl, szl (by omega), _, _, rfl, rfl, hq _ _ (Gr.refl g.tab) ?_⟩⟩
        show V.bl (decide _) = _
        rw [decide_eq_false]
        omega
    · have ey : ys = (ys.map fun _ => false).map V.bl := List.ext_getElem? fun i => by
        rw [List.getElem?_map, List.getElem?_map]
        cases e : ys[i]? with
        | none => rfl
        | some y => rw [hr' i y e] <;> rfl
      rw [ey] at hy
      refine ⟨D, _, rfl, SqL.of hy, _, rfl, ?_⟩
      have e0 : (ys.map fun _ => false).any id = false := by
        rw [List.any_map]
        exact List.any_eq_false.mpr fun _ _ => by simp
      rw [e0]
      refine iteF ⟨_, rfl, ?_⟩
      have := q H' p (g.trans g2) hp
      rw [elx] at this
      exact this (g2.lst ep)
end

end HW
end
section
set_option Elab.async false
set_option linter.all false
set_option maxRecDepth 100000
set_option maxHeartbeats 4000000
namespace HW
open PySem PySem.Spec PyProof.Rows L2 HT
/-! ### t[::-1], t a tuple -/
section
variable {prog : Program} {w : World} {A : Around} {E : Value → Shared → Prop} {s : Shared}
theorem back_applied {sl : Addr} {vs : Value} {n : Nat} {Q : Int × Int × Nat → Shared → Prop} (hs : s.heap.IsSliceOf sl .none .none vs) (ps : IsPart vs (some (-1)))
    (h : Q ((n : Int) - 1, -1, n) s) : wpAny (model prog w) A (Builtin.Slice.sliceApplied (.ref sl) (pure (n : Int))) Q E s := by
  obtain ⟨os, hos, hcs, hds⟩ := id hs
  unfold Builtin.Slice.sliceApplied Builtin.Slice.sliceFields
  refine wpAny_bind (wpAny_bind (wpAny_field hos hds (x := .none) rfl (wpAny_bind (wpAny_field hos hds (x := .none) rfl (wpAny_bind (wpAny_field hos hds (x := vs) rfl (wpAny_pure ?_)))))))
  refine wpAny_bind (slicePart_ ps ?_)
  show wpAny _ _ (if ((-1 : Int) == 0) = true then _ else _) _ _ s
  rw [if_neg (by decide)]
  refine wpAny_bind (slicePart_none (wpAny_bind (slicePart_none (wpAny_bind (wpAny_pure ?_)))))
  have e1 : Builtin.Slice.sliceAdjust none none (-1) (n : Int) = ((n : Int) - 1, -1) := by
    unfold Builtin.Slice.sliceAdjust
    simp
  have e2 : Builtin.Slice.slicePlaces ((n : Int) - 1) (-1) (-1) = n := by
    unfold Builtin.Slice.slicePlaces
    simp
    omega
  show wpAny _ _ (match Builtin.Slice.sliceAdjust none none (-1) (n : Int) with | (lo, hi) => pure (lo, (-1 : Int), Builtin.Slice.slicePlaces lo hi (-1))) _ _ s
  rw [e1]
  show wpAny _ _ (pure ((n : Int) - 1, (-1 : Int), Builtin.Slice.slicePlaces ((n : Int) - 1) (-1) (-1))) _ _ s
  rw [e2]
  exact wpAny_pure h
theorem fm_congr {α : Type} {f g : Nat → Option α} : ∀ {l : List Nat}, (∀ x ∈ l, f x = g x) → l.filterMap f = l.filterMap g
  | [], _ => rfl
  | x :: r, h => by
    rw [List.filterMap_cons, List.filterMap_cons, h x List.mem_cons_self, fm_congr (l := r) fun y hy => h y (List.mem_cons_of_mem _ hy)]
theorem back_pick (xs : Array Value) : ((List.range xs.size).filterMap fun (k : Nat) => xs[((xs.size : Int) - 1 + (k : Int) * -1).toNat]?).toArray = xs.toList.reverse.toArray := by
  congr 1
  have e : List.filterMap (fun (k : Nat) => xs[((xs.size : Int) - 1 + (k : Int) * -1).toNat]?) (List.range xs.size) = List.filterMap (fun k => xs.toList.reverse[k]?) (List.range xs.size) := by
    refine fm_congr fun k hk => ?_
    have hk := List.mem_range.mp hk
    have e0 : ((xs.size : Int) - 1 + (k : Int) * -1).toNat = xs.size - 1 - k := by omega
    rw [e0, List.getElem?_reverse (by rw [Array.length_toList]; exact hk), Array.length_toList, Array.getElem?_toList]
  rw [e]
  have h2 : ∀ (l : List Value) (n : Nat), n ≤ l.length → List.filterMap (fun k => l[k]?) (List.range n) = l.take n := fun l n => by
    induction n with
    | zero => intro _; rfl
    | succ n ih =>
      intro hn
      rw [List.range_succ, List.filterMap_append, ih (by omega), List.filterMap_cons, List.getElem?_eq_getElem (by omega)]
      simp only [List.filterMap_nil]
      rw [List.take_add_one, List.getElem?_eq_getElem (by omega)]
      rfl
  rw [h2 _ _ (by rw [List.length_reverse, Array.length_toList]; exact Nat.le_refl _), List.take_of_length_le (by rw [List.length_reverse, Array.length_toList]; exact Nat.le_refl _)]
theorem getItem_tup_back {t sl : Addr} {items : Array Value} {vs : Value} {Q : Value → Shared → Prop} (ht : IsTup s.heap t items) (hs : s.heap.IsSliceOf sl .none .none vs) (ps : IsPart vs (some (-1)))
    (h : Q (.ref s.heap.objs.size) { s with heap := s.heap.push { cls := .type "tuple", data := .seq items.toList.reverse.toArray } })
    (hsz : items.size ≤ sizeLine) : wpAny (model prog w) A (getItem (.ref t) (.ref sl)) Q E s := by
  have htake : sizeOk (.seq items.toList.reverse.toArray) := by
    show items.toList.reverse.toArray.size ≤ sizeLine
    rw [List.size_toArray, List.length_reverse, Array.length_toList]
    exact hsz
  obtain ⟨os, hos, hcs, hds⟩ := id hs
  have hTs : s.TypeIs (.ref sl) "slice" := ⟨os, hos, hcs⟩
  unfold getItem
  try with_reducible refine wpAny_holding ?_
  first | refine wpAny_bind (wpAny_pure ?_) | skip
  refine wpAny_bind (wpAny_sequenceKey ht.typeIs (by decide) ?_)
  refine wpAny_bind (wpAny_callSpecial?_slot (name := Str.ofString "__getitem__") ht.typeIs PyProof.Rows.slot_tuple_getitem
    (wpAny_call_entry PyProof.Rows.slot_tuple_getitem ht.typeIs entry_tuple_getitem ?_ (args_tuple_getitem _ _)))
  show wpAny _ _ (Builtin.Tuple.tupleItemsOf (.ref t) >>= _) _ _ s
  refine wpAny_bind (tupleItemsOf_ ht ?_)
  refine wpAny_bind (wpAny_typeOf hTs ?_)
  rw [if_pos (by decide)]
  refine wpAny_bind (back_applied hs ps ?_)
  have hno : ¬ ((((items.size : Int) - 1 == 0) && ((-1 : Int) == 1) && (items.size == items.size)) = true) := by
    intro q
    rw [Bool.and_eq_true, Bool.and_eq_true] at q
    exact absurd q.1.2 (by decide)
  show wpAny _ _ (if (((items.size : Int) - 1 == 0) && ((-1 : Int) == 1) && (items.size == items.size)) = true then _ else _) _ _ s
  rw [if_neg hno, back_pick]
  first
    | exact wpAny_bind (m := Builtin.Tuple.tupleExact _) (wpAny_newObj_type (wpAny_pure ⟨_, rfl, wpAny_pure h⟩) htake)
    | exact wpAny_bind (m := Builtin.Tuple.tupleExact _) (wpAny_newObj_type (wpAny_bind (wpAny_pure (wpAny_pure ⟨_, rfl, wpAny_pure h⟩))) htake)
    | exact wpAny_bind (wpAny_bind (m := Builtin.Tuple.tupleExact _) (wpAny_newObj_type (wpAny_pure (wpAny_pure ⟨_, rfl, wpAny_pure h⟩)) htake))
    | exact wpAny_bind (wpAny_bind (m := Builtin.Tuple.tupleExact _) (wpAny_newObj_type (wpAny_pure ⟨_, rfl, wpAny_pure h⟩) htake))
end
section
variable {X : Cx} {pins : List (Addr × Obj)} {σ : L2.St} {H : Hp} {s : Shared}
/-- t[::-1] gives a new tuple, by itself -/
theorem revT_run {e : Expr} {te : TE} {k : Nat} {p1 p2 p3 pos : Pos} {R : List V → Hp → Prop} {G : Value → Shared → Prop} (he : PE X e te) (I : Inv X pins σ H s) (h : te σ H fun x H1 => ∃ a xs, x = .ref a ∧ SqT X.K H1 a xs ∧ R xs H1)
    (hG : ∀ p H1 xs s1, R xs H1 → H1 p = none → Inv X pins σ (upd H1 p (.tup xs.reverse)) s1 → (∃ ob, s1.heap.get? p = some ob ∧ ob.dict = none) → s1.TypeIs (.ref p) "tuple" → G (.ref p) s1) :
    wpAny (model X.prog X.w) X.A (eval (.Subscript e (.Slice none none (some (.UnaryOp .USub (.Constant (.int 1) k p1) p2)) p3) pos) X.env) G X.xe s := by
  refine Subscript_ (thn (he.run pins s σ H _ I h) fun v s1 ⟨x, H1, I1, r1, q1⟩ => ?_)
  obtain ⟨a, xs, ex, hx, q⟩ := q1
  subst ex
  cases r1
  have hst : PO X (some (.UnaryOp .USub (.Constant (.int 1) k p1) p2)) (tPart (tUn (rU fun i => .int (-i)) (tC (.int 1)))) := po_some (pe_un un_neg pe_int)
  refine wpAny_Slice (thn (po_none.run pins s1 σ H1 (fun o H2 => o = none ∧ H2 = H1) I1 ⟨rfl, rfl⟩) fun vl s2 ⟨l, H2, I2, pl, el, e2⟩ => ?_)
  subst el e2
  refine thn (po_none.run pins s2 σ H2 (fun o H3 => o = none ∧ H3 = H2) I2 ⟨rfl, rfl⟩) fun vu s3 ⟨u, H3, I3, pu, eu, e3⟩ => ?_
  subst eu e3
  refine thn (hst.run pins s3 σ H3 (fun o H4 => o = some (-1) ∧ H4 = H3) I3 ⟨1, rfl, -1, rfl, rfl, rfl⟩) fun vs s4 ⟨o, H4, I4, ps, eo, e4⟩ => ?_
  subst eo e4
  cases pl
  cases pu
  have I5 : Inv X pins σ H4 { s4 with heap := s4.heap.push { cls := .type "slice", data := .fields #[.none, .none, vs] } } := I4.kept (t' := s4.toks) fun b ob q => Heap.get?_push_of_some _ q
  obtain ⟨its, r, ht, hz⟩ := I5.tuple hx
  have hlen := r.length
  show wpAny (model X.prog X.w) X.A (subscriptTail e (.Slice none none (some (.UnaryOp .USub (.Constant (.int 1) k p1) p2)) p3) (.ref a) (.ref s4.heap.objs.size)) G X.xe { s4 with heap := s4.heap.push { cls := .type "slice", data := .fields #[.none, .none, vs] } }
  refine tail_any (ops := [.ref a, .ref s4.heap.objs.size]) ht.typeIs (PyProof.Rows.slot_tuple_getitem.lookup) ?_ (by with_unfolding_all rfl)
  refine getItem_tup_back ht (Heap.IsSliceOf.new _ .none .none vs) ps ?_ (by rw [List.size_toArray]; omega)
  refine hG _ H4 xs _ q (I5.hok.fresh (Nat.le_refl _)) (I5.laid (t' := s4.toks) (o := .tup xs.reverse) (fun b ob q => Heap.get?_push_of_some _ q) (Nat.le_refl _) ?_) ⟨_, Heap.get?_push_size _ rfl, rfl⟩ ⟨_, Heap.get?_push_size _ rfl, rfl⟩
  exact ⟨by rw [List.length_reverse]; exact hz, _, r.reverse, IsTup.new _ _⟩
/-- t[::-1].index(x), of texts -/
def tBack (K : PySem.W.Frag) (te tx : TE) : TE := fun σ H Q => te σ H fun v H1 => ∃ a xs, v = .ref a ∧ SqT K H1 a xs ∧ ∀ p, H1 p = none → tx σ (upd H1 p (.tup xs.reverse)) fun y H2 => ∃ (ys : List Str) (z : Str) (j : Nat), y = .str z ∧ SqT K H2 p (ys.map V.str) ∧ ys[j]? = some z ∧ (∀ m, m < j → ys[m]? ≠ some z) ∧ Q (.int (j : Nat)) H2
theorem pe_back {e x : Expr} {te tx : TE} {k : Nat} {p1 p2 p3 pos apos cpos : Pos} (he : PE X e te) (hx : PE X x tx)
    (hbase : attributeBase (.Subscript e (.Slice none none (some (.UnaryOp .USub (.Constant (.int 1) k p1) p2)) p3) pos) "index" X.env (eval (.Subscript e (.Slice none none (some (.UnaryOp .USub (.Constant (.int 1) k p1) p2)) p3) pos) X.env) = eval (.Subscript e (.Slice none none (some (.UnaryOp .USub (.Constant (.int 1) k p1) p2)) p3) pos) X.env := by rfl)
    (hfew : ((backTo cpos (starEach [x] X.env)).all (fun x => !x.1) && (backToKw cpos (keywordEach [] X.env)).all (fun x => x.1.isSome)
      && decide (([x] : List Expr).length + ([] : List Keyword).length + (if ([] : List Keyword).isEmpty then 0 else 1) < 30)) = true := by rfl)
    (hline : (apos.endLine == cpos.line) = true := by rfl) (hs : starEach [x] X.env = (false, eval x X.env) :: starEach [] X.env := by rfl) (hplain : (backTo cpos (starEach [] X.env)).any (·.1) = false := by rfl) :
    PE X (.Call (.Attribute (.Subscript e (.Slice none none (some (.UnaryOp .USub (.Constant (.int 1) k p1) p2)) p3) pos) "index" apos) [x] [] cpos) (tBack X.K te tx) := by
  refine ⟨fun pins s σ H Q I h => ?_⟩
  refine wpAny_Call_method_late hbase hfew hline rfl (revT_run he I h fun p H1 xs s1 q np I1 hd ty => ?_)
  refine ⟨"tuple", "tuple.index", PySem.F.plainAttrs_tuple, PySem.F.slot_tuple_index, PySem.F.type_tuple_index, ty, fun a ea => by cases ea; exact hd, ?_⟩
  have hA := (pa_cons hx pa_nil hs).run cpos pins s1 σ _ (fun vs H2 => match vs with | [y] => ∃ (ys : List Str) (z : Str) (j : Nat), y = .str z ∧ SqT X.K H2 p (ys.map V.str) ∧ ys[j]? = some z ∧ (∀ m, m < j → ys[m]? ≠ some z) ∧ Q (.int (j : Nat)) H2 | _ => False) I1 ?_
  · rw [hs] at hA ⊢
    refine Calls.callWith_builtin (by show (false || (backTo cpos (starEach [] X.env)).any (·.1)) = false; rw [hplain] <;> rfl) (Calls.evalArgs_plain ?_)
    refine thn hA fun us s2 ⟨vs, H2, I2, r2, q6⟩ => ?_
    match vs, q6 with
    | [y], q6 =>
    obtain ⟨ys, z, j, e2, q2, q3, q4, q5⟩ := q6
    subst e2
    exact mt_tup_index pins s2 σ H2 (.ref p) [.str z] (.ref p) us Q I2 rfl r2 ⟨p, ys, z, j, rfl, rfl, q2, q3, q4, q5⟩
  · have := q p np
    exact this
end
end HW
end
section
set_option Elab.async false
set_option linter.all false
set_option maxRecDepth 100000
set_option maxHeartbeats 4000000
namespace HW
open PySem PySem.Spec PyProof.Rows L2 NdefX LamX
/-! ### bound_words -/
open TL
theorem drop_getD {ws : List Str} {i : Nat} {a : Str} {r : List Str} (h : ws.drop i = a :: r) : ws.getD i "" = a ∧ ws.drop (i + 1) = r ∧ i < ws.length := by
  have h1 : ws[i]? = some a := by
    have := List.getElem?_drop (xs := ws) (i := i) (j := 0)
    rw [h] at this
    simpa using this.symm
  refine ⟨by rw [List.getD_eq_getElem?_getD, h1] <;> rfl, ?_, (List.getElem?_eq_some_iff.mp h1).1⟩
  have : (ws.drop i).drop 1 = ws.drop (i + 1) := by rw [List.drop_drop]
  rw [← this, h] <;> rfl
theorem drop_getD0 {ws : List Str} {i : Nat} (h : ws.drop i = []) : ws.getD i "" = "" := by
  have : ws.length ≤ i := List.drop_eq_nil_iff.mp h
  rw [List.getD_eq_getElem?_getD, List.getElem?_eq_none_iff.mpr this] <;> rfl
theorem drop_app {ws a b : List Str} {i : Nat} (h : ws.drop i = a ++ b) : ws.drop (i + a.length) = b := by
  rw [← List.drop_drop, h, List.drop_left]
theorem drop_at {ws a b : List Str} {i j : Nat} {u : Str} (h : ws.drop i = a ++ b) (e : a[j]? = some u) : ws.getD (i + j) "" = u := by
  have h1 : (ws.drop i)[j]? = some u := by rw [h, List.getElem?_append_left (List.getElem?_eq_some_iff.mp e).1]; exact e
  rw [List.getElem?_drop] at h1
  rw [List.getD_eq_getElem?_getD, h1] <;> rfl
section
variable {P : Program} {w : World} {K : PySem.W.Frag} {mg : Str → Option Value} {base : Heap}
def spBound (T : List NTab) : Sp := fun vs H Q _ => ∃ (l : Addr) (ws bs : List Str) (i k j : Nat), vs = [.ref l, .int (i : Int)] ∧ H l = some (.lst (ws.map V.str)) ∧ TabsN T H ∧ (∀ j, j < k → lettered (ws.getD (i + j) "") = true) ∧ lettered (ws.getD (i + k) "") = false ∧ k < 1000 ∧
  ((bs = [] ∧ j = i ∧ (k = 0 ∨ ws.getD (i + k) "" ≠ mD)) ∨ (k ≠ 0 ∧ ws.getD (i + k) "" = mD ∧ bs = (ws.drop i).take k ∧ bs.Nodup ∧ j = i + k + 1)) ∧
  ∀ H' p q, Gr T [] H H' → H' q = some (.tup (bs.map V.str)) → H' p = some (.tup [.ref q, .int (j : Int)]) → Q (.ref p) H'
theorem sc_bound_words : FnScope ["words", "spot", "stop", "bound"] ["words", "spot"] (defScope s_bound_words) := ⟨rfl, rfl, rfl, by decide +kernel, rfl, by decide +kernel, by decide +kernel⟩
theorem ok_bound (S : Cn K mg base) (T : List NTab) (hW : Has P w K mg base "word_at" 1 ["words", "spot"] [] spWordAt) (hL : Has P w K mg base "is_lettered" 1 ["word"] [] spLettered) :
    Has P w K mg base "bound_words" 2 ["words", "spot"] [] (spBound T) := by
  refine has_of (d := d_bound_words) S 45 31 rfl rfl rfl rfl rfl sc_bound_words (fun vs H Q E h => ?_) (fun _ _ _ _ _ _ us hl => match us, hl with | [_, _], _ => rfl) (fun f cdv A outer s H vs Q E hr h => ?_)
  · obtain ⟨l, ws, bs, i, k, jj, rfl, _⟩ := h
    rfl
  refine ⟨_, (pss_cons (ps_set (i := 2) sc_bound_words.nd rfl (Or.inl rfl) (pv 1)) (pss_cons (ps_while PassesOwn.never (pt_val (pe_hs hL hr (by omega) rfl (pa_cons (pe_hs hW hr (by omega) rfl (pa_cons (pv 0) (pa_cons (pv 2) pa_nil))) pa_nil))) (pss_one (ps_aug (i := 2) sc_bound_words.nd rfl (Or.inl rfl) pe_int ip_add))) (pss_cons (ps_if (PW.pt (pw_or (pt_cmpR op_eq (pv 2) (pv 1) (nomark _)) (pw_or1 (ptNe (pe_hs hW hr (by omega) rfl (pa_cons (pv 0) (pa_cons (pv 2) pa_nil))))))) (pss_one (ps_ret (pe_tup (pa_cons (pe_tup pa_nil) (pa_cons (pv 1) pa_nil))))) pss_nil) (pss_cons (ps_set (i := 3) sc_bound_words.nd rfl (Or.inl rfl) (pe_callTy call_tuple_of (by rfl) (S.free 61) (by decide +kernel) (pa_cons (pe_slice sl_list (pv 0) (po_some (pv 1)) (po_some (pv 2))) pa_nil))) (pss_cons (ps_if (pt_cmpR op_lt (pe_callB cr_lenX (by rfl) (S.free 58) (by decide +kernel) (pa_cons (pe_callTy (cr_setX rfl) (by rfl) (S.free 65) (by decide +kernel) (pa_cons (pv 3) pa_nil)) pa_nil)) (pe_callB call_len_seq (by rfl) (S.free 58) (by decide +kernel) (pa_cons (pv 3) pa_nil)) (nomark _)) (pss_one ps_never) pss_nil) (pss_one (ps_ret (pe_tup (pa_cons (pv 3) (pa_cons (pe_op op_add (pv 2) pe_int) pa_nil)))))))))), ?_⟩
  obtain ⟨l, ws, bs, i, k, jj, rfl, hl, hT, hlet, hno, hk, alt, q⟩ := h
  refine ⟨_, rfl, ?_⟩
  refine ⟨fun m σ H' => H' = H ∧ ∃ (j : Nat) (o : Option V), m = k - j ∧ j ≤ k ∧ σ = [some (.ref l), some (.int (i : Int)), some (.int ((i + j : Nat) : Int)), o], ⟨_, rfl, 0, _, rfl, Nat.zero_le _, rfl⟩, ?_⟩
  rintro m σ H' ⟨rfl, j, o, rfl, hj, rfl⟩
  refine ⟨_, rfl, _, rfl, l, ws, i + j, rfl, hl, _, rfl, ?_⟩
  refine ⟨_, rfl, ite2 (fun hc => ?_) (fun hc => ?_)⟩
  · have hjk : j < k := by
      rcases Nat.lt_or_ge j k with z | z
      · exact z
      · have : j = k := by omega
        rw [this, hno] at hc; cases hc
    refine ⟨fun σ' H2 => ∃ m', m' < k - j ∧ H2 = H' ∧ ∃ (j : Nat) (o : Option V), m' = k - j ∧ j ≤ k ∧ σ' = [some (.ref l), some (.int (i : Int)), some (.int ((i + j : Nat) : Int)), o], fun _ _ z => z, ?_⟩
    refine ⟨_, rfl, _, _, rfl, rfl, k - (j + 1), by omega, rfl, j + 1, o, rfl, by omega, ?_⟩
    rfl
  · have hjk : j = k := by
      rcases Nat.lt_or_ge j k with z | z
      · exact absurd (hlet j z) hc
      · omega
    subst hjk
    rcases alt with ⟨rfl, ejj, h1⟩ | ⟨h1, h2, rfl, h3, rfl⟩
    · rw [ejj] at q
      dsimp only [tSeq, tIfS]
      refine orAns (b1 := decide (V.int ((i + j : Nat) : Int) = V.int (i : Int))) (b2 := !decide (V.str (ws.getD (i + j) "") = V.str ".")) (fun Q h => ⟨_, rfl, _, rfl, rfl, _, rfl, h⟩) (fun Q h => ⟨_, rfl, _, rfl, l, ws, i + j, rfl, hl, rfl, _, rfl, h⟩) ?_
      have hb : (decide (V.int ((i + j : Nat) : Int) = V.int (i : Int)) || !decide (V.str (ws.getD (i + j) "") = V.str ".")) = true := by
        rcases h1 with h1 | h1
        · subst h1; simp
        · rw [decide_eq_false (fun z => h1 (V.str.inj z))]; simp
      rw [hb]
      refine iteT ⟨szl (by decide), fun e he => ?_⟩
      refine ⟨_, rfl, szl (by show 2 ≤ 10000000; decide), fun p hp => ?_⟩
      have g0 := Gr.new0 (X := []) (o := .tup []) hT he
      refine q _ p e (g0.new hp) ?_ upd_same
      rw [upd_ne (ne_of_none upd_same hp)]; exact upd_same
    · dsimp only [tSeq, tIfS]
      refine orAns (b1 := decide (V.int ((i + j : Nat) : Int) = V.int (i : Int))) (b2 := !decide (V.str (ws.getD (i + j) "") = V.str ".")) (fun Q h => ⟨_, rfl, _, rfl, rfl, _, rfl, h⟩) (fun Q h => ⟨_, rfl, _, rfl, l, ws, i + j, rfl, hl, rfl, _, rfl, h⟩) ?_
      have hb : (decide (V.int ((i + j : Nat) : Int) = V.int (i : Int)) || !decide (V.str (ws.getD (i + j) "") = V.str ".")) = false := by
        rw [decide_eq_true (congrArg V.str h2), decide_eq_false (fun z => h1 (by have := V.int.inj z; omega))]
        rfl
      rw [hb]
      refine iteF ?_
      have hlt : i + j ≤ ws.length := by
        rcases Nat.lt_or_ge (i + j) ws.length with z | z
        · omega
        · rw [List.getD_eq_getElem?_getD, List.getElem?_eq_none_iff.mpr z] at h2
          exact absurd h2 (by decide +kernel)
      have ecut : cutV (ws.map V.str) (some (i : Int)) (some ((i + j : Nat) : Int)) = ((ws.drop i).take j).map V.str := by
        unfold cutV
        rw [List.length_map, HT.sIx_nat, HT.sIx_nat, Nat.min_eq_left (by omega), Nat.min_eq_left (by omega), List.map_take, List.map_drop]
        congr 1
        omega
      refine ⟨_, rfl, _, rfl, _, rfl, _, rfl, _, rfl, l, _, rfl, SqL.of hl, fun p1 hp1 => ?_⟩
      rw [ecut]
      have g1 := Gr.new0 (X := []) (o := .lst (((ws.drop i).take j).map V.str)) hT hp1
      refine ⟨p1, _, rfl, .inl ⟨SqL.of upd_same, fun p2 hp2 => ?_⟩⟩
      have g2 := g1.new (o := .tup (((ws.drop i).take j).map V.str)) hp2
      have hlen : ((ws.drop i).take j).length ≤ j := by rw [List.length_take]; omega
      refine ⟨_, rfl, p2, _, rfl, .inr (SqT.of upd_same), by omega, fun p3 n3 hn1 hn2 _ hp3 => ?_⟩
      have g3 := g2.new (o := SetS w p3 (fun x => decide (x ∈ (ws.drop i).take j)) n3) hp3
      have e2 := (Gr.new0 (X := []) (o := SetS w p3 (fun x => decide (x ∈ (ws.drop i).take j)) n3) g2.tab hp3).tup _ _ (upd_same (a := p2))
      refine ⟨p3, _, n3, rfl, upd_same, _, rfl, p2, _, rfl, .inr (SqT.of e2), _, _, rfl, rfl, _, rfl, iff' ?_ ?_⟩
      · have := hn2 h3
        rw [List.length_map, this]
        exact decide_eq_false (by omega)
      · refine ⟨_, rfl, _, rfl, _, _, rfl, rfl, szl (by show 2 ≤ 10000000; decide), fun p4 hp4 => ?_⟩
        refine q _ p4 p2 (g3.new hp4) ?_ ?_
        · rw [upd_ne (ne_of_none e2 hp4)]; exact e2
        · rw [upd_same]; rfl
end

end HW
end
section
set_option Elab.async false
set_option linter.all false
set_option maxRecDepth 100000
set_option maxHeartbeats 4000000
namespace HW
open PySem PySem.Spec PyProof.Rows L2 NdefX LamX
/-! ### row_from: one thing or more -/
open TL
theorem Cn.gref {K : PySem.W.Frag} {mg : Str → Option Value} {base : Heap} (S : Cn K mg base) (i : Nat) {x : Str} (h : fa[i]? = some (.glo x) := by rfl) : ∃ u, mg x = some u ∧ RelV (.ref (He.ga K x)) u := ⟨_, S.glo i h, rfl⟩
/-- what may stand behind a term -/
def Pst (post : List Str) : Prop := post = [] ∨ ∃ u r, post = u :: r ∧ (u = mK ∨ u = mC ∨ u = mR)
theorem pst_K (r : List Str) : Pst (mK :: r) := .inr ⟨_, _, rfl, .inl rfl⟩
theorem pst_cl {cl : Str} (h : cl = mC ∨ cl = mR) (r : List Str) : Pst (cl :: r) := .inr ⟨_, _, rfl, .inr h⟩
theorem rdIs_cons {α : Type} {R : α → List Str → Prop} {x : α} {r : List α} {bd : List Str} (h : RdIs R (x :: r) bd) : ∃ w1, R x w1 ∧ ((r = [] ∧ bd = w1) ∨ ∃ w2, bd = w1 ++ mK :: w2 ∧ RdIs R r w2 ∧ r ≠ []) := by
  cases r with
  | nil => exact ⟨bd, h, .inl ⟨rfl, rfl⟩⟩
  | cons y r =>
    obtain ⟨w1, w2, h1, h2, h3⟩ := h
    exact ⟨w1, h2, .inr ⟨w2, h1, h3, by simp⟩⟩
theorem cl_ne {cl : Str} (h : cl = mC ∨ cl = mR) : decide (V.str cl = V.str ",") = false := by
  rcases h with h | h <;> subst h <;> decide +kernel
structure AtI {α : Type} (AI : Hp → α → V → Prop) (H : Hp) (xs : List α) (vs : List V) : Prop where
  len : vs.length = xs.length
  get : ∀ (j : Nat) (v : V), vs[j]? = some v → ∃ x, xs[j]? = some x ∧ AI H x v
theorem AtI.snoc {α : Type} {AI : Hp → α → V → Prop} {H : Hp} {xs : List α} {vs : List V} (h : AtI AI H xs vs) {x : α} {v : V} (hx : AI H x v) : AtI AI H (xs ++ [x]) (vs ++ [v]) := by
  refine ⟨by simp [h.len], fun j y hy => ?_⟩
  by_cases q : j < vs.length
  · rw [List.getElem?_append_left q] at hy
    obtain ⟨z, e, p⟩ := h.get j y hy
    exact ⟨z, by rw [List.getElem?_append_left (by rw [← h.len]; exact q)]; exact e, p⟩
  · rw [List.getElem?_append_right (by omega)] at hy
    have hl := h.len
    have ej : j - vs.length = 0 := by
      have := (List.getElem?_eq_some_iff.mp hy).1
      simp at this
      omega
    rw [ej] at hy
    refine ⟨x, ?_, by rw [← (Option.some.inj hy : v = y)]; exact hx⟩
    rw [List.getElem?_append_right (by omega), show j - xs.length = 0 by omega] <;> rfl
section
variable {P : Program} {w : World} {K : PySem.W.Frag} {mg : Str → Option Value} {base : Heap} {α : Type}
def spOne (T : List NTab) (R : List Str → α → List Str → Prop) (AI : Hp → α → V → Prop) : Sp := fun vs H Q _ => ∃ (l na : Addr) (ws nm w1 post : List Str) (i : Nat) (x : α), vs = [.ref l, .int (i : Int), .ref na] ∧ H l = some (.lst (ws.map V.str)) ∧ H na = some (.tup (nm.map V.str)) ∧ TabsN T H ∧
  ws.drop i = w1 ++ post ∧ Pst post ∧ R nm x w1 ∧ ws.length ≤ 4000000 ∧ nm.length ≤ 4000 ∧
  ∀ H' p v, Gr T [] H H' → H' p = some (.tup [v, .int ((i + w1.length : Nat) : Int)]) → AI H' x v → Q (.ref p) H'
def spRow (K : PySem.W.Frag) (T : List NTab) (nf : Str) (R : List Str → α → List Str → Prop) (AI : Hp → α → V → Prop) : Sp := fun vs H Q _ => ∃ (l na : Addr) (ws nm bd post : List Str) (i : Nat) (xs : List α) (cl : Str), vs = [.ref l, .int (i : Int), .ref na, .ref (He.ga K nf), .str cl] ∧ H l = some (.lst (ws.map V.str)) ∧ H na = some (.tup (nm.map V.str)) ∧ TabsN T H ∧
  ws.drop i = bd ++ cl :: post ∧ (cl = mC ∨ cl = mR) ∧ RdIs (R nm) xs bd ∧ ws.length ≤ 4000000 ∧ nm.length ≤ 4000 ∧ xs.length ≤ 4000000 ∧
  ∀ H' p q vs, Gr T [] H H' → H' p = some (.tup [.ref q, .int ((i + bd.length + 1 : Nat) : Int)]) → H' q = some (.tup vs) → AtI AI H' xs vs → Q (.ref p) H'
theorem sc_row_from : FnScope ["words", "spot", "names", "one_from", "last", "thing", "found"] ["words", "spot", "names", "one_from", "last"] (defScope s_row_from) := ⟨rfl, rfl, rfl, by decide +kernel, rfl, by decide +kernel, by decide +kernel⟩
theorem ok_row (S : Cn K mg base) (T : List NTab) (k : Nat) (nf : Str) (qs : List Str) (R : List Str → α → List Str → Prop) (AI : Hp → α → V → Prop) (mono : ∀ (X : List Addr) (H H' : Hp) (x : α) (v : V), Gr T X H H' → AI H x v → AI H' x v) (hk : 2 ≤ k) (hgl : mg nf = some (.ref (He.ga K nf)))
    (hO : Has P w K mg base nf k qs [] (spOne T R AI)) (hW : Has P w K mg base "word_at" 1 ["words", "spot"] [] spWordAt) (hL : Has P w K mg base "look_for" 2 ["words", "spot", "wanted"] [] spLook) :
    Has P w K mg base "row_from" (k + 1) ["words", "spot", "names", "one_from", "last"] [] (spRow K T nf R AI) := by
  obtain ⟨fo, fdo, ds, hmo, kp, F, vd, b⟩ := hO.ex
  have efo : fo = He.ga K nf := by rw [hgl] at hmo; exact (Value.ref.inj (Option.some.inj hmo)).symm
  subst efo
  refine has_of (d := d_row_from) S 47 33 rfl rfl rfl rfl rfl sc_row_from (fun vs H Q E h => ?_) (fun _ _ _ _ _ _ us hl => match us, hl with | [_, _, _, _, _], _ => rfl) (fun f cdv A outer s H vs Q E hr h => ?_)
  · obtain ⟨l, na, ws, nm, bd, post, i, xs, cl, rfl, _⟩ := h
    rfl
  refine ⟨_, (pss_cons (ps_asg (pe_callL (i := 3) F (hr.mono (by omega)) rfl (.inl rfl) kp b vd pass0 (pa_cons (pv 0) (pa_cons (pv 1) (pa_cons (pv 2) pa_nil)))) (pg_tup rfl (pgs_cons (pg_name (i := 5) sc_row_from.nd rfl (Or.inl rfl)) (pgs_cons (pg_name (i := 1) sc_row_from.nd rfl (Or.inl rfl)) pgs_nil)))) (pss_cons (ps_set (i := 6) sc_row_from.nd rfl (Or.inl rfl) (pe_lst (pa_cons (pv 5) pa_nil))) (pss_cons (ps_while PassesOwn.never (ptEq (pe_hs hW hr (by omega) rfl (pa_cons (pv 0) (pa_cons (pv 1) pa_nil)))) (pss_cons (ps_asg (pe_callL (i := 3) F (hr.mono (by omega)) rfl (.inl rfl) kp b vd pass0 (pa_cons (pv 0) (pa_cons (pe_op op_add (pv 1) pe_int) (pa_cons (pv 2) pa_nil)))) (pg_tup rfl (pgs_cons (pg_name (i := 5) sc_row_from.nd rfl (Or.inl rfl)) (pgs_cons (pg_name (i := 1) sc_row_from.nd rfl (Or.inl rfl)) pgs_nil)))) (pss_one (ps_expr (pe_bm PySem.F.plainAttrs_list PySem.F.slot_list_append PySem.F.type_list_append mt_append (pv 6) (pa_cons (pv 5) pa_nil)))))) (pss_one (ps_ret (pe_tup (pa_cons (pe_callTy call_tuple_of (by rfl) (S.free 61) (by decide +kernel) (pa_cons (pv 6) pa_nil)) (pa_cons (pe_hs hL hr (by omega) rfl (pa_cons (pv 0) (pa_cons (pv 1) (pa_cons (pv 4) pa_nil)))) pa_nil)))))))), ?_⟩
  obtain ⟨l, na, ws, nm, bd, post, i, xs, cl, rfl, hl, hn, hT, hd, hcl, hR, hw, hnm, hxs, q⟩ := h
  cases xs with
  | nil => exact hR.elim
  | cons x xr =>
  obtain ⟨w1, r1, alt⟩ := rdIs_cons hR
  have hfst : ∃ post1, ws.drop i = w1 ++ post1 ∧ Pst post1 ∧ ((xr = [] ∧ post1 = cl :: post ∧ bd.length = w1.length) ∨ ∃ w2, post1 = mK :: (w2 ++ cl :: post) ∧ RdIs (R nm) xr w2 ∧ bd.length = w1.length + 1 + w2.length) := by
    rcases alt with ⟨e1, e2⟩ | ⟨w2, e1, e2, _⟩
    · exact ⟨cl :: post, by rw [hd, e2], pst_cl hcl _, .inl ⟨e1, rfl, by rw [e2]⟩⟩
    · refine ⟨mK :: (w2 ++ cl :: post), by rw [hd, e1, List.append_assoc, List.cons_append], pst_K _, .inr ⟨w2, rfl, e2, ?_⟩⟩
      rw [e1, List.length_append, List.length_cons]; omega
  obtain ⟨post1, hd1, hp1, hrest⟩ := hfst
  refine ⟨rfl, _, rfl, _, rfl, _, rfl, l, na, ws, nm, w1, post1, i, x, rfl, hl, hn, hT, hd1, hp1, r1, hw, hnm, fun H1 p v g1 ep av => ?_⟩
  refine ⟨p, _, rfl, SqT.of ep, rfl, _, _, rfl, _, _, rfl, rfl, ?_⟩
  refine ⟨_, rfl, szl (by show 1 ≤ 10000000; decide), fun fl hfl => ?_⟩
  have g2 := g1.new (o := .lst [v]) hfl
  have gs := Gr.new0 (X := []) (o := .lst [v]) g1.tab hfl
  have hd2 := drop_app hd1
  refine ⟨fun m σ H' => ∃ (dn rs : List α) (vs : List V) (j : Nat) (v0 : V), m = rs.length ∧ dn ++ rs = x :: xr ∧ σ = [some (.ref l), some (.int (j : Int)), some (.ref na), some (.ref (He.ga K nf)), some (.str cl), some v0, some (.ref fl)] ∧ Gr T [] H H' ∧ Gr T [fl] H1 H' ∧ H' fl = some (.lst vs) ∧ AtI AI H' dn vs ∧
      ((rs = [] ∧ ws.drop j = cl :: post ∧ j = i + bd.length) ∨ ∃ w2, ws.drop j = mK :: (w2 ++ cl :: post) ∧ RdIs (R nm) rs w2 ∧ j + 1 + w2.length = i + bd.length), ⟨_, [x], xr, [v], i + w1.length, v, rfl, rfl, rfl, g2, gs.wide, upd_same, ⟨rfl, fun j y hy => ?_⟩, ?_⟩, ?_⟩
  · match j, hy with
    | 0, hy => exact ⟨x, rfl, by rw [← (Option.some.inj hy : v = y)]; exact mono _ _ _ _ _ gs av⟩
  · rcases hrest with ⟨e1, e2, e3⟩ | ⟨w2, e1, e2, e3⟩
    · exact .inl ⟨e1, by rw [hd2, e2], by omega⟩
    · exact .inr ⟨w2, by rw [hd2, e1], e2, by omega⟩
  rintro m σ H' ⟨dn, rs, vs, j, v0, rfl, edn, rfl, g, gf, efl, avs, st⟩
  have hdl : dn.length + rs.length = (x :: xr).length := by rw [← edn, List.length_append]
  have hlv := avs.len
  refine ⟨_, rfl, _, rfl, l, ws, j, rfl, g.lst hl, rfl, _, rfl, ?_⟩
  rcases st with ⟨e1, e2, e3⟩ | ⟨w2, e1, e2, e3⟩
  · obtain ⟨d1, d2, d3⟩ := drop_getD e2
    refine iff' (by rw [d1]; exact cl_ne hcl) ?_
    refine ⟨_, rfl, fl, _, rfl, .inl ⟨SqL.of efl, fun p2 hp2 => ?_⟩⟩
    have g3 := g.new (o := .tup vs) hp2
    refine ⟨_, rfl, _, rfl, _, rfl, l, ws, j, cl, rfl, g3.lst hl, d1, ?_⟩
    refine ⟨szl (by show 2 ≤ 10000000; decide), fun p3 hp3 => ?_⟩
    have g4 := g3.new (o := .tup [.ref p2, .int ((j + 1 : Nat) : Int)]) hp3
    have edn2 : dn = x :: xr := by rw [← edn, e1, List.append_nil]
    refine q _ p3 p2 vs g4 (by rw [upd_same, e3]) ?_ ?_
    · rw [upd_ne (ne_of_none upd_same hp3)]; exact upd_same
    · rw [← edn2]
      have g5 := (Gr.new0 (X := []) (o := .tup vs) g.tab hp2).new (o := .tup [.ref p2, .int ((j + 1 : Nat) : Int)]) hp3
      exact ⟨avs.len, fun j y hy => (let ⟨z, a, c⟩ := avs.get j y hy; ⟨z, a, mono _ _ _ _ _ g5 c⟩)⟩
  · obtain ⟨d1, d2, d3⟩ := drop_getD e1
    refine ift (by rw [d1]; exact decide_eq_true rfl) ?_
    cases rs with
    | nil => exact e2.elim
    | cons y rr =>
    obtain ⟨w3, r3, alt3⟩ := rdIs_cons e2
    have hfst3 : ∃ post3, ws.drop (j + 1) = w3 ++ post3 ∧ Pst post3 ∧ ((rr = [] ∧ post3 = cl :: post ∧ w2.length = w3.length) ∨ ∃ w4, post3 = mK :: (w4 ++ cl :: post) ∧ RdIs (R nm) rr w4 ∧ w2.length = w3.length + 1 + w4.length) := by
      rcases alt3 with ⟨e1, e2⟩ | ⟨w4, e1, e2, _⟩
      · exact ⟨cl :: post, by rw [d2, e2], pst_cl hcl _, .inl ⟨e1, rfl, by rw [e2]⟩⟩
      · refine ⟨mK :: (w4 ++ cl :: post), by rw [d2, e1, List.append_assoc, List.cons_append], pst_K _, .inr ⟨w4, rfl, e2, ?_⟩⟩
        rw [e1, List.length_append, List.length_cons]; omega
    obtain ⟨post3, hd3, hp3, hrest3⟩ := hfst3
    refine ⟨fun σ' H2 => ∃ m', m' < (y :: rr).length ∧ ∃ (dn rs : List α) (vs : List V) (j : Nat) (v0 : V), m' = rs.length ∧ dn ++ rs = x :: xr ∧ σ' = [some (.ref l), some (.int (j : Int)), some (.ref na), some (.ref (He.ga K nf)), some (.str cl), some v0, some (.ref fl)] ∧ Gr T [] H H2 ∧ Gr T [fl] H1 H2 ∧ H2 fl = some (.lst vs) ∧ AtI AI H2 dn vs ∧
      ((rs = [] ∧ ws.drop j = cl :: post ∧ j = i + bd.length) ∨ ∃ w2, ws.drop j = mK :: (w2 ++ cl :: post) ∧ RdIs (R nm) rs w2 ∧ j + 1 + w2.length = i + bd.length), fun _ _ z => z, ?_⟩
    refine ⟨rfl, _, rfl, _, rfl, _, _, rfl, rfl, _, rfl, l, na, ws, nm, w3, post3, j + 1, y, rfl, g.lst hl, g.tup _ _ hn, g.tab, hd3, hp3, r3, hw, hnm, fun H2 p2 v2 g3 ep2 av2 => ?_⟩
    refine ⟨p2, _, rfl, SqT.of ep2, rfl, _, _, rfl, _, _, rfl, rfl, ?_⟩
    have efl2 := g3.lst efl
    have hlen : vs.length ≤ 9000000 := by simp at hdl hxs; omega
    refine ⟨_, rfl, .inl ⟨rfl, _, SqL.of efl2⟩, _, rfl, fl, _, _, rfl, rfl, efl2, szl' (by omega), ?_⟩
    have gm : Gr T [fl] H2 (upd H2 fl (.lst (vs ++ [v2]))) := (Gr.refl g3.tab).mutL (.inr (by simp)) efl2
    refine ⟨rr.length, by simp, dn ++ [y], rr, vs ++ [v2], j + 1 + w3.length, v2, rfl, by rw [List.append_assoc]; exact edn, rfl, (g.trans g3).mutL (.inl (g1.back _ hfl)) efl2, (gf.trans g3.wide).trans gm, upd_same, ?_, ?_⟩
    · exact AtI.snoc ⟨avs.len, fun j y hy => (let ⟨z, a, c⟩ := avs.get j y hy; ⟨z, a, mono _ _ _ _ _ gm (mono _ _ _ _ _ g3 c)⟩)⟩ (mono _ _ _ _ _ gm av2)
    · have hd4 := drop_app hd3
      rcases hrest3 with ⟨e1, e2, e3⟩ | ⟨w4, e1, e2, e3⟩
      · exact .inl ⟨e1, by rw [hd4, e2], by omega⟩
      · exact .inr ⟨w4, by rw [hd4, e1], e2, by omega⟩
end

end HW
end
section
set_option Elab.async false
set_option linter.all false
set_option maxRecDepth 100000
set_option maxHeartbeats 4000000
namespace HW
open PySem PySem.Spec PyProof.Rows L2 NdefX LamX
/-! ### part_from, hole_from, term_from -/
open TL
theorem lettered_blank : lettered "" = false := by decide +kernel
theorem marks_no : lettered mO = false ∧ lettered mC = false ∧ lettered mL = false ∧ lettered mR = false ∧ lettered mK = false ∧ lettered mD = false ∧ lettered mQ = false := by decide +kernel
theorem mk_ne : mK ≠ mD ∧ mK ≠ mO ∧ mK ≠ mL ∧ mC ≠ mD ∧ mC ≠ mO ∧ mC ≠ mL ∧ mR ≠ mD ∧ mR ≠ mO ∧ mR ≠ mL ∧ mO ≠ mD := by
  refine ⟨?_, ?_, ?_, ?_, ?_, ?_, ?_, ?_, ?_, ?_⟩ <;> decide +kernel
theorem pst_no {post : List Str} (h : Pst post) : lettered (post.headD "") = false ∧ post.headD "" ≠ mD ∧ post.headD "" ≠ mO ∧ post.headD "" ≠ mL := by
  obtain ⟨a1, a2, a3, a4, a5, a6, a7, a8, a9, _⟩ := mk_ne
  rcases h with h | ⟨u, r, h, q⟩
  · subst h; refine ⟨lettered_blank, ?_, ?_, ?_⟩ <;> decide +kernel
  · subst h
    rcases q with q | q | q <;> subst q
    · exact ⟨marks_no.2.2.2.2.1, a1, a2, a3⟩
    · exact ⟨marks_no.2.1, a4, a5, a6⟩
    · exact ⟨marks_no.2.2.2.1, a7, a8, a9⟩
theorem drop_head {ws post : List Str} {i : Nat} (h : ws.drop i = post) : ws.getD i "" = post.headD "" := by
  cases post with
  | nil => exact drop_getD0 h
  | cons a r => exact (drop_getD h).1
/-- how a term's tokens begin: a mark, or a word with no dot behind it -/
theorem rd_begin {nm : List Str} {t : HF.T Str} {w1 : List Str} (h : Rd nm t w1) : (∃ r, w1 = mQ :: r) ∨ ∃ u, Wd u ∧ (w1 = [u] ∨ ∃ r, w1 = u :: mO :: r) := by
  cases t with
  | name k =>
    obtain ⟨u, e, r⟩ := h
    exact .inr ⟨u, r.wd, .inl e⟩
  | sign u ps =>
    obtain ⟨hu, ⟨_, e, _⟩ | ⟨bd, e, _⟩⟩ := h
    · exact .inr ⟨u, hu, .inl e⟩
    · exact .inr ⟨u, hu, .inr ⟨_, e⟩⟩
  | hole u ns =>
    obtain ⟨hu, ⟨_, e⟩ | ⟨bd, e, _⟩⟩ := h
    · exact .inl ⟨_, e⟩
    · exact .inl ⟨_, e⟩
section
variable {P : Program} {w : World} {K : PySem.W.Frag} {mg : Str → Option Value} {base : Heap}
def RT (B : List Str) (n : Nat) (nm : List Str) (t : HF.T Str) (w1 : List Str) : Prop := Rd nm t w1 ∧ HF.ht t ≤ n ∧ gt B t ∧ HF.nd t ≤ 1000000 ∧ nm.length + 2 * n ≤ 700
def RP (B : List Str) (n : Nat) (nm : List Str) (z : Nat × HF.T Str) (w1 : List Str) : Prop := RdP nm z w1 ∧ HF.ht z.2 ≤ n ∧ gt B z.2 ∧ HF.nd z.2 ≤ 1000000 ∧ nm.length + 2 * n + 2 ≤ 700 ∧ z.1 ≤ 2
theorem sc_part_from : FnScope ["words", "spot", "names", "bound", "term"] ["words", "spot", "names"] (defScope s_part_from) := ⟨rfl, rfl, rfl, by decide +kernel, rfl, by decide +kernel, by decide +kernel⟩
theorem ok_part (S : Cn K mg base) (T : List NTab) (B : List Str) (n : Nat) (hB : Has P w K mg base "bound_words" 2 ["words", "spot"] [] (spBound T)) (ih : Has P w K mg base "term_from" (3 * n + 3) ["words", "spot", "names"] [] (spOne T (RT B n) At)) :
    Has P w K mg base "part_from" (3 * n + 4) ["words", "spot", "names"] [] (spOne T (RP B n) AtP) := by
  refine has_of (d := d_part_from) S 46 32 rfl rfl rfl rfl rfl sc_part_from (fun vs H Q E h => ?_) (fun _ _ _ _ _ _ us hl => match us, hl with | [_, _, _], _ => rfl) (fun f cdv A outer s H vs Q E hr h => ?_)
  · obtain ⟨l, na, ws, nm, w1, post, i, z, rfl, _⟩ := h
    rfl
  refine ⟨_, (pss_cons (ps_asg (pe_hs hB hr (by omega) rfl (pa_cons (pv 0) (pa_cons (pv 1) pa_nil))) (pg_tup rfl (pgs_cons (pg_name (i := 3) sc_part_from.nd rfl (Or.inl rfl)) (pgs_cons (pg_name (i := 1) sc_part_from.nd rfl (Or.inl rfl)) pgs_nil)))) (pss_cons (ps_asg (pe_hs ih hr (by omega) rfl (pa_cons (pv 0) (pa_cons (pv 1) (pa_cons (pe_op op_catA (pv 2) (pv 3)) pa_nil)))) (pg_tup rfl (pgs_cons (pg_name (i := 4) sc_part_from.nd rfl (Or.inl rfl)) (pgs_cons (pg_name (i := 1) sc_part_from.nd rfl (Or.inl rfl)) pgs_nil)))) (pss_one (ps_ret (pe_tup (pa_cons (pe_tup (pa_cons (pe_callB call_len_seq (by rfl) (S.free 58) (by decide +kernel) (pa_cons (pv 3) pa_nil)) (pa_cons (pv 4) pa_nil))) (pa_cons (pv 1) pa_nil))))))), ?_⟩
  obtain ⟨l, na, ws, nm, w1, post, i, z, rfl, hl, hn, hT, hd, hp, ⟨⟨bs, w2, rb, rd, e1⟩, hh, hg, hnd, hnm2, hz⟩, hw, hnm, q⟩ := h
  have hbl := rb.len
  have hcnd : ∃ k j, (∀ j, j < k → lettered (ws.getD (i + j) "") = true) ∧ lettered (ws.getD (i + k) "") = false ∧ k < 1000 ∧
      ((bs = [] ∧ j = i ∧ (k = 0 ∨ ws.getD (i + k) "" ≠ mD)) ∨ (k ≠ 0 ∧ ws.getD (i + k) "" = mD ∧ bs = (ws.drop i).take k ∧ bs.Nodup ∧ j = i + k + 1)) ∧ ws.drop j = w2 ++ post ∧ j + w2.length = i + w1.length := by
    by_cases hb : bs = []
    · have e2 : w1 = w2 := by rw [e1]; unfold bp; rw [if_pos hb]; rfl
      subst e2
      obtain ⟨p1, p2, p3, p4⟩ := pst_no hp
      rcases rd_begin rd with ⟨r, e⟩ | ⟨u, hu, e⟩
      · have e9 : ws.drop i = mQ :: (r ++ post) := by rw [hd, e]; rfl
        refine ⟨0, i, fun j hj => by omega, ?_, by decide, .inl ⟨hb, rfl, .inl rfl⟩, hd, rfl⟩
        rw [Nat.add_zero, (drop_getD e9).1]; exact marks_no.2.2.2.2.2.2
      · have key : ∃ r, ws.drop i = u :: r ∧ lettered (r.headD "") = false ∧ r.headD "" ≠ mD := by
          rcases e with e | ⟨r, e⟩
          · exact ⟨post, by rw [hd, e]; rfl, p1, p2⟩
          · exact ⟨mO :: (r ++ post), by rw [hd, e]; rfl, marks_no.1, mk_ne.2.2.2.2.2.2.2.2.2⟩
        obtain ⟨r, e3, e4, e5⟩ := key
        obtain ⟨d1, d2, d3⟩ := drop_getD e3
        have d4 := drop_head d2
        refine ⟨1, i, fun j hj => ?_, by rw [d4]; exact e4, by decide, .inl ⟨hb, rfl, .inr (by rw [d4]; exact e5)⟩, hd, rfl⟩
        have : j = 0 := by omega
        rw [this, Nat.add_zero, d1]; exact hu.lettered
    · have e2 : w1 = bs ++ mD :: w2 := by rw [e1]; unfold bp; rw [if_neg hb, List.append_assoc]; rfl
      have hne : bs.length ≠ 0 := fun z => hb (List.length_eq_zero_iff.mp z)
      have e3 : ws.drop i = bs ++ (mD :: (w2 ++ post)) := by rw [hd, e2, List.append_assoc]; rfl
      have e4 := drop_app e3
      obtain ⟨d1, d2, d3⟩ := drop_getD e4
      refine ⟨bs.length, i + bs.length + 1, fun j hj => ?_, by rw [d1]; exact marks_no.2.2.2.2.2.1, by omega, .inr ⟨hne, d1, by rw [e3, List.take_left], rb.nd, rfl⟩, d2, by rw [e2, List.length_append, List.length_cons]; omega⟩
      obtain ⟨u, hu⟩ : ∃ u, bs[j]? = some u := ⟨bs[j], List.getElem?_eq_getElem hj⟩
      rw [drop_at e3 hu]
      exact (rb.wd u (List.mem_of_getElem? hu)).lettered
  obtain ⟨k, j, c1, c2, c3, c4, c5, c6⟩ := hcnd
  refine ⟨_, rfl, _, rfl, l, ws, bs, i, k, j, rfl, hl, hT, c1, c2, c3, c4, fun H1 p1 q1 g1 eq1 ep1 => ?_⟩
  refine ⟨p1, _, rfl, SqT.of ep1, rfl, _, _, rfl, _, _, rfl, rfl, ?_⟩
  have hnml : (nm ++ bs).length ≤ 4000 := by rw [List.length_append]; omega
  have rt : RT B n (nm ++ bs) z.2 w2 := ⟨rd, hh, hg, hnd, by rw [List.length_append]; omega⟩
  refine ⟨_, rfl, _, rfl, _, rfl, _, rfl, na, q1, nm.map V.str, bs.map V.str, rfl, rfl, SqT.of (g1.tup _ _ hn), SqT.of eq1, szl (by rw [List.length_map, List.length_map]; omega), fun z0 => ?_, fun z0 z1 => ?_, fun z0 z1 p3 hp3 => ?_⟩
  case' refine_1 => have hx : H1 q1 = some (.tup ((nm ++ bs).map V.str)) := by rw [List.map_eq_nil_iff.mp z0]; exact eq1
  case' refine_2 => have hx : H1 na = some (.tup ((nm ++ bs).map V.str)) := by rw [List.map_eq_nil_iff.mp z1, List.append_nil]; exact g1.tup _ _ hn
  case' refine_3 =>
    have gs := Gr.new0 (X := []) (o := .tup (nm.map V.str ++ bs.map V.str)) g1.tab hp3
    have g1 := g1.new (o := .tup (nm.map V.str ++ bs.map V.str)) hp3
    have eq1 := gs.tup _ _ eq1
    have hx : (upd H1 p3 (.tup (nm.map V.str ++ bs.map V.str))) p3 = some (.tup ((nm ++ bs).map V.str)) := by rw [upd_same, List.map_append]
  all_goals
    refine ⟨l, _, ws, nm ++ bs, w2, post, j, z.2, rfl, g1.lst hl, hx, g1.tab, c5, hp, rt, hw, hnml, fun H3 p4 v4 g3 ep4 av4 => ?_⟩
    refine ⟨p4, _, rfl, SqT.of ep4, rfl, _, _, rfl, _, _, rfl, rfl, ?_⟩
    refine ⟨_, rfl, q1, _, rfl, .inr (SqT.of (g3.tup _ _ eq1)), _, rfl, szl (by show 2 ≤ 10000000; decide), fun p5 hp5 => ⟨_, rfl, szl (by show 2 ≤ 10000000; decide), fun p6 hp6 => ?_⟩⟩
    have g5 := (g1.trans g3).new (o := .tup [.int ((bs.map V.str).length : Int), v4]) hp5
    have gz := Gr.new0 (X := []) (o := .tup [.ref p5, .int ((j + w2.length : Nat) : Int)]) g5.tab hp6
    have ga := Gr.new0 (X := []) (o := .tup [.int ((bs.map V.str).length : Int), v4]) g3.tab hp5
    refine q _ p6 (.ref p5) (g5.new hp6) (by rw [upd_same, c6]) ⟨p5, v4, rfl, ?_, (av4.mono ga).mono gz⟩
    rw [gz.tup _ _ (upd_same (a := p5)), List.length_map, hbl]
end

end HW
end
section
set_option Elab.async false
set_option linter.all false
set_option maxRecDepth 100000
set_option maxHeartbeats 4000000
namespace HW
open PySem PySem.Spec PyProof.Rows L2 NdefX LamX
/-! ### hole_from, term_from -/
open TL
theorem RdIs.map {α β : Type} {R : α → List Str → Prop} {R' : β → List Str → Prop} {f : α → β} (h : ∀ x ws, R x ws → R' (f x) ws) : ∀ {l : List α} {ws : List Str}, RdIs R l ws → RdIs R' (l.map f) ws
  | [], _, h => h
  | [x], _, g => h x _ g
  | x :: y :: r, _, ⟨w1, w2, e, g1, g2⟩ => ⟨w1, w2, e, h x _ g1, RdIs.map h (l := y :: r) g2⟩
theorem RdIs.imp {α : Type} {R R' : α → List Str → Prop} : ∀ {l : List α} {ws : List Str}, (∀ x ∈ l, ∀ ws, R x ws → R' x ws) → RdIs R l ws → RdIs R' l ws
  | [], _, _, h => h
  | [x], _, h, g => h x List.mem_cons_self _ g
  | x :: y :: r, _, h, ⟨w1, w2, e, g1, g2⟩ => ⟨w1, w2, e, h x List.mem_cons_self _ g1, RdIs.imp (l := y :: r) (fun z hz => h z (List.mem_cons_of_mem _ hz)) g2⟩
theorem Wd.no {u : Str} (h : Wd u) {m : Str} (hm : HW.lettered m = false) : decide (V.str u = V.str m) = false := decide_eq_false fun z => by
  have := h.lettered
  rw [V.str.inj z, hm] at this
  cases this
section
variable {P : Program} {w : World} {K : PySem.W.Frag} {mg : Str → Option Value} {base : Heap}
def spHoleF (T : List NTab) (B : List Str) (n : Nat) : Sp := fun vs H Q _ => ∃ (l na : Addr) (ws nm w1 post : List Str) (i : Nat) (u : Str) (ns : List Nat), vs = [.ref l, .int (i : Int), .ref na] ∧ H l = some (.lst (ws.map V.str)) ∧ H na = some (.tup (nm.map V.str)) ∧ TabsN T H ∧
  ws.drop i = w1 ++ post ∧ Pst post ∧ RT B (n + 1) nm (.hole u ns) (mQ :: w1) ∧ ws.length ≤ 4000000 ∧ nm.length ≤ 4000 ∧
  ∀ H' p v, Gr T [] H H' → H' p = some (.tup [v, .int ((i + w1.length : Nat) : Int)]) → At H' (.hole u ns) v → Q (.ref p) H'
theorem sc_hole_from : FnScope ["words", "spot", "names", "word", "told"] ["words", "spot", "names"] (defScope s_hole_from) := ⟨rfl, rfl, rfl, by decide +kernel, rfl, by decide +kernel, by decide +kernel⟩
theorem ok_holef (S : Cn K mg base) (T : List NTab) (B : List Str) (n : Nat) (hW : Has P w K mg base "word_at" 1 ["words", "spot"] [] spWordAt) (hL : Has P w K mg base "is_lettered" 1 ["word"] [] spLettered)
    (hR : Has P w K mg base "row_from" (3 * n + 4) ["words", "spot", "names", "one_from", "last"] [] (spRow K T "term_from" (RT B n) At)) :
    Has P w K mg base "hole_from" (3 * n + 5) ["words", "spot", "names"] [] (spHoleF T B n) := by
  refine has_of (d := d_hole_from) S 48 34 rfl rfl rfl rfl rfl sc_hole_from (fun vs H Q E h => ?_) (fun _ _ _ _ _ _ us hl => match us, hl with | [_, _, _], _ => rfl) (fun f cdv A outer s H vs Q E hr h => ?_)
  · obtain ⟨l, na, ws, nm, w1, post, i, u, ns, rfl, _⟩ := h
    rfl
  refine ⟨_, (pss_cons (ps_set (i := 3) sc_hole_from.nd rfl (Or.inl rfl) (pe_hs hW hr (by omega) rfl (pa_cons (pv 0) (pa_cons (pv 1) pa_nil)))) (pss_cons (ps_if (pt_not (pt_val (pe_hs hL hr (by omega) rfl (pa_cons (pv 3) pa_nil)))) (pss_one ps_never) pss_nil) (pss_cons (ps_if (ptNe (pe_hs hW hr (by omega) rfl (pa_cons (pv 0) (pa_cons (pe_op op_add (pv 1) pe_int) pa_nil)))) (pss_one (ps_ret (pe_tup (pa_cons (pe_tup (pa_cons pe_str (pa_cons (pv 3) (pa_cons (pe_tup pa_nil) pa_nil)))) (pa_cons (pe_op op_add (pv 1) pe_int) pa_nil))))) pss_nil) (pss_cons (ps_asg (pe_hs hR hr (by omega) rfl (pa_cons (pv 0) (pa_cons (pe_op op_add (pv 1) pe_int) (pa_cons (pv 2) (pa_cons (C8.pe_gc (v := .ref (He.ga K "term_from")) rfl (S.gref 35)) (pa_cons pe_str pa_nil)))))) (pg_tup rfl (pgs_cons (pg_name (i := 4) sc_hole_from.nd rfl (Or.inl rfl)) (pgs_cons (pg_name (i := 1) sc_hole_from.nd rfl (Or.inl rfl)) pgs_nil)))) (pss_one (ps_ret (pe_tup (pa_cons (pe_tup (pa_cons pe_str (pa_cons (pv 3) (pa_cons (pv 4) pa_nil)))) (pa_cons (pv 1) pa_nil))))))))), ?_⟩
  obtain ⟨l, na, ws, nm, w1, post, i, u, ns, rfl, hl, hn, hT, hd, hp, ⟨⟨hu, rd⟩, hh, hg, hnd, hnm2⟩, hw, hnm, q⟩ := h
  have hh2 : HF.ht (HF.T.hole u ns) = 2 := rfl
  obtain ⟨p1, p2, p3, p4⟩ := pst_no hp
  rw [nd_hole] at hnd
  rcases rd with ⟨rfl, e⟩ | ⟨bd, e, r⟩
  · have e : w1 = [u] := (List.cons.inj e).2
    subst e
    obtain ⟨d1, d2, d3⟩ := drop_getD (show ws.drop i = u :: post from hd)
    have d4 := drop_head d2
    refine ⟨_, rfl, _, rfl, l, ws, i, rfl, hl, ?_⟩
    rw [d1]
    refine ⟨_, rfl, u, rfl, _, rfl, ?_⟩
    rw [hu.lettered]
    refine iteF ?_
    refine ⟨_, rfl, _, rfl, _, _, rfl, rfl, l, ws, i + 1, rfl, hl, rfl, _, rfl, ?_⟩
    rw [d4]
    refine ift (by show (!decide (V.str (post.headD "") = V.str "[")) = true; rw [decide_eq_false fun z => p4 (V.str.inj z)]; rfl) ?_
    refine ⟨_, rfl, szl (by decide), fun a1 h1 => ⟨szl (by show 3 ≤ 10000000; decide), fun a2 h2 => ⟨_, rfl, _, _, rfl, rfl, szl (by show 2 ≤ 10000000; decide), fun a3 h3 => ?_⟩⟩⟩
    have g1 := Gr.new0 (X := []) (o := .tup []) hT h1
    have g2 := Gr.new0 (X := []) (o := .tup [.str "hole", .str u, .ref a1]) g1.tab h2
    have g3 := Gr.new0 (X := []) (o := .tup [.ref a2, .int ((i : Int) + 1)]) g2.tab h3
    exact q _ a3 (.ref a2) ((g1.trans g2).trans g3) upd_same ⟨a2, a1, [], rfl, g3.tup _ _ upd_same, g3.tup _ _ (g2.tup _ _ upd_same), rfl⟩
  · have e : w1 = u :: mL :: (bd ++ [mR]) := (List.cons.inj e).2
    subst e
    have hd : ws.drop i = u :: (mL :: (bd ++ mR :: post)) := by rw [hd]; simp
    obtain ⟨d1, d2, d3⟩ := drop_getD hd
    obtain ⟨d4, d5, d6⟩ := drop_getD d2
    refine ⟨_, rfl, _, rfl, l, ws, i, rfl, hl, ?_⟩
    rw [d1]
    refine ⟨_, rfl, u, rfl, _, rfl, ?_⟩
    rw [hu.lettered]
    refine iteF ?_
    refine ⟨_, rfl, _, rfl, _, _, rfl, rfl, l, ws, i + 1, rfl, hl, rfl, _, rfl, ?_⟩
    rw [d4]
    refine iff' (by decide +kernel) ?_
    have r2 : RdIs (RT B n nm) (ns.map HF.T.name) bd := RdIs.map (fun k ws r => ⟨r, by show 1 ≤ n; omega, trivial, by show 1 ≤ 1000000; decide, by omega⟩) r
    refine ⟨_, rfl, _, rfl, _, _, rfl, rfl, _, rfl, l, na, ws, nm, bd, post, i + 2, ns.map HF.T.name, mR, rfl, hl, hn, hT, d5, .inr rfl, r2, hw, hnm, by rw [List.length_map]; omega, fun H1 p q1 vs g1 ep eq1 av => ?_⟩
    refine ⟨p, _, rfl, SqT.of ep, rfl, _, _, rfl, _, _, rfl, rfl, ?_⟩
    refine ⟨_, rfl, _, rfl, szl (by show 3 ≤ 10000000; decide), fun a2 h2 => ⟨_, rfl, szl (by show 2 ≤ 10000000; decide), fun a3 h3 => ?_⟩⟩
    have g2 := Gr.new0 (X := []) (o := .tup [.str "hole", .str u, .ref q1]) g1.tab h2
    have g3 := Gr.new0 (X := []) (o := .tup [.ref a2, .int ((i + 2 + bd.length + 1 : Nat) : Int)]) g2.tab h3
    have an : AtN H1 ns vs := AtN.of (by rw [av.len, List.length_map]) fun j y hy => by
      obtain ⟨x, e1, e2⟩ := av.get j y hy
      rw [List.getElem?_map] at e1
      cases e3 : ns[j]? with
      | none => rw [e3] at e1; cases e1
      | some k => rw [e3] at e1; exact ⟨k, rfl, by rw [show HF.T.name k = x from Option.some.inj e1]; exact e2⟩
    refine q _ a3 (.ref a2) ((g1.trans g2).trans g3) ?_ ⟨a2, q1, vs, rfl, g3.tup _ _ upd_same, g3.tup _ _ (g2.tup _ _ eq1), (an.mono g2).mono g3⟩
    rw [upd_same]
    simp only [List.length_cons, List.length_append, List.length_nil]
    have : i + 2 + bd.length + 1 = i + (bd.length + (0 + 1) + 1 + 1) := by omega
    rw [this]
theorem sc_term_from : FnScope ["words", "spot", "names", "word", "parts"] ["words", "spot", "names"] (defScope s_term_from) := ⟨rfl, rfl, rfl, by decide +kernel, rfl, by decide +kernel, by decide +kernel⟩
theorem ok_termf1 (S : Cn K mg base) (T : List NTab) (B : List Str) (n : Nat) (hW : Has P w K mg base "word_at" 1 ["words", "spot"] [] spWordAt) (hL : Has P w K mg base "is_lettered" 1 ["word"] [] spLettered)
    (hR : Has P w K mg base "row_from" (3 * n + 5) ["words", "spot", "names", "one_from", "last"] [] (spRow K T "part_from" (RP B n) AtP)) (hH : Has P w K mg base "hole_from" (3 * n + 5) ["words", "spot", "names"] [] (spHoleF T B n)) :
    Has P w K mg base "term_from" (3 * n + 6) ["words", "spot", "names"] [] (spOne T (RT B (n + 1)) At) := by
  refine has_of (d := d_term_from) S 49 35 rfl rfl rfl rfl rfl sc_term_from (fun vs H Q E h => ?_) (fun _ _ _ _ _ _ us hl => match us, hl with | [_, _, _], _ => rfl) (fun f cdv A outer s H vs Q E hr h => ?_)
  · obtain ⟨l, na, ws, nm, w1, post, i, t, rfl, _⟩ := h
    rfl
  refine ⟨_, (pss_cons (ps_set (i := 3) sc_term_from.nd rfl (Or.inl rfl) (pe_hs hW hr (by omega) rfl (pa_cons (pv 0) (pa_cons (pv 1) pa_nil)))) (pss_cons (ps_if (ptEq (pv 3)) (pss_one (ps_ret (pe_hs hH hr (by omega) rfl (pa_cons (pv 0) (pa_cons (pe_op op_add (pv 1) pe_int) (pa_cons (pv 2) pa_nil)))))) pss_nil) (pss_cons (ps_if (pt_not (pt_val (pe_hs hL hr (by omega) rfl (pa_cons (pv 3) pa_nil)))) (pss_one ps_never) pss_nil) (pss_cons (ps_if (ptEq (pe_hs hW hr (by omega) rfl (pa_cons (pv 0) (pa_cons (pe_op op_add (pv 1) pe_int) pa_nil)))) (pss_cons (ps_asg (pe_hs hR hr (by omega) rfl (pa_cons (pv 0) (pa_cons (pe_op op_add (pv 1) pe_int) (pa_cons (pv 2) (pa_cons (C8.pe_gc (v := .ref (He.ga K "part_from")) rfl (S.gref 32)) (pa_cons pe_str pa_nil)))))) (pg_tup rfl (pgs_cons (pg_name (i := 4) sc_term_from.nd rfl (Or.inl rfl)) (pgs_cons (pg_name (i := 1) sc_term_from.nd rfl (Or.inl rfl)) pgs_nil)))) (pss_one (ps_ret (pe_tup (pa_cons (pe_tup (pa_cons pe_str (pa_cons (pv 3) (pa_cons (pv 4) pa_nil)))) (pa_cons (pv 1) pa_nil)))))) pss_nil) (pss_cons (ps_if (pt_cmpR op_in_seq (pv 3) (pv 2) (by rfl)) (pss_one (ps_ret (pe_tup (pa_cons (pe_tup (pa_cons pe_str (pa_cons (pe_back (pv 2) (pv 3)) pa_nil))) (pa_cons (pe_op op_add (pv 1) pe_int) pa_nil))))) pss_nil) (pss_one (ps_ret (pe_tup (pa_cons (pe_tup (pa_cons pe_str (pa_cons (pv 3) (pa_cons (pe_tup pa_nil) pa_nil)))) (pa_cons (pe_op op_add (pv 1) pe_int) pa_nil)))))))))), ?_⟩
  obtain ⟨l, na, ws, nm, w1, post, i, t, rfl, hl, hn, hT, hd, hp, ⟨rd, hh, hg, hnd, hnm2⟩, hw, hnm, q⟩ := h
  obtain ⟨p1, p2, p3, p4⟩ := pst_no hp
  cases t with
  | hole u ns =>
    have key : ∃ w2, w1 = mQ :: w2 := by
      obtain ⟨_, ⟨_, e⟩ | ⟨bd, e, _⟩⟩ := rd
      · exact ⟨_, e⟩
      · exact ⟨_, e⟩
    obtain ⟨w2, e⟩ := key
    subst e
    obtain ⟨d1, d2, d3⟩ := drop_getD (show ws.drop i = mQ :: (w2 ++ post) from hd)
    refine ⟨_, rfl, _, rfl, l, ws, i, rfl, hl, ?_⟩
    rw [d1]
    refine ⟨_, rfl, rfl, _, rfl, ift eRf ?_⟩
    refine ⟨_, rfl, _, rfl, _, _, rfl, rfl, _, rfl, l, na, ws, nm, w2, post, i + 1, u, ns, rfl, hl, hn, hT, d2, hp, ⟨rd, hh, hg, hnd, hnm2⟩, hw, hnm, fun H1 p v g1 ep av => ?_⟩
    refine q H1 p v g1 ?_ av
    rw [ep, List.length_cons, show i + 1 + w2.length = i + (w2.length + 1) by omega]
  | name k =>
    obtain ⟨u, e, r⟩ := rd
    subst e
    have hu := r.wd
    obtain ⟨d1, d2, d3⟩ := drop_getD (show ws.drop i = u :: post from hd)
    have d4 := drop_head d2
    refine ⟨_, rfl, _, rfl, l, ws, i, rfl, hl, ?_⟩
    rw [d1]
    refine ⟨_, rfl, rfl, _, rfl, iff' (hu.no marks_no.2.2.2.2.2.2) ?_⟩
    refine ⟨_, rfl, u, rfl, _, rfl, ?_⟩
    rw [hu.lettered]
    refine iteF ?_
    refine ⟨_, rfl, _, rfl, _, _, rfl, rfl, l, ws, i + 1, rfl, hl, rfl, _, rfl, ?_⟩
    rw [d4]
    refine iff' (decide_eq_false fun z => p3 (V.str.inj z)) ?_
    have hin : u ∈ nm := List.mem_reverse.mp (List.mem_of_getElem? r.at_)
    refine ⟨_, rfl, _, rfl, na, _, rfl, .inr (SqT.of hn), rfl, flat_strs nm, _, rfl, ift ?_ ?_⟩
    · rw [inV_str]; exact decide_eq_true hin
    refine ⟨_, rfl, na, _, rfl, SqT.of hn, fun a1 h1 => ?_⟩
    have g1 := Gr.new0 (X := []) (o := .tup (nm.map V.str).reverse) hT h1
    have e1 : (upd H a1 (.tup (nm.map V.str).reverse)) a1 = some (.tup (nm.reverse.map V.str)) := by rw [upd_same, List.map_reverse]
    refine ⟨_, rfl, nm.reverse, u, k, rfl, SqT.of e1, r.at_, r.fst, ?_⟩
    refine ⟨szl (by show 2 ≤ 10000000; decide), fun a2 h2 => ⟨_, rfl, _, _, rfl, rfl, szl (by show 2 ≤ 10000000; decide), fun a3 h3 => ?_⟩⟩
    have g2 := Gr.new0 (X := []) (o := .tup [.str "name", .int (k : Int)]) g1.tab h2
    have g3 := Gr.new0 (X := []) (o := .tup [.ref a2, .int ((i : Int) + 1)]) g2.tab h3
    exact q _ a3 (.ref a2) ((g1.trans g2).trans g3) upd_same ⟨a2, rfl, g3.tup _ _ upd_same⟩
  | sign u ps =>
    obtain ⟨hu, rd⟩ := rd
    rcases rd with ⟨rfl, e, hni⟩ | ⟨bd, e, r⟩
    · subst e
      obtain ⟨d1, d2, d3⟩ := drop_getD (show ws.drop i = u :: post from hd)
      have d4 := drop_head d2
      refine ⟨_, rfl, _, rfl, l, ws, i, rfl, hl, ?_⟩
      rw [d1]
      refine ⟨_, rfl, rfl, _, rfl, iff' (hu.no marks_no.2.2.2.2.2.2) ?_⟩
      refine ⟨_, rfl, u, rfl, _, rfl, ?_⟩
      rw [hu.lettered]
      refine iteF ?_
      refine ⟨_, rfl, _, rfl, _, _, rfl, rfl, l, ws, i + 1, rfl, hl, rfl, _, rfl, ?_⟩
      rw [d4]
      refine iff' (decide_eq_false fun z => p3 (V.str.inj z)) ?_
      refine ⟨_, rfl, _, rfl, na, _, rfl, .inr (SqT.of hn), rfl, flat_strs nm, _, rfl, iff' ?_ ?_⟩
      · rw [inV_str]; exact decide_eq_false hni
      refine ⟨_, rfl, szl (by decide), fun a1 h1 => ⟨szl (by show 3 ≤ 10000000; decide), fun a2 h2 => ⟨_, rfl, _, _, rfl, rfl, szl (by show 2 ≤ 10000000; decide), fun a3 h3 => ?_⟩⟩⟩
      have g1 := Gr.new0 (X := []) (o := .tup []) hT h1
      have g2 := Gr.new0 (X := []) (o := .tup [.str "sign", .str u, .ref a1]) g1.tab h2
      have g3 := Gr.new0 (X := []) (o := .tup [.ref a2, .int ((i : Int) + 1)]) g2.tab h3
      exact q _ a3 (.ref a2) ((g1.trans g2).trans g3) upd_same ⟨a2, a1, [], rfl, g3.tup _ _ upd_same, g3.tup _ _ (g2.tup _ _ upd_same), rfl⟩
    · subst e
      have hd : ws.drop i = u :: (mO :: (bd ++ mC :: post)) := by rw [hd]; simp
      obtain ⟨d1, d2, d3⟩ := drop_getD hd
      obtain ⟨d4, d5, d6⟩ := drop_getD d2
      refine ⟨_, rfl, _, rfl, l, ws, i, rfl, hl, ?_⟩
      rw [d1]
      refine ⟨_, rfl, rfl, _, rfl, iff' (hu.no marks_no.2.2.2.2.2.2) ?_⟩
      refine ⟨_, rfl, u, rfl, _, rfl, ?_⟩
      rw [hu.lettered]
      refine iteF ?_
      refine ⟨_, rfl, _, rfl, _, _, rfl, rfl, l, ws, i + 1, rfl, hl, rfl, _, rfl, ?_⟩
      rw [d4]
      refine ift (by decide +kernel) ?_
      rw [ht_sign] at hh
      rw [nd_sign] at hnd
      have r2 : RdIs (RP B n nm) (tsL ps) bd := RdIs.imp (fun z hz ws r => (by
        obtain ⟨j, hj⟩ := List.mem_iff_getElem?.mp hz
        obtain ⟨h1, h2⟩ := htL_get hj
        exact ⟨r, by omega, gtL_get hg.2.2 hz, by omega, by omega, hg.2.1.2 z hz⟩)) (rdL_is r)
      refine ⟨_, rfl, _, rfl, _, _, rfl, rfl, _, rfl, l, na, ws, nm, bd, post, i + 2, tsL ps, mC, rfl, hl, hn, hT, d5, .inl rfl, r2, hw, hnm, by have := tsL_len ps; omega, fun H1 p q1 vs g1 ep eq1 av => ?_⟩
      refine ⟨p, _, rfl, SqT.of ep, rfl, _, _, rfl, _, _, rfl, rfl, ?_⟩
      refine ⟨_, rfl, _, rfl, szl (by show 3 ≤ 10000000; decide), fun a2 h2 => ⟨_, rfl, szl (by show 2 ≤ 10000000; decide), fun a3 h3 => ?_⟩⟩
      have g2 := Gr.new0 (X := []) (o := .tup [.str "sign", .str u, .ref q1]) g1.tab h2
      have g3 := Gr.new0 (X := []) (o := .tup [.ref a2, .int ((i + 2 + bd.length + 1 : Nat) : Int)]) g2.tab h3
      have an : AtL H1 ps vs := atL_ps.mpr (AtPs.of av.len av.get)
      refine q _ a3 (.ref a2) ((g1.trans g2).trans g3) ?_ ⟨a2, q1, vs, rfl, g3.tup _ _ upd_same, g3.tup _ _ (g2.tup _ _ eq1), (an.mono g2).mono g3⟩
      rw [upd_same]
      simp only [List.length_cons, List.length_append, List.length_nil]
      have : i + 2 + bd.length + 1 = i + (bd.length + (0 + 1) + 1 + 1) := by omega
      rw [this]
theorem ok_termf (S : Cn K mg base) (T : List NTab) (B : List Str) (hW : Has P w K mg base "word_at" 1 ["words", "spot"] [] spWordAt) (hL : Has P w K mg base "is_lettered" 1 ["word"] [] spLettered)
    (hB : Has P w K mg base "bound_words" 2 ["words", "spot"] [] (spBound T)) (hK : Has P w K mg base "look_for" 2 ["words", "spot", "wanted"] [] spLook) : ∀ n, Has P w K mg base "term_from" (3 * n + 3) ["words", "spot", "names"] [] (spOne T (RT B n) At)
  | 0 => by
    refine Has.imp (Has.mono (has_zero (d := d_term_from) S 49 35 (ps := ["words", "spot", "names"]) (sp := fun _ _ _ _ => False) rfl rfl rfl rfl rfl (fun _ _ _ _ _ _ us hl => match us, hl with | [_, _, _], _ => rfl) (fun vs H Q E h => h)) (Nat.zero_le _)) fun vs H Q E h => ?_
    obtain ⟨l, na, ws, nm, w1, post, i, t, _, _, _, _, _, _, ⟨_, hh, _⟩, _⟩ := h
    have := HF.ht_pos t
    omega
  | n + 1 => by
    have ih := ok_termf S T B hW hL hB hK n
    have hp := ok_part S T B n hB ih
    have r1 := ok_row S T (3 * n + 4) "part_from" _ (RP B n) AtP (fun X H H' x v g h => h.mono g) (by omega) (S.glo 32) hp hW hK
    have r2 := ok_row S T (3 * n + 3) "term_from" _ (RT B n) At (fun X H H' x v g h => h.mono g) (by omega) (S.glo 35) ih hW hK
    exact ok_termf1 S T B n hW hL r1 (ok_holef S T B n hW hL r2)
end

end HW
end
section
set_option Elab.async false
set_option linter.all false
set_option maxRecDepth 100000
set_option maxHeartbeats 4000000
namespace HW
open PySem PySem.Spec PyProof.Rows L2 NdefX LamX
/-! ### look_at_holes -/
open TL
section
variable {P : Program} {w : World} {K : PySem.W.Frag} {mg : Str → Option Value} {base : Heap}
def spLookH (T : List NTab) (n : Nat) : Sp := fun vs H Q _ => ∃ (t : Tm) (v : V) (d : Addr) (kvs : List (Key × V)) (S0 : List (Str × Nat)), vs = [v, .ref d] ∧ At H t v ∧ H d = some (.dK kvs) ∧ Cnt kvs S0 ∧ TabsN T H ∧ HF.ht t ≤ n ∧ HF.nd t ≤ 1000000 ∧ fnl (S0 ++ HF.hs t) ∧ S0.length + (HF.hs t).length ≤ 100000 ∧
  ∀ H' kvs', Gr T [d] H H' → H' d = some (.dK kvs') → Cnt kvs' (S0 ++ HF.hs t) → Q .non H'
theorem sc_look_at_holes : FnScope ["term", "seen", "many", "inner"] ["term", "seen"] (defScope s_look_at_holes) := ⟨rfl, rfl, rfl, by decide +kernel, rfl, by decide +kernel, by decide +kernel⟩
theorem ok_lookh1 (S : Cn K mg base) (T : List NTab) (n : Nat) (ih : Has P w K mg base "look_at_holes" n ["term", "seen"] [] (spLookH T n)) :
    Has P w K mg base "look_at_holes" (n + 1) ["term", "seen"] [] (spLookH T (n + 1)) := by
  refine has_of (d := d_look_at_holes) S 50 36 rfl rfl rfl rfl rfl sc_look_at_holes (fun vs H Q E h => ?_) (fun _ _ _ _ _ _ us hl => match us, hl with | [_, _], _ => rfl) (fun f cdv A outer s H vs Q E hr h => ?_)
  · obtain ⟨t, v, d, kvs, S0, rfl, _⟩ := h
    rfl
  refine ⟨_, (pss_cons (ps_if (ptEq (ixT (pv 0))) (pss_one (ps_for PassesOwn.never rfl (pi_tup (ixT (pv 0))) (pg_tup rfl (pgs_cons (pg_name (i := 2) sc_look_at_holes.nd rfl (Or.inl rfl)) (pgs_cons (pg_name (i := 3) sc_look_at_holes.nd rfl (Or.inl rfl)) pgs_nil))) (pss_one (ps_expr (pe_hs ih hr (by omega) rfl (pa_cons (pv 3) (pa_cons (pv 1) pa_nil))))))) pss_nil) (pss_one (ps_if (ptEq (ixT (pv 0))) (pss_cons (ps_if (pt_cmpR op_ne (pe_dsetd (pv 1) (ixT (pv 0)) (pe_callB call_len_seq (by rfl) (S.free 58) (by decide +kernel) (pa_cons (ixT (pv 0)) pa_nil)) ⟨rfl, rfl, rfl, rfl⟩) (pe_callB call_len_seq (by rfl) (S.free 58) (by decide +kernel) (pa_cons (ixT (pv 0)) pa_nil)) (nomark _)) (pss_one ps_never) pss_nil) (pss_one (ps_for PassesOwn.never rfl (pi_tup (ixT (pv 0))) (pg_name (i := 3) sc_look_at_holes.nd rfl (Or.inl rfl)) (pss_one (ps_expr (pe_hs ih hr (by omega) rfl (pa_cons (pv 3) (pa_cons (pv 1) pa_nil)))))))) pss_nil))), ?_⟩
  obtain ⟨t, v, d, kvs, S0, rfl, ht, hd, hc, hT, hh, hnd, hf, hl, q⟩ := h
  cases t with
  | name k =>
    obtain ⟨a, rfl, h1⟩ := ht
    refine ⟨_, rfl, a, _, 0, _, rfl, rfl, SqT.of h1, rfl, rfl, _, rfl, iff' eNS ?_⟩
    refine ⟨_, rfl, a, _, 0, _, rfl, rfl, SqT.of h1, rfl, rfl, _, rfl, iff' eNH ?_⟩
    exact q H kvs (Gr.refl hT) hd (by rw [show HF.hs (HF.T.name k : Tm) = [] from rfl, List.append_nil]; exact hc)
  | sign u ps =>
    obtain ⟨a, b, vs, rfl, h1, h2, h3⟩ := ht
    have h4 := atL_ps.mp h3
    have h5 := h4.len
    rw [ht_sign] at hh
    rw [nd_sign] at hnd
    have ehs : HF.hs (HF.T.sign u ps) = hsP (tsL ps) := hsL_P ps
    rw [ehs] at hf hl q
    refine ⟨_, rfl, a, _, 0, _, rfl, rfl, SqT.of h1, rfl, rfl, _, rfl, ift eRf ?_⟩
    refine ⟨_, rfl, a, _, 2, _, rfl, rfl, SqT.of h1, rfl, b, rfl, ⟨_, SqT.of h2⟩, ?_⟩
    refine for_tup (K := K) (a := b) (xs := vs) (fun i σ H' => ∃ o1 o2 kvs', σ = [some (.ref a), some (.ref d), o1, o2] ∧ Gr T [d] H H' ∧ H' d = some (.dK kvs') ∧ Cnt kvs' (S0 ++ hsP ((tsL ps).take i))) ⟨_, _, kvs, rfl, Gr.refl hT, hd, by rw [show hsP ((tsL ps).take 0) = [] from rfl, List.append_nil]; exact hc⟩ (fun i σ H' _ ⟨_, _, _, _, g, _⟩ => SqT.of (g.tup _ _ h2)) ?_ ?_
    · rintro i x σ H' hx ⟨o1, o2, kvs', rfl, g, ed, cc⟩
      obtain ⟨z, ez, p⟩ := h4.get hx
      obtain ⟨c, tv, rfl, p1, p2⟩ := p.mono g
      obtain ⟨l1, l2⟩ := htL_get ez
      have esn : hsP ((tsL ps).take (i + 1)) = hsP ((tsL ps).take i) ++ HF.hs z.2 := by rw [take_snoc ez, hsP_snoc]
      have lall : (hsP ((tsL ps).take (i + 1))).length ≤ (hsP (tsL ps)).length := by
        conv => rhs; rw [← List.take_append_drop (i + 1) (tsL ps)]
        unfold hsP
        rw [List.flatMap_append, List.length_append]
        omega
      rw [esn, List.length_append] at lall
      have sub : ∀ p ∈ hsP ((tsL ps).take (i + 1)), p ∈ hsP (tsL ps) := fun p hp => (let ⟨y, a1, a2⟩ := List.mem_flatMap.mp hp; List.mem_flatMap.mpr ⟨y, List.mem_of_mem_take a1, a2⟩)
      refine ⟨c, _, rfl, SqT.of p1, rfl, _, _, rfl, _, _, rfl, rfl, ?_⟩
      refine ⟨_, rfl, _, rfl, z.2, tv, d, kvs', _, rfl, p2, ed, cc, g.tab, by omega, by omega, ?_, ?_, fun H2 k2 g2 ed2 c2 => ?_⟩
      · rw [List.append_assoc, ← esn]
        exact hf.mono fun p hp => (List.mem_append.mp hp).elim (List.mem_append_left _) fun q => List.mem_append_right _ (sub p q)
      · rw [List.length_append]; omega
      · exact ⟨_, _, k2, rfl, g.trans g2, ed2, by rw [esn, ← List.append_assoc]; exact c2⟩
    · rintro σ H' ⟨o1, o2, kvs', rfl, g, ed, cc⟩
      rw [h5, List.take_length] at cc
      refine ⟨_, rfl, a, _, 0, _, rfl, rfl, SqT.of (g.tup _ _ h1), rfl, rfl, _, rfl, iff' eSH ?_⟩
      exact q H' kvs' g ed cc
  | hole u ns =>
    obtain ⟨a, b, vs, rfl, h1, h2, h3⟩ := ht
    have h5 := h3.len
    have hh2 : HF.ht (HF.T.hole u ns) = 2 := rfl
    have ehs : HF.hs (HF.T.hole u ns) = [(u, ns.length)] := rfl
    rw [ehs] at hf hl q
    refine ⟨_, rfl, a, _, 0, _, rfl, rfl, SqT.of h1, rfl, rfl, _, rfl, iff' eHS ?_⟩
    refine ⟨_, rfl, a, _, 0, _, rfl, rfl, SqT.of h1, rfl, rfl, _, rfl, ift eRf ?_⟩
    have hl1 := hc.len
    refine ⟨_, rfl, d, rfl, .inl ⟨_, .inl hd⟩, _, rfl, a, _, 1, _, rfl, rfl, SqT.of h1, rfl, _, rfl, a, _, 2, _, rfl, rfl, SqT.of h1, rfl, b, _, rfl, .inr (SqT.of h2), kvs, .inr u, hd, rfl, szl' (by omega), fun y hy => ?_, fun hy => ?_⟩
    · obtain ⟨x, c, e1, e2⟩ := hc.mem _ (mem_of_valV hy)
      have ex : u = x := Sum.inr.inj (congrArg Prod.fst e1)
      have ey : y = .int ((c : Nat) : Int) := congrArg Prod.snd e1
      subst ex
      have ec : c = ns.length := hf u c ns.length (List.mem_append_left _ e2) (List.mem_append_right _ (List.mem_singleton.mpr rfl))
      subst ec
      subst ey
      have g0 := Gr.refl (X := [d]) hT
      have ed0 := hd
      have cc0 : Cnt kvs (S0 ++ [(u, ns.length)]) := hc.mem_imp (fun p => ⟨fun h => List.mem_append_left _ h, fun h => (List.mem_append.mp h).elim id fun h => by rw [List.mem_singleton.mp h]; exact e2⟩) (by rw [List.length_append]; omega)
      refine ⟨_, rfl, a, _, 2, _, rfl, rfl, SqT.of (g0.tup _ _ h1), rfl, b, _, rfl, .inr (SqT.of (g0.tup _ _ h2)), rfl, _, rfl, iff' ?_ ?_⟩
      · show (!decide (V.int _ = V.int ((vs.length : Nat) : Int))) = false
        rw [h5, decide_eq_true rfl]; rfl
      refine ⟨_, rfl, a, _, 2, _, rfl, rfl, SqT.of (g0.tup _ _ h1), rfl, b, rfl, ⟨_, SqT.of (g0.tup _ _ h2)⟩, ?_⟩
      refine for_tup (K := K) (a := b) (xs := vs) (fun i σ H' => ∃ o1 o2 kvs', σ = [some (.ref a), some (.ref d), o1, o2] ∧ Gr T [d] H H' ∧ H' d = some (.dK kvs') ∧ Cnt kvs' (S0 ++ [(u, ns.length)])) ⟨_, _, _, rfl, g0, ed0, cc0⟩ (fun i σ H' _ ⟨_, _, _, _, g, _⟩ => SqT.of (g.tup _ _ h2)) ?_ ?_
      · rintro i x σ H' hx ⟨o1, o2, kvs', rfl, g, ed, cc⟩
        obtain ⟨k, ek, p⟩ := h3.get hx
        refine ⟨_, rfl, _, rfl, .name k, x, d, kvs', _, rfl, p.mono g, ed, cc, g.tab, by show 1 ≤ n; omega, by show 1 ≤ 1000000; decide, ?_, ?_, fun H2 k2 g2 ed2 c2 => ?_⟩
        · rw [show HF.hs (HF.T.name k : Tm) = [] from rfl, List.append_nil]; exact hf
        · rw [show HF.hs (HF.T.name k : Tm) = [] from rfl, List.length_append]; simpa using hl
        · rw [show HF.hs (HF.T.name k : Tm) = [] from rfl, List.append_nil] at c2
          exact ⟨_, _, k2, rfl, g.trans g2, ed2, c2⟩
      · rintro σ H' ⟨o1, o2, kvs', rfl, g, ed, cc⟩
        exact q H' kvs' g ed cc
    · have g0 := (Gr.refl (X := [d]) hT).mutD (o := .dK (putK kvs (.inr u) (.int ((vs.length : Nat) : Int)))) (.inr (by simp)) hd
      have ed0 : (upd H d (.dK (putK kvs (.inr u) (.int ((vs.length : Nat) : Int))))) d = _ := upd_same
      have cc0 : Cnt (putK kvs (.inr u) (.int ((vs.length : Nat) : Int))) (S0 ++ [(u, ns.length)]) := by rw [h5]; exact hc.put hf
      generalize upd H d (.dK (putK kvs (.inr u) (.int ((vs.length : Nat) : Int)))) = H0 at g0 ed0 ⊢
      refine ⟨_, rfl, a, _, 2, _, rfl, rfl, SqT.of (g0.tup _ _ h1), rfl, b, _, rfl, .inr (SqT.of (g0.tup _ _ h2)), rfl, _, rfl, iff' ?_ ?_⟩
      · show (!decide (V.int _ = V.int ((vs.length : Nat) : Int))) = false
        rw [decide_eq_true rfl]; rfl
      refine ⟨_, rfl, a, _, 2, _, rfl, rfl, SqT.of (g0.tup _ _ h1), rfl, b, rfl, ⟨_, SqT.of (g0.tup _ _ h2)⟩, ?_⟩
      refine for_tup (K := K) (a := b) (xs := vs) (fun i σ H' => ∃ o1 o2 kvs', σ = [some (.ref a), some (.ref d), o1, o2] ∧ Gr T [d] H H' ∧ H' d = some (.dK kvs') ∧ Cnt kvs' (S0 ++ [(u, ns.length)])) ⟨_, _, _, rfl, g0, ed0, cc0⟩ (fun i σ H' _ ⟨_, _, _, _, g, _⟩ => SqT.of (g.tup _ _ h2)) ?_ ?_
      · rintro i x σ H' hx ⟨o1, o2, kvs', rfl, g, ed, cc⟩
        obtain ⟨k, ek, p⟩ := h3.get hx
        refine ⟨_, rfl, _, rfl, .name k, x, d, kvs', _, rfl, p.mono g, ed, cc, g.tab, by show 1 ≤ n; omega, by show 1 ≤ 1000000; decide, ?_, ?_, fun H2 k2 g2 ed2 c2 => ?_⟩
        · rw [show HF.hs (HF.T.name k : Tm) = [] from rfl, List.append_nil]; exact hf
        · rw [show HF.hs (HF.T.name k : Tm) = [] from rfl, List.length_append]; simpa using hl
        · rw [show HF.hs (HF.T.name k : Tm) = [] from rfl, List.append_nil] at c2
          exact ⟨_, _, k2, rfl, g.trans g2, ed2, c2⟩
      · rintro σ H' ⟨o1, o2, kvs', rfl, g, ed, cc⟩
        exact q H' kvs' g ed cc
theorem ok_lookh (S : Cn K mg base) (T : List NTab) : ∀ n, Has P w K mg base "look_at_holes" n ["term", "seen"] [] (spLookH T n)
  | 0 => by
    exact has_zero (d := d_look_at_holes) S 50 36 rfl rfl rfl rfl rfl (fun _ _ _ _ _ _ us hl => match us, hl with | [_, _], _ => rfl) (fun vs H Q E h => by
      obtain ⟨t, v, d, kvs, S0, _, _, _, _, _, hh, _⟩ := h
      have := HF.ht_pos t
      omega)
  | n + 1 => ok_lookh1 S T n (ok_lookh S T n)
/-! ### read -/
/-- a text that reads as a term -/
structure Rx (B : List Str) (n : Nat) (t : HF.T Str) (z : Str) : Prop where
  ok : ∀ c ∈ tl z, okc c
  few : ∀ u ∈ lexs z, u.length ≤ 8
  sz : z.length ≤ 1000000
  rd : Rd [] t (lexs z)
  hh : HF.ht t ≤ n
  g : gt B t
  nn : HF.nd t ≤ 1000000
  f : fnl (HF.hs t)
  l : (HF.hs t).length ≤ 100000
  b : 2 * n ≤ 700
def spRead (T : List NTab) (B : List Str) (n : Nat) : Sp := fun vs H Q _ => ∃ (t : Tm) (z : Str) (nv : V), vs = [.str z, nv] ∧ (nv = .non ∨ ∃ a, nv = .ref a ∧ H a = some (.tup [])) ∧ TabsN T H ∧ Rx B n t z ∧
  ∀ H' v, Gr T [] H H' → At H' t v → Q v H'
theorem sc_read : FnScope ["text", "names", "words", "term", "spot"] ["text", "names"] (defScope s_read) := ⟨rfl, rfl, rfl, by decide +kernel, rfl, by decide +kernel, by decide +kernel⟩
theorem ok_read (S : Cn K mg base) (T : List NTab) (B : List Str) (n : Nat) (hW : Has P w K mg base "words_of" 1 ["text"] [] (spWords T)) (hT : Has P w K mg base "term_from" (3 * n + 3) ["words", "spot", "names"] [] (spOne T (RT B n) At)) (hK : Has P w K mg base "look_at_holes" n ["term", "seen"] [] (spLookH T n)) :
    Has P w K mg base "read" (3 * n + 4) ["text", "names"] [] (spRead T B n) ∧ Has P w K mg base "read" (3 * n + 4) ["text", "names"] [.non] (spRead T B n) := by
  refine hasD (d := d_read) S 51 37 rfl rfl rfl rfl rfl (fun _ _ _ _ _ _ _ us its hl hi => match us, its, hl, hi with | [_, _], [_], _, _ => ⟨_, rfl, rfl⟩) (fun _ _ _ _ _ _ _ us its hl hi => match us, its, hl, hi with | [_], [_], _, _ => ⟨_, rfl, rfl⟩) (by decide) (fun fd F => F.ok sc_read (fun vs H Q E h => ?_) fun cdv A outer s H vs Q E hr h => ?_)
  · obtain ⟨t, z, nv, rfl, _⟩ := h
    rfl
  refine ⟨_, PSs.nox (pss_cons (ps_set (i := 2) sc_read.nd rfl (Or.inl rfl) (pe_hs hW hr (by omega) rfl (pa_cons (pv 0) pa_nil))) (pss_cons (ps_asg (pe_hs hT hr (by omega) rfl (pa_cons (pv 2) (pa_cons pe_int (pa_cons (pe_callTy call_tuple_of (by rfl) (S.free 61) (by decide +kernel) (pa_cons (pe_orT (pv 1) (pe_one (pe_lst pa_nil))) pa_nil)) pa_nil)))) (pg_tup rfl (pgs_cons (pg_name (i := 3) sc_read.nd rfl (Or.inl rfl)) (pgs_cons (pg_name (i := 4) sc_read.nd rfl (Or.inl rfl)) pgs_nil)))) (pss_cons (ps_if (pt_cmpR op_lt (pv 4) (pe_callB call_len_seq (by rfl) (S.free 58) (by decide +kernel) (pa_cons (pv 2) pa_nil)) (nomark _)) (pss_one ps_never) pss_nil) (pss_cons (ps_expr (pe_hs hK hr (by omega) rfl (pa_cons (pv 3) (pa_cons pe_dnewK pa_nil)))) (pss_one (ps_ret (pv 3))))))), ?_⟩
  obtain ⟨t, z, nv, rfl, hnv, hTb, rx, q⟩ := h
  have hs := rx.sz
  refine ⟨_, rfl, z, rfl, hTb, rx.ok, rx.few, by omega, fun H1 l g1 hl0 el => ?_⟩
  have llen : (lexs z).length ≤ 3000000 := by
    have := (fold_len (tl z ++ [32]) ([], ("" : Str))).1
    rw [List.length_append, List.length_singleton, ← len_tl] at this
    simp only [List.length_nil] at this
    show ((tl z ++ [32]).foldl lxs ([], ("" : Str))).1.length ≤ _
    omega
  refine ⟨_, rfl, _, rfl, false, ?_, iteF ⟨szl (by decide), fun e1 h1 => ?_⟩⟩
  · rcases hnv with rfl | ⟨a, rfl, ea⟩
    · rfl
    · exact .inr (.inl ⟨[], SqT.of (g1.tup _ _ ea), rfl⟩)
  have g2 := g1.new (o := .lst []) h1
  refine ⟨e1, _, rfl, .inl ⟨SqL.of upd_same, fun na h2 => ?_⟩⟩
  have g3 := g2.new (o := .tup []) h2
  have el3 := ((Gr.new0 (X := []) (o := .lst []) g1.tab h1).new (o := .tup []) h2).lst el
  refine ⟨l, na, lexs z, [], lexs z, [], 0, t, rfl, el3, upd_same, g3.tab, by rw [List.drop_zero, List.append_nil], .inl rfl, ⟨rx.rd, rx.hh, rx.g, rx.nn, by simpa using rx.b⟩, by omega, by simp, fun H4 p v g4 ep av => ?_⟩
  refine ⟨p, _, rfl, SqT.of ep, rfl, _, _, rfl, _, _, rfl, rfl, ?_⟩
  have el4 := g4.lst el3
  refine ⟨_, rfl, _, rfl, l, _, rfl, .inl (SqL.of el4), _, _, rfl, rfl, _, rfl, iff' ?_ ?_⟩
  · rw [List.length_map]
    exact decide_eq_false (by omega)
  refine ⟨_, rfl, fun d hd => ?_⟩
  have g5 := Gr.new0 (X := []) (o := .dK []) g4.tab hd
  refine ⟨t, v, d, [], [], rfl, av.mono g5, upd_same, Cnt.nil, g5.tab, rx.hh, rx.nn, by simpa using rx.f, by simpa using rx.l, fun H6 k6 g6 ed6 c6 => ?_⟩
  have gx : Gr T [d] H4 H6 := g5.wide.trans g6
  refine ⟨_, rfl, q H6 v ?_ (av.mono gx)⟩
  exact (g3.trans g4).trans ((Gr.refl g4.tab).drop hd gx)
end

end HW
end
section
set_option Elab.async false
set_option linter.all false
set_option maxRecDepth 100000
set_option maxHeartbeats 4000000
namespace HW
open PySem PySem.Spec PyProof.Rows L2 NdefX LamX
/-! ### look_alike -/
open TL
section
variable {P : Program} {w : World} {K : PySem.W.Frag} {mg : Str → Option Value} {base : Heap}
def spAlk (T : List NTab) (n : Nat) : Sp := fun vs H Q _ => ∃ (lt dk : Addr) (tv : List V) (ts : List Tm) (kvs : List (Key × V)) (S0 : List (Str × Nat)), vs = [.ref lt, .ref dk] ∧ H lt = some (.lst tv) ∧ AtV H ts tv ∧ H dk = some (.dK kvs) ∧ Cnt kvs S0 ∧ TabsN T H ∧
  (∀ t ∈ ts, HF.ht t ≤ n ∧ HF.nd t ≤ 1000000) ∧ fnl (S0 ++ tsH ts) ∧ S0.length + (tsH ts).length ≤ 100000 ∧ ∀ H', Gr T [] H H' → Q .non H'
theorem sc_look_alike : FnScope ["terms", "known", "counts", "term", "word", "many"] ["terms", "known"] (defScope s_look_alike) := ⟨rfl, rfl, rfl, by decide +kernel, rfl, by decide +kernel, by decide +kernel⟩
theorem ok_alk (S : Cn K mg base) (T : List NTab) (n : Nat) (hH : Has P w K mg base "holes_of" (n + 1) ["term"] [] (spHoles T n)) :
    Has P w K mg base "look_alike" (n + 2) ["terms", "known"] [] (spAlk T n) := by
  refine has_of (d := d_look_alike) S 54 40 rfl rfl rfl rfl rfl sc_look_alike (fun vs H Q E h => ?_) (fun _ _ _ _ _ _ us hl => match us, hl with | [_, _], _ => rfl) (fun f cdv A outer s H vs Q E hr h => ?_)
  · obtain ⟨lt, dk, tv, ts, kvs, S0, rfl, _⟩ := h
    rfl
  refine ⟨_, (pss_cons (ps_set (i := 2) sc_look_alike.nd rfl (Or.inl rfl) (pe_callTy call_dictD (by rfl) (S.free 66) (by decide +kernel) (pa_cons (pv 1) pa_nil))) (pss_one (ps_for PassesOwn.never rfl (pi_list (pv 0)) (pg_name (i := 3) sc_look_alike.nd rfl (Or.inl rfl)) (pss_one (ps_for PassesOwn.never rfl (pi_items (pe_frz (pe_hs hH hr (by omega) rfl (pa_cons (pv 3) pa_nil)))) (pg_tup rfl (pgs_cons (pg_name (i := 4) sc_look_alike.nd rfl (Or.inl rfl)) (pgs_cons (pg_name (i := 5) sc_look_alike.nd rfl (Or.inl rfl)) pgs_nil))) (pss_cons (ps_if (pt_cmpR op_ne (pe_dget2 (hu_of hr) (pv 2) (pv 4) (pv 5) ⟨rfl, rfl, rfl, rfl⟩) (pv 5) (nomark _)) (pss_one ps_never) pss_nil) (pss_one (ps_dput (hu_of hr) (pv 2) (pv 4) (pv 5) rfl)))))))), ?_⟩
  obtain ⟨lt, dk, tv, ts, kvs, S0, rfl, hl, atv, hdk, hc, hT, hts, hf, hlen, q⟩ := h
  refine ⟨_, rfl, dk, kvs, rfl, .inl hdk, fun d hd => ?_⟩
  have g0 := Gr.new0 (X := []) (o := .dK kvs) hT hd
  have ndl : d ≠ lt := fun z => by rw [z, hl] at hd; cases hd
  refine ⟨_, rfl, lt, rfl, ⟨_, SqL.of (g0.lst hl)⟩, ?_⟩
  refine for_list (K := K) (a := lt) (xs := tv) (fun i σ H' => ∃ o1 o2 o3 kvs', σ = [some (.ref lt), some (.ref dk), some (.ref d), o1, o2, o3] ∧ Gr T [] H H' ∧ H' d = some (.dK kvs') ∧ Cnt kvs' (S0 ++ tsH (ts.take i))) ⟨_, _, _, kvs, rfl, g0, upd_same, by simpa [tsH] using hc⟩ (fun i σ H' _ ⟨_, _, _, _, _, g, _⟩ => SqL.of (g.lst hl)) ?_ ?_
  · rintro i x σ H' hx ⟨o1, o2, o3, kvs', rfl, g, ed, cc⟩
    obtain ⟨t, et, at1⟩ := atv.get i x hx
    have ht := List.mem_of_getElem? et
    obtain ⟨t1, t2⟩ := hts t ht
    have esn : tsH (ts.take (i + 1)) = tsH (ts.take i) ++ HF.hs t := by rw [take_snoc et]; simp [tsH]
    have lall : (tsH (ts.take (i + 1))).length ≤ (tsH ts).length := by
      conv => rhs; rw [← List.take_append_drop (i + 1) ts]
      unfold tsH
      rw [List.flatMap_append, List.length_append]
      omega
    rw [esn, List.length_append] at lall
    have ff : fnl ((S0 ++ tsH (ts.take i)) ++ HF.hs t) := hf.mono fun p hp => by
      rw [List.append_assoc] at hp
      rcases List.mem_append.mp hp with a1 | a1
      · exact List.mem_append_left _ a1
      · rw [← esn] at a1
        obtain ⟨y, h6, h7⟩ := List.mem_flatMap.mp a1
        exact List.mem_append_right _ (List.mem_flatMap.mpr ⟨y, List.mem_of_mem_take h6, h7⟩)
    refine ⟨_, rfl, t, x, rfl, at1.mono g, g.tab, by omega, t1, ff.mono fun p hp => List.mem_append_right _ hp, fun d2 H3 kvs2 g3 hd2 hd3 hc2 => ?_⟩
    refine ⟨d2, _, rfl, hd3, trivial, fun od => ?_⟩
    have g4 := g3.mutD (o := .frz od (.dK kvs2)) (.inl hd2) hd3
    refine ⟨d2, od, kvs2, rfl, upd_same, ?_⟩
    have nd2 : d2 ≠ d := fun z => by rw [z, ed] at hd2; cases hd2
    refine for_it (walk_items (d := d2) (o := od) (kvs := kvs2)) (fun j σ H' => ∃ o1 o2 o3, σ = [some (.ref lt), some (.ref dk), some (.ref d), o1, o2, o3] ∧ Gr T [] H H' ∧ H' d2 = some (.frz od (.dK kvs2)) ∧ ∃ more, H' d = some (.dK more) ∧ Cnt more ((S0 ++ tsH (ts.take i)) ++ cntOf (kvs2.take j)))
      ⟨_, _, _, rfl, g.trans g4, upd_same, kvs', g4.dK ed, by simpa [cntOf] using cc⟩ (fun j σ H' _ ⟨_, _, _, _, _, e, _⟩ => e) ?_ ?_
    · rintro j x σ H5 H6 hj ⟨o1, o2, o3, rfl, gc, ed2, more, em, cm⟩ ⟨p', x1, x2, rfl, hp', rfl, ex1, ex2⟩
      obtain ⟨y, ey⟩ : ∃ y, kvs2[j]? = some y := ⟨_, List.getElem?_eq_getElem hj⟩
      obtain ⟨u, c, rfl, hm⟩ := hc2.mem y (List.mem_of_getElem? ey)
      obtain ⟨rfl, rfl⟩ := itAt ey ex1 ex2
      have g7 := Gr.new (X := []) (o := .tup [.str u, .int ((c : Nat) : Int)]) gc hp'
      have ed3 : (upd H5 p' (.tup [.str u, .int ((c : Nat) : Int)])) d = some (.dK more) := by rw [upd_ne (ne_of_none em hp')]; exact em
      have ed4 : (upd H5 p' (.tup [.str u, .int ((c : Nat) : Int)])) d2 = some (.frz od (.dK kvs2)) := by rw [upd_ne (ne_of_none ed2 hp')]; exact ed2
      have ecn : cntOf (kvs2.take (j + 1)) = cntOf (kvs2.take j) ++ [(u, c)] := by
        rw [take_snoc ey]
        unfold cntOf
        rw [List.filterMap_append]
        rfl
      have lcn : (cntOf (kvs2.take j)).length ≤ kvs2.length := by
        unfold cntOf
        refine Nat.le_trans (List.length_filterMap_le _ _) ?_
        rw [List.length_take]; omega
      have l2 := hc2.len
      have lm := cm.len
      rw [List.length_append, List.length_append] at lm
      have fu : fnl (((S0 ++ tsH (ts.take i)) ++ cntOf (kvs2.take j)) ++ [(u, c)]) := ff.mono fun p hp => by
        have sb : ∀ p ∈ cntOf kvs2, p ∈ HF.hs t := fun p hp => hc2.of hp
        rcases List.mem_append.mp hp with a1 | a1
        · rcases List.mem_append.mp a1 with a2 | a2
          · exact List.mem_append_left _ a2
          · refine List.mem_append_right _ (sb p ?_)
            unfold cntOf at a2 ⊢
            obtain ⟨z, z1, z2⟩ := List.mem_filterMap.mp a2
            exact List.mem_filterMap.mpr ⟨z, List.mem_of_mem_take z1, z2⟩
        · rw [List.mem_singleton.mp a1]
          exact List.mem_append_right _ hm
      refine ⟨p', _, rfl, SqT.of upd_same, rfl, _, _, rfl, _, _, rfl, rfl, ?_⟩
      refine ⟨_, rfl, d, rfl, .inl ⟨_, .inl ed3⟩, _, rfl, _, rfl, _, DGet.k (k := Sum.inr u) ed3, ?_⟩
      have ev : (valV more (Sum.inr u)).getD (.int ((c : Nat) : Int)) = .int ((c : Nat) : Int) := by
        cases hv : valV more (Sum.inr u) with
        | none => rfl
        | some v =>
          obtain ⟨x, c2, e1, e2⟩ := cm.mem _ (mem_of_valV hv)
          have ex : u = x := Sum.inr.inj (congrArg Prod.fst e1)
          have ey2 : v = .int ((c2 : Nat) : Int) := congrArg Prod.snd e1
          subst ex
          rw [ey2, fu u c2 c (List.mem_append_left _ e2) (List.mem_append_right _ (List.mem_singleton.mpr rfl))]
          rfl
      rw [ev]
      refine ⟨_, rfl, rfl, _, rfl, iff' (by rw [decide_eq_true rfl]; rfl) ?_⟩
      refine ⟨_, rfl, _, rfl, _, rfl, d, _, rfl, DPut.k (k := Sum.inr u) ed3 (szl' (by omega)), ?_⟩
      refine ⟨_, _, _, rfl, g7.mutD (.inl hd) ed3, ?_, _, upd_same, ?_⟩
      · rw [upd_ne nd2]; exact ed4
      · rw [ecn, ← List.append_assoc]
        exact cm.put fu
    · rintro σ H5 ⟨o1, o2, o3, rfl, gc, ed2, more, em, cm⟩
      rw [List.take_length] at cm
      refine ⟨_, _, _, more, rfl, gc, em, ?_⟩
      rw [esn, ← List.append_assoc]
      refine cm.mem_imp (fun p => ⟨fun h => ?_, fun h => ?_⟩) ?_
      · rcases List.mem_append.mp h with a | a
        · exact List.mem_append_left _ a
        · exact List.mem_append_right _ (hc2.of a)
      · rcases List.mem_append.mp h with a | a
        · exact List.mem_append_left _ a
        · exact List.mem_append_right _ (hc2.to a)
      · simp only [List.length_append]
        have l2 := hc2.len
        have : (cntOf kvs2).length ≤ kvs2.length := List.length_filterMap_le _ _
        omega
  · rintro σ H' ⟨o1, o2, o3, kvs', rfl, g, ed, cc⟩
    exact q H' g
end

end HW
end
section
set_option Elab.async false
set_option linter.all false
set_option maxRecDepth 100000
set_option maxHeartbeats 4000000
namespace HW
open PySem PySem.Spec PyProof.Rows L2 NdefX LamX
/-! ### pair_of -/
open TL
theorem okc_no {z : Str} (h : ∀ c ∈ tl z, okc c) {c : Nat} (h1 : isL c = false) (h2 : isM c = false) (h3 : c ≠ 32) : c ∉ tl z := fun m => by
  rcases h c m with q | q | q
  · rw [h1] at q; cases q
  · rw [h2] at q; cases q
  · exact h3 q
theorem eq_tl : tl (" = " : Str) = [32, 61, 32] := by decide +kernel
theorem col_tl : tl (" : " : Str) = [32, 58, 32] := by decide +kernel
theorem sp_tl : tl (" " : Str) = [32] := by decide +kernel
theorem find_eq {za zb : Str} (h : ∀ c ∈ tl za, okc c) : Txt.find (za ++ " = " ++ zb) " = " = ((za.length : Nat) : Int) :=
  find_at (c := 61) (d := 1) (by rw [eq_tl] <;> rfl) (okc_no h (by decide +kernel) (by decide +kernel) (by decide)) (by rw [eq_tl]; decide)
theorem no_col {za : Str} (h : ∀ c ∈ tl za, okc c) : isIn " : " za = false := no_in (c := 58) (d := 1) (by rw [col_tl] <;> rfl) (okc_no h (by decide +kernel) (by decide +kernel) (by decide))
theorem cut_a {za m zb : Str} : cutS (za ++ m ++ zb) none (some ((za.length : Nat) : Int)) = za := by rw [app_assoc']; exact cut_pre za _
theorem cut_b {za m zb : Str} : cutS (za ++ m ++ zb) (some (((za.length : Nat) : Int) + (m.length : Nat))) none = zb := by
  have := cut_post (za ++ m) zb
  rw [len_app] at this
  rw [← this]
  congr 2
section
variable {P : Program} {w : World} {K : PySem.W.Frag} {mg : Str → Option Value} {base : Heap}
def spPairOf (T : List NTab) (B : List Str) (n : Nat) : Sp := fun vs H Q _ => ∃ (za zb : Str) (a b : Tm), vs = [.str (za ++ " = " ++ zb)] ∧ Rx B n a za ∧ Rx B n b zb ∧ TabsN T H ∧
  ∀ H' p va vb, Gr T [] H H' → H' p = some (.tup [.int 0, va, vb]) → At H' a va → At H' b vb → Q (.ref p) H'
theorem sc_pair_of : FnScope ["rest", "left", "right", "names", "listed", "one"] ["rest"] (defScope s_pair_of) := ⟨rfl, rfl, rfl, by decide +kernel, rfl, by decide +kernel, by decide +kernel⟩
theorem ok_pairof (S : Cn K mg base) (T : List NTab) (B : List Str) (n : Nat) (hP : Has P w K mg base "parted" 1 ["text", "mark"] [] (spParted T)) (hR : Has P w K mg base "read" (3 * n + 4) ["text", "names"] [] (spRead T B n)) :
    Has P w K mg base "pair_of" (3 * n + 5) ["rest"] [] (spPairOf T B n) := by
  refine has_of (d := d_pair_of) S 53 39 rfl rfl rfl rfl rfl sc_pair_of (fun vs H Q E h => ?_) (fun _ _ _ _ _ _ us hl => match us, hl with | [_], _ => rfl) (fun f cdv A outer s H vs Q E hr h => ?_)
  · obtain ⟨za, zb, a, b, rfl, _⟩ := h
    rfl
  refine ⟨_, (pss_cons (ps_asg (pe_hs hP hr (by omega) rfl (pa_cons (pv 0) (pa_cons pe_str pa_nil))) (pg_tup rfl (pgs_cons (pg_name (i := 1) sc_pair_of.nd rfl (Or.inl rfl)) (pgs_cons (pg_name (i := 2) sc_pair_of.nd rfl (Or.inl rfl)) pgs_nil)))) (pss_cons (ps_set (i := 3) sc_pair_of.nd rfl (Or.inl rfl) (pe_tup pa_nil)) (pss_cons (ps_if (pt_cmpR op_in_str pe_str (pv 1) (by rfl)) pss_never pss_nil) (pss_cons (ps_set (i := 5) sc_pair_of.nd rfl (Or.inl rfl) (pe_hs hR hr (by omega) rfl (pa_cons (pv 1) (pa_cons (pv 3) pa_nil)))) (pss_one (ps_ret (pe_tup (pa_cons (pe_callB call_len_seq (by rfl) (S.free 58) (by decide +kernel) (pa_cons (pv 3) pa_nil)) (pa_cons (pv 5) (pa_cons (pe_hs hR hr (by omega) rfl (pa_cons (pv 2) (pa_cons (pv 3) pa_nil))) pa_nil)))))))))), ?_⟩
  obtain ⟨za, zb, a, b, rfl, ra, rb, hT, q⟩ := h
  have l1 := ra.sz
  have l2 := rb.sz
  have l3 : (" = " : Str).length = 3 := by decide +kernel
  refine ⟨_, rfl, _, " = ", za.length, rfl, hT, szl (by rw [len_app, len_app]; omega), szl (by omega), find_eq ra.ok, fun H1 p g1 ep => ?_⟩
  rw [cut_a, cut_b] at ep
  refine ⟨p, _, rfl, SqT.of ep, rfl, _, _, rfl, _, _, rfl, rfl, ?_⟩
  refine ⟨szl (by decide), fun e1 h1 => ?_⟩
  have g2 := g1.new (o := .tup []) h1
  refine ⟨_, rfl, _, _, rfl, rfl, _, rfl, iff' (no_col ra.ok) ?_⟩
  refine ⟨_, rfl, _, rfl, a, za, .ref e1, rfl, .inr ⟨e1, rfl, upd_same⟩, g2.tab, ra, fun H3 va g3 av => ?_⟩
  have ee := g3.tup _ _ (upd_same (a := e1))
  refine ⟨_, rfl, e1, _, rfl, .inr (SqT.of ee), _, rfl, _, rfl, _, rfl, b, zb, .ref e1, rfl, .inr ⟨e1, rfl, ee⟩, g3.tab, rb, fun H4 vb g4 bv => ?_⟩
  refine ⟨szl (by show 3 ≤ 10000000; decide), fun p5 h5 => ?_⟩
  have g5 := Gr.new0 (X := []) (o := .tup [.int ((([] : List V).length : Nat) : Int), va, vb]) g4.tab h5
  exact q _ p5 va vb (((g2.trans g3).trans g4).trans g5) upd_same ((av.mono g4).mono g5) (bv.mono g5)
end

end HW
end
section
set_option Elab.async false
set_option linter.all false
set_option maxRecDepth 100000
set_option maxHeartbeats 4000000
namespace HW
open PySem PySem.Spec PyProof.Rows L2 NdefX LamX
/-! ### Desk.pair, Desk.fill -/
open TL
theorem Prs.raw {n : Nat} {B : List Str} {h0 n0 l0 : Nat} (bn : Bn n B h0 n0 l0) {sides : List (HF.Side Str)} {own : List (Str × Nat)} (pr : Prs n B h0 n0 l0 sides own) : ∀ x ∈ sides, (HF.nd x.2.1 ≤ 1900000 ∧ HF.ht x.2.1 ≤ n) ∧ HF.nd x.2.2 ≤ 1900000 ∧ HF.ht x.2.2 ≤ n := fun x hx => by
  have b0 : HF.hB h0 0 ≤ n := Nat.le_trans (hB_le (Nat.zero_le l0)) bn.h
  have b1 : HF.nB n0 0 ≤ 1900000 := Nat.le_trans (nB_le (Nat.zero_le l0)) bn.nd
  obtain ⟨p, q⟩ := pr.bd x hx
  exact ⟨⟨Nat.le_trans p.nd b1, Nat.le_trans p.ht b0⟩, Nat.le_trans q.nd b1, Nat.le_trans q.ht b0⟩
theorem Prs.fn {n : Nat} {B : List Str} {h0 n0 l0 : Nat} {sides : List (HF.Side Str)} {own : List (Str × Nat)} (pr : Prs n B h0 n0 l0 sides own) : fnl (sdsH sides) := fun u c d h1 h2 => HF.fun_of pr.nd ((pr.mem _).mpr h1) ((pr.mem _).mpr h2)
theorem DkAt.mono {K : PySem.W.Frag} {T : List NTab} {H H1 : Hp} {k kdx b dx l r : Addr} {sxs : List V} {sides : List (HF.Side Str)} (g : Gr T [] H H1) (h : DkAt K H k kdx b dx l r sxs sides) : DkAt K H1 k kdx b dx l r sxs sides := ⟨g.ins h.ins, h.bd.mono g⟩
theorem tsH_two (a b : Tm) : tsH [a, b] = HF.hs a ++ HF.hs b := by simp [tsH]
theorem atV_two {H : Hp} {a b : Tm} {va vb : V} (h1 : At H a va) (h2 : At H b vb) : AtV H [a, b] [va, vb] := ⟨rfl, fun i y hy => by
  match i, hy with
  | 0, hy => exact ⟨_, rfl, by rw [← (Option.some.inj hy : va = y)]; exact h1⟩
  | 1, hy => exact ⟨_, rfl, by rw [← (Option.some.inj hy : vb = y)]; exact h2⟩⟩
theorem atV_one {H : Hp} {a : Tm} {va : V} (h1 : At H a va) : AtV H [a] [va] := ⟨rfl, fun i y hy => by
  match i, hy with
  | 0, hy => exact ⟨_, rfl, by rw [← (Option.some.inj hy : va = y)]; exact h1⟩⟩
section
variable {P : Program} {w : World} {K : PySem.W.Frag} {mg : Str → Option Value} {base : Heap}
/-- a text of a pair, ready for the board -/
structure Pin (B : List Str) (n : Nat) (za zb : Str) (x : HF.Side Str) : Prop where
  s0 : x.1 = 0
  a : Rx B n x.2.1 za
  b : Rx B n x.2.2 zb
def spDPair (K : PySem.W.Frag) (T : List NTab) (n : Nat) (B : List Str) (h0 n0 l0 : Nat) : Sp := fun vs H Q _ => ∃ (k kdx b dx l r : Addr) (sxs : List V) (sides : List (HF.Side Str)) (own own' : List (Str × Nat)) (x : HF.Side Str) (za zb : Str), vs = [.ref k, .str (za ++ " = " ++ zb)] ∧ DkAt K H k kdx b dx l r sxs sides ∧ Pin B n za zb x ∧ TabsN T H ∧
  Prs n B h0 n0 l0 sides own ∧ Prs n B h0 n0 l0 (sides ++ [x]) own' ∧
  ∀ H' v, Gr T [l] H H' → DkAt K H' k kdx b dx l r (sxs ++ [v]) (sides ++ [x]) → (¬ HF.Unif (sides ++ [x]) own' → Q (.str "clash") H') ∧ (HF.Unif (sides ++ [x]) own' → Q (.str "filled") H')
theorem sc_Desk_pair : FnScope ["self", "rest", "scope", "one", "other", "found"] ["self", "rest"] (defScope s_Desk_pair) := ⟨rfl, rfl, rfl, by decide +kernel, rfl, by decide +kernel, by decide +kernel⟩
theorem ok_dpair (S : Cn K mg base) (n : Nat) (B : List Str) (h0 n0 l0 : Nat) (bn : Bn n B h0 n0 l0) (hP : Has P w K mg base "pair_of" (3 * n + 5) ["rest"] [] (spPairOf (TT K) B n)) (hL : Has P w K mg base "look_alike" (n + 2) ["terms", "known"] [] (spAlk (TT K) n))
    (hK : C8.Met P w K mg base (n + 2) (He.ga K "Desk") "known" (spKnown K (TT K) n) []) (hT : C8.Met P w K mg base 1 (He.ga K "Board") "tell" (spBTell K (TT K)) []) (hO : C8.Met P w K mg base (5 + n + n + 8) (He.ga K "Board") "outcome" (spBOut K (TT K) n B h0 n0 l0) []) :
    C8.Met P w K mg base (3 * n + 20) (He.ga K "Desk") "pair" (spDPair K (TT K) n B h0 n0 l0) [] := by
  refine met_of (d := d_Desk_pair) S 59 112 105 rfl rfl rfl rfl rfl rfl sc_Desk_pair (fun vs H Q E h => ?_) (fun _ _ _ _ _ _ us hl => match us, hl with | [_, _], _ => rfl) (fun f cdv A outer s H vs Q E hr h => ?_)
  · obtain ⟨k, kdx, b, dx, l, r, sxs, sides, own, own', x, za, zb, rfl, _⟩ := h
    rfl
  refine ⟨_, (pss_cons (ps_asg (pe_hs hP hr (by omega) rfl (pa_cons (pv 1) pa_nil)) (pg_tup rfl (pgs_cons (pg_name (i := 2) sc_Desk_pair.nd rfl (Or.inl rfl)) (pgs_cons (pg_name (i := 3) sc_Desk_pair.nd rfl (Or.inl rfl)) (pgs_cons (pg_name (i := 4) sc_Desk_pair.nd rfl (Or.inl rfl)) pgs_nil))))) (pss_cons (ps_expr (pe_hs hL hr (by omega) rfl (pa_cons (pe_lst (pa_cons (pv 3) (pa_cons (pv 4) pa_nil))) (pa_cons (C8.pe_mt0 hK hr (by omega) (pv 0)) pa_nil)))) (pss_cons (ps_expr (C8.pe_mt hT hr (by omega) (pe_fld (pv 0) rfl) (pa_cons (pv 2) (pa_cons (pv 3) (pa_cons (pv 4) pa_nil))))) (pss_cons (ps_set (i := 5) sc_Desk_pair.nd rfl (Or.inl rfl) (C8.pe_mt0 hO hr (by omega) (pe_fld (pv 0) rfl))) (pss_cons (ps_if (ptEq (ixT (pv 5))) (pss_one (ps_ret pe_str)) pss_nil) (pss_cons (ps_if (pt_cmpR (op_eqB (D := 3) (Room.un hr (by omega))) (ixT (pv 5)) (pe_lst pa_nil) (nomark _)) (pss_one (ps_ret pe_str)) pss_nil) (pss_one ps_never))))))), ?_⟩
  obtain ⟨k, kdx, b, dx, l, r, sxs, sides, own, own', x, za, zb, rfl, dk, pin, hTb, pr, pr', q⟩ := h
  have hcl := S.cls 105
  have na := S.noat 107
  refine ⟨_, rfl, za, zb, x.2.1, x.2.2, rfl, pin.a, pin.b, hTb, fun H1 p va vb g1 ep av bv => ?_⟩
  refine ⟨p, _, rfl, SqT.of ep, rfl, _, _, rfl, _, _, rfl, _, _, rfl, rfl, ?_⟩
  have fn2 := pr'.fn
  have few2 := pr'.few
  have esn : sdsH (sides ++ [x]) = sdsH sides ++ (HF.hs x.2.1 ++ HF.hs x.2.2) := by simp [sdsH, sdH]
  rw [esn] at fn2 few2
  simp only [List.length_append] at few2
  have dk1 := dk.mono g1
  refine ⟨_, rfl, _, rfl, szl (by show 2 ≤ 10000000; decide), fun lt hlt => ?_⟩
  have g2 := g1.new (o := .lst [va, vb]) hlt
  have gs := Gr.new0 (X := []) (o := .lst [va, vb]) g1.tab hlt
  have dk2 := dk1.mono gs
  refine ⟨_, rfl, k, _, _, rfl, dk2.ins, rfl, k, kdx, b, dx, l, r, sxs, sides, rfl, dk2, g2.tab, pr.raw bn, pr.fn, by have := pr.few; omega, fun H3 d kvs g3 hd ed cd => ?_⟩
  have av3 := (av.mono gs).mono g3
  have bv3 := (bv.mono gs).mono g3
  refine ⟨lt, d, [va, vb], [x.2.1, x.2.2], kvs, sdsH sides, rfl, g3.lst upd_same, atV_two av3 bv3, ed, cd, g3.tab, fun t ht => ?_, by rw [tsH_two]; exact fn2, by rw [tsH_two, List.length_append]; omega, fun H4 g4 => ?_⟩
  · rcases List.mem_cons.mp ht with z | z
    · rw [z]; exact ⟨pin.a.hh, pin.a.nn⟩
    · rw [List.mem_singleton.mp z]; exact ⟨pin.b.hh, pin.b.nn⟩
  have dk4 := (dk2.mono g3).mono g4
  have g5 := (g2.trans g3).trans g4
  refine ⟨_, rfl, k, _, _, _, _, rfl, dk4.ins, hcl, na, rfl, b, _, _, rfl, dk4.bd.ins, rfl, _, rfl, _, rfl, _, rfl, ?_⟩
  have sl := dk.bd.sds.len
  have nm := pr.num
  refine ⟨b, dx, l, sxs, sides, x, va, vb, by rw [pin.s0] <;> rfl, dk4.bd, av3.mono g4, bv3.mono g4, g4.tab, by omega, fun H6 v g6 bd6 => ?_⟩
  have gx : Gr (TT K) [l] H H6 := (g5.wide (X := [l])).trans g6
  have nkl : k ≠ l := fun z => by have := dk.bd.lst; rw [← z, dk.ins] at this; cases this
  have dk6 : DkAt K H6 k kdx b dx l r (sxs ++ [v]) (sides ++ [x]) := ⟨gx.ins dk.ins (by simp; exact nkl), bd6⟩
  refine ⟨_, rfl, k, _, _, _, _, rfl, dk6.ins, hcl, na, rfl, b, _, _, rfl, dk6.bd.ins, rfl, ?_⟩
  refine ⟨b, dx, l, _, _, own', rfl, dk6.bd, g6.tab, pr', fun p7 H7 rest g7 e7 hno => ?_, fun p7 H7 sf d7 fk σ g7 e7 ed7 esf af fld => ?_⟩
  · refine ⟨_, rfl, p7, _, 0, _, rfl, rfl, SqT.of e7, at_of (j := 0) rfl rfl, rfl, _, rfl, ift eRf ?_⟩
    exact (q H7 v (gx.trans g7.wide) (dk6.mono g7)).1 hno
  · refine ⟨_, rfl, p7, _, 0, _, rfl, rfl, SqT.of e7, rfl, rfl, _, rfl, iff' (by decide +kernel) ?_⟩
    refine ⟨_, rfl, p7, _, 2, _, rfl, rfl, SqT.of e7, rfl, szl (by decide), fun e8 h8 => ?_⟩
    have g8 := Gr.new0 (X := []) (o := .lst []) g7.tab h8
    refine ⟨_, _, .lst (SqL.of (g8.lst ed7)) .nil, .lst (SqL.of upd_same) .nil, rfl, rfl, (by decide : PyData.depth (.list []) ≤ 3), _, rfl, ift rfl ?_⟩
    exact (q _ v (gx.trans (g7.trans g8).wide) ((dk6.mono g7).mono g8)).2 fld.1
def spDFill (K : PySem.W.Frag) (T : List NTab) (n : Nat) (B : List Str) (h0 n0 l0 : Nat) : Sp := fun vs H Q _ => ∃ (k kdx b dx l r : Addr) (sxs : List V) (sides : List (HF.Side Str)) (own : List (Str × Nat)) (t : Tm) (z : Str), vs = [.ref k, .str z] ∧ DkAt K H k kdx b dx l r sxs sides ∧ Rx B n t z ∧ TabsN T H ∧
  Prs n B h0 n0 l0 sides own ∧ HF.Unif sides own ∧ (∀ u ∈ B, Wd u) ∧ B.length ≤ 60 ∧ fnl (sdsH sides ++ HF.hs t) ∧ (HF.hs t).length ≤ 400 ∧ (∀ σ, Fld n B h0 n0 l0 sides own σ → HF.cls 0 (HF.fil (HF.sg σ) t) ∧ HF.nd (HF.fil (HF.sg σ) t) ≤ 200000 ∧ HF.ht (HF.fil (HF.sg σ) t) ≤ n) ∧
  ∀ H' σ bs, Gr T [] H H' → Fld n B h0 n0 l0 sides own σ → Sh bs B 0 (HF.fil (HF.sg σ) t) → Q (.str (cat (pcs bs 0 (HF.fil (HF.sg σ) t)))) H'
theorem gt_fld {n : Nat} {B : List Str} {h0 n0 l0 : Nat} {sides : List (HF.Side Str)} {own : List (Str × Nat)} {σ : HF.Fl Str} (fld : Fld n B h0 n0 l0 sides own σ) {t : Tm} (h : gt B t) : gt B (HF.fil (HF.sg σ) t) := gt_fil (fun z u hx => by
  unfold HF.sg at hx
  cases hs : σ z with
  | none => rw [hs] at hx; cases hx
  | some y => rw [hs] at hx; rw [← Option.some.inj hx]; exact fld.2.2.1 z y.1 y.2 hs) _ h
theorem sc_Desk_fill : FnScope ["self", "rest", "term"] ["self", "rest"] (defScope s_Desk_fill) := ⟨rfl, rfl, rfl, by decide +kernel, rfl, by decide +kernel, by decide +kernel⟩
theorem ok_dfill (S : Cn K mg base) (n : Nat) (B : List Str) (h0 n0 l0 : Nat) (bn : Bn n B h0 n0 l0) (hR : Has P w K mg base "read" (3 * n + 4) ["text", "names"] [.non] (spRead (TT K) B n)) (hL : Has P w K mg base "look_alike" (n + 2) ["terms", "known"] [] (spAlk (TT K) n))
    (hK : C8.Met P w K mg base (n + 2) (He.ga K "Desk") "known" (spKnown K (TT K) n) []) (hF : C8.Met P w K mg base (5 + n + n + 8) (He.ga K "Board") "fill" (spBFill K (TT K) n B h0 n0 l0) []) (hS : Has P w K mg base "shown" (2 * n + 3) ["term", "scope"] [.int 0] (spShown (TT K) n)) :
    C8.Met P w K mg base (3 * n + 20) (He.ga K "Desk") "fill" (spDFill K (TT K) n B h0 n0 l0) [] := by
  refine met_of (d := d_Desk_fill) S 60 113 105 rfl rfl rfl rfl rfl rfl sc_Desk_fill (fun vs H Q E h => ?_) (fun _ _ _ _ _ _ us hl => match us, hl with | [_, _], _ => rfl) (fun f cdv A outer s H vs Q E hr h => ?_)
  · obtain ⟨k, kdx, b, dx, l, r, sxs, sides, own, t, z, rfl, _⟩ := h
    rfl
  refine ⟨_, (pss_cons (ps_set (i := 2) sc_Desk_fill.nd rfl (Or.inl rfl) (pe_hs hR hr (by omega) rfl (pa_cons (pv 1) pa_nil))) (pss_cons (ps_expr (pe_hs hL hr (by omega) rfl (pa_cons (pe_lst (pa_cons (pv 2) pa_nil)) (pa_cons (C8.pe_mt0 hK hr (by omega) (pv 0)) pa_nil)))) (pss_one (ps_ret (pe_hs hS hr (by omega) rfl (pa_cons (C8.pe_mt hF hr (by omega) (pe_fld (pv 0) rfl) (pa_cons (pv 2) pa_nil)) pa_nil)))))), ?_⟩
  obtain ⟨k, kdx, b, dx, l, r, sxs, sides, own, t, z, rfl, dk, rx, hTb, pr, hu, hB, hB2, fn2, few, hσ, q⟩ := h
  have hcl := S.cls 105
  have na := S.noat 107
  refine ⟨_, rfl, t, z, .non, rfl, .inl rfl, hTb, rx, fun H1 tv g1 at1 => ?_⟩
  have dk1 := dk.mono g1
  refine ⟨_, rfl, szl (by show 1 ≤ 10000000; decide), fun lt hlt => ?_⟩
  have g2 := g1.new (o := .lst [tv]) hlt
  have gs := Gr.new0 (X := []) (o := .lst [tv]) g1.tab hlt
  have dk2 := dk1.mono gs
  refine ⟨_, rfl, k, _, _, rfl, dk2.ins, rfl, k, kdx, b, dx, l, r, sxs, sides, rfl, dk2, g2.tab, pr.raw bn, pr.fn, by have := pr.few; omega, fun H3 d kvs g3 hd ed cd => ?_⟩
  have at3 := (at1.mono gs).mono g3
  have e1 : tsH [t] = HF.hs t := by simp [tsH]
  refine ⟨lt, d, [tv], [t], kvs, sdsH sides, rfl, g3.lst upd_same, atV_one at3, ed, cd, g3.tab, fun y hy => ?_, by rw [e1]; exact fn2, by have := pr.few; rw [e1]; omega, fun H4 g4 => ?_⟩
  · rw [List.mem_singleton.mp hy]; exact ⟨rx.hh, rx.nn⟩
  have dk4 := (dk2.mono g3).mono g4
  have g5 := (g2.trans g3).trans g4
  refine ⟨_, rfl, k, _, _, _, _, rfl, dk4.ins, hcl, na, rfl, b, _, _, rfl, dk4.bd.ins, rfl, _, rfl, ?_⟩
  have hn := rx.nn
  refine ⟨b, dx, l, sxs, sides, own, t, tv, rfl, dk4.bd, at3.mono g4, by omega, rx.hh, rx.f, few, fun p hp m hm => ?_, g4.tab, pr, hu, fun H6 v6 σ g6 at6 fld => ?_⟩
  · exact (fn2 p.1 m p.2 (List.mem_append_left _ ((pr.mem _).mp hm)) (List.mem_append_right _ hp))
  obtain ⟨c1, c2, c3⟩ := hσ σ fld
  exact ⟨_, v6, B, rfl, at6, g6.tab, hB, hB2, gt_fld fld rx.g, c1, c2, c3, fun H7 bs g7 sh => q H7 σ bs ((g5.trans g6).trans g7) fld sh⟩
end

end HW
end
section
set_option Elab.async false
set_option linter.all false
set_option maxRecDepth 100000
set_option maxHeartbeats 4000000
namespace HW
open PySem PySem.Spec PyProof.Rows L2 NdefX LamX
/-! ### Desk.alone, Desk.say -/
open TL
section
variable {P : Program} {w : World} {K : PySem.W.Frag} {mg : Str → Option Value} {base : Heap}
def spDBack (K : PySem.W.Frag) (T : List NTab) (n : Nat) : Sp := fun vs H Q _ => ∃ (k kdx b dx l r : Addr) (sxs : List V) (v : V) (sides : List (HF.Side Str)) (x : HF.Side Str), vs = [.ref k, .str "back"] ∧ DkAt K H k kdx b dx l r (sxs ++ [v]) (sides ++ [x]) ∧ AtSds H sides sxs ∧ TabsN T H ∧ (∀ y ∈ sides ++ [x], wg wOk y.2.1 ∧ wg wOk y.2.2) ∧ (∀ y ∈ sides ++ [x], HF.ht y.2.1 ≤ n ∧ HF.ht y.2.2 ≤ n) ∧
  ∀ H', Gr T [l] H H' → DkAt K H' k kdx b dx l r sxs sides → Q (.str "ok") H'
theorem sc_Desk_alone : FnScope ["self", "word", "found", "row"] ["self", "word"] (defScope s_Desk_alone) := ⟨rfl, rfl, rfl, by decide +kernel, rfl, by decide +kernel, by decide +kernel⟩
theorem ok_dalone (S : Cn K mg base) (T : List NTab) (n : Nat) (hB : C8.Met P w K mg base (n + 1) (He.ga K "Board") "back" (spBBack K T n) []) : C8.Met P w K mg base (n + 2) (He.ga K "Desk") "alone" (spDBack K T n) [] := by
  refine met_of (d := d_Desk_alone) S 57 110 105 rfl rfl rfl rfl rfl rfl sc_Desk_alone (fun vs H Q E h => ?_) (fun _ _ _ _ _ _ us hl => match us, hl with | [_, _], _ => rfl) (fun f cdv A outer s H vs Q E hr h => ?_)
  · obtain ⟨k, kdx, b, dx, l, r, sxs, v, sides, x, rfl, _⟩ := h
    rfl
  refine ⟨_, (pss_cons (ps_if (ptEq (pv 1)) (pss_cons (ps_expr (C8.pe_mt0 hB hr (by omega) (pe_fld (pv 0) rfl))) (pss_one (ps_ret pe_str))) pss_nil) pss_never), ?_⟩
  obtain ⟨k, kdx, b, dx, l, r, sxs, v, sides, x, rfl, dk, as, hT, hw, hh, q⟩ := h
  refine ⟨_, rfl, rfl, _, rfl, ift eRf ?_⟩
  refine ⟨_, rfl, k, _, _, _, _, rfl, dk.ins, S.cls 105, S.noat 107, rfl, b, _, _, rfl, dk.bd.ins, rfl, ?_⟩
  refine ⟨b, dx, l, sxs, v, sides, x, rfl, dk.bd, as, hT, hw, hh, fun H1 g1 bd1 => ?_⟩
  have nkl : k ≠ l := fun z => by have := dk.bd.lst; rw [← z, dk.ins] at this; cases this
  exact q H1 g1 ⟨g1.ins dk.ins (by simp; exact nkl), bd1⟩
theorem Cn.alone (S : Cn K mg base) (H : Hp) : SqT K H (He.ga K "ALONE") ((["back", "overlaps", "meet"] : List Str).map V.str) := He.tupB_ok (vs := [.str "back", .str "overlaps", .str "meet"]) (Bool.and_eq_true_iff.mp S.al).1 H
theorem sc_Desk_say : FnScope ["self", "row", "word", "rest", "scope", "one", "other"] ["self", "row"] (defScope s_Desk_say) := ⟨rfl, rfl, rfl, by decide +kernel, rfl, by decide +kernel, by decide +kernel⟩
theorem ok_sback (S : Cn K mg base) (T : List NTab) (n : Nat) (hA : C8.Met P w K mg base (n + 2) (He.ga K "Desk") "alone" (spDBack K T n) []) : C8.Met P w K mg base (3 * n + 21) (He.ga K "Desk") "say" (spDBack K T n) [] := by
  refine met_of (d := d_Desk_say) S 56 109 105 rfl rfl rfl rfl rfl rfl sc_Desk_say (fun vs H Q E h => ?_) (fun _ _ _ _ _ _ us hl => match us, hl with | [_, _], _ => rfl) (fun f cdv A outer s H vs Q E hr h => ?_)
  · obtain ⟨k, kdx, b, dx, l, r, sxs, v, sides, x, rfl, _⟩ := h
    rfl
  refine ⟨_, (pss_cons (ps_if (pt_not (pt_val (pe_callB RZ.call_isTy (by rfl) (S.free 59) (by decide +kernel) (pa_cons (pv 1) (pa_cons (pe_bltn (v := .ty "str") (by rfl) (S.free 74) (by decide +kernel) rfl) pa_nil))))) (pss_one ps_never) pss_nil) (pss_cons (ps_if (pt_cmpR op_in_seq (pv 1) (C8.pe_gc (v := .ref (He.ga K "ALONE")) rfl (S.gref 116)) (by rfl)) (pss_one (ps_ret (C8.pe_mt hA hr (by omega) (pv 0) (pa_cons (pv 1) pa_nil)))) pss_nil) pss_never)), ?_⟩
  obtain ⟨k, kdx, b, dx, l, r, sxs, v, sides, x, rfl, dk, as, hT, hw, hh, q⟩ := h
  refine ⟨_, rfl, _, _, rfl, .str _, _, rfl, iteF ?_⟩
  refine ⟨_, rfl, _, _, rfl, .inr (S.alone H), rfl, flat_strs _, _, rfl, ift ?_ ?_⟩
  · rw [inV_str]; decide +kernel
  exact ⟨_, rfl, k, _, _, rfl, dk.ins, rfl, _, rfl, k, kdx, b, dx, l, r, sxs, v, sides, x, rfl, dk, as, hT, hw, hh, q⟩
/-- a row that is a word, a blank and the rest -/
theorem row_find (a b : Str) (h : ∀ c ∈ tl a, isL c = true) : Txt.find (a ++ " " ++ b) " " = ((a.length : Nat) : Int) := find_at (c := 32) (d := 0) (by rw [sp_tl] <;> rfl) (fun m => by have := h 32 m; exact absurd this (by decide +kernel)) (by simp)
theorem not_alone (a b : Str) (h : ∀ c ∈ tl a, isL c = true) : inV (.str (a ++ " " ++ b)) ((["back", "overlaps", "meet"] : List Str).map V.str) = false := by
  rw [inV_str]
  refine decide_eq_false fun m => ?_
  have no : ∀ u : Str, (∀ c ∈ tl u, isL c = true) → a ++ " " ++ b ≠ u := fun u hu e => by
    have : (32 : Nat) ∈ tl u := by rw [← e, tl_append, tl_append, sp_tl]; simp
    exact absurd (hu 32 this) (by decide +kernel)
  rcases List.mem_cons.mp m with z | m
  · exact no _ (by decide +kernel) z
  rcases List.mem_cons.mp m with z | m
  · exact no _ (by decide +kernel) z
  · exact no _ (by decide +kernel) (List.mem_singleton.mp m)
theorem spDPair.up {T : List NTab} {n : Nat} {B : List Str} {h0 n0 l0 : Nat} {vs : List V} {H H1 : Hp} {Q : VK} {E : XK} (g : Gr T [] H H1) (h : spDPair K T n B h0 n0 l0 vs H Q E) : spDPair K T n B h0 n0 l0 vs H1 Q E := by
  obtain ⟨k, kdx, b, dx, l, r, sxs, sides, own, own', x, za, zb, e, dk, pin, hTb, pr, pr', q⟩ := h
  exact ⟨k, kdx, b, dx, l, r, sxs, sides, own, own', x, za, zb, e, dk.mono g, pin, g.tab, pr, pr', fun H' v g' => q H' v (g.wide.trans g')⟩
theorem spDFill.up {T : List NTab} {n : Nat} {B : List Str} {h0 n0 l0 : Nat} {vs : List V} {H H1 : Hp} {Q : VK} {E : XK} (g : Gr T [] H H1) (h : spDFill K T n B h0 n0 l0 vs H Q E) : spDFill K T n B h0 n0 l0 vs H1 Q E := by
  obtain ⟨k, kdx, b, dx, l, r, sxs, sides, own, t, z, e, dk, rx, hTb, pr, hu, hB, hB2, fn2, few, hσ, q⟩ := h
  exact ⟨k, kdx, b, dx, l, r, sxs, sides, own, t, z, e, dk.mono g, rx, g.tab, pr, hu, hB, hB2, fn2, few, hσ, fun H' σ bs g' => q H' σ bs (g.trans g')⟩
def spSPair (K : PySem.W.Frag) (T : List NTab) (n : Nat) (B : List Str) (h0 n0 l0 : Nat) : Sp := fun vs H Q E => ∃ (k : Addr) (row z : Str), vs = [.ref k, .str row] ∧ row = "pair" ++ " " ++ z ∧ z.length ≤ 3000000 ∧ TabsN T H ∧ spDPair K T n B h0 n0 l0 [.ref k, .str z] H Q E
theorem ok_spair (S : Cn K mg base) (n : Nat) (B : List Str) (h0 n0 l0 : Nat) (hP : Has P w K mg base "parted" 1 ["text", "mark"] [] (spParted (TT K))) (hD : C8.Met P w K mg base (3 * n + 20) (He.ga K "Desk") "pair" (spDPair K (TT K) n B h0 n0 l0) []) :
    C8.Met P w K mg base (3 * n + 21) (He.ga K "Desk") "say" (spSPair K (TT K) n B h0 n0 l0) [] := by
  refine met_of (d := d_Desk_say) S 56 109 105 rfl rfl rfl rfl rfl rfl sc_Desk_say (fun vs H Q E h => ?_) (fun _ _ _ _ _ _ us hl => match us, hl with | [_, _], _ => rfl) (fun f cdv A outer s H vs Q E hr h => ?_)
  · obtain ⟨k, row, z, rfl, _⟩ := h
    rfl
  refine ⟨_, (pss_cons (ps_if (pt_not (pt_val (pe_callB RZ.call_isTy (by rfl) (S.free 59) (by decide +kernel) (pa_cons (pv 1) (pa_cons (pe_bltn (v := .ty "str") (by rfl) (S.free 74) (by decide +kernel) rfl) pa_nil))))) (pss_one ps_never) pss_nil) (pss_cons (ps_if (pt_cmpR op_in_seq (pv 1) (C8.pe_gc (v := .ref (He.ga K "ALONE")) rfl (S.gref 116)) (by rfl)) pss_never pss_nil) (pss_cons (ps_asg (pe_hs hP hr (by omega) rfl (pa_cons (pv 1) (pa_cons pe_str pa_nil))) (pg_tup rfl (pgs_cons (pg_name (i := 2) sc_Desk_say.nd rfl (Or.inl rfl)) (pgs_cons (pg_name (i := 3) sc_Desk_say.nd rfl (Or.inl rfl)) pgs_nil)))) (pss_cons (ps_if (ptEq (pv 2)) pss_never pss_nil) (pss_cons (ps_if (ptEq (pv 2)) (pss_one (ps_ret (C8.pe_mt hD hr (by omega) (pv 0) (pa_cons (pv 3) pa_nil)))) pss_nil) pss_never))))), ?_⟩
  obtain ⟨k, row, z, rfl, rfl, hz, hT, hp⟩ := h
  have l1 : ("pair" : Str).length = 4 := by decide +kernel
  have l2 : (" " : Str).length = 1 := by decide +kernel
  refine ⟨_, rfl, _, _, rfl, .str _, _, rfl, iteF ?_⟩
  refine ⟨_, rfl, _, _, rfl, .inr (S.alone H), rfl, flat_strs _, _, rfl, iff' (not_alone _ _ (by decide +kernel)) ?_⟩
  refine ⟨_, rfl, _, " ", ("pair" : Str).length, rfl, hT, szl (by rw [len_app, len_app]; omega), szl (by omega), row_find _ _ (by decide +kernel), fun H1 p g1 ep => ?_⟩
  rw [cut_a, cut_b] at ep
  refine ⟨p, _, rfl, SqT.of ep, rfl, _, _, rfl, _, _, rfl, rfl, ?_⟩
  refine ⟨_, rfl, rfl, _, rfl, iff' (by decide +kernel) ?_⟩
  refine ⟨_, rfl, rfl, _, rfl, ift eRf ?_⟩
  have hp1 := hp.up g1
  obtain ⟨k', kdx, b, dx, l, r, sxs, sides, own, own', x, za, zb, e, dk, _⟩ := id hp1
  cases e
  exact ⟨_, rfl, k, _, _, rfl, dk.ins, rfl, _, rfl, hp1⟩
def spSFill (K : PySem.W.Frag) (T : List NTab) (n : Nat) (B : List Str) (h0 n0 l0 : Nat) : Sp := fun vs H Q E => ∃ (k : Addr) (row z : Str), vs = [.ref k, .str row] ∧ row = "fill" ++ " " ++ z ∧ z.length ≤ 3000000 ∧ TabsN T H ∧ spDFill K T n B h0 n0 l0 [.ref k, .str z] H Q E
theorem ok_sfill (S : Cn K mg base) (n : Nat) (B : List Str) (h0 n0 l0 : Nat) (hP : Has P w K mg base "parted" 1 ["text", "mark"] [] (spParted (TT K))) (hD : C8.Met P w K mg base (3 * n + 20) (He.ga K "Desk") "fill" (spDFill K (TT K) n B h0 n0 l0) []) :
    C8.Met P w K mg base (3 * n + 21) (He.ga K "Desk") "say" (spSFill K (TT K) n B h0 n0 l0) [] := by
  refine met_of (d := d_Desk_say) S 56 109 105 rfl rfl rfl rfl rfl rfl sc_Desk_say (fun vs H Q E h => ?_) (fun _ _ _ _ _ _ us hl => match us, hl with | [_, _], _ => rfl) (fun f cdv A outer s H vs Q E hr h => ?_)
  · obtain ⟨k, row, z, rfl, _⟩ := h
    rfl
  refine ⟨_, (pss_cons (ps_if (pt_not (pt_val (pe_callB RZ.call_isTy (by rfl) (S.free 59) (by decide +kernel) (pa_cons (pv 1) (pa_cons (pe_bltn (v := .ty "str") (by rfl) (S.free 74) (by decide +kernel) rfl) pa_nil))))) (pss_one ps_never) pss_nil) (pss_cons (ps_if (pt_cmpR op_in_seq (pv 1) (C8.pe_gc (v := .ref (He.ga K "ALONE")) rfl (S.gref 116)) (by rfl)) pss_never pss_nil) (pss_cons (ps_asg (pe_hs hP hr (by omega) rfl (pa_cons (pv 1) (pa_cons pe_str pa_nil))) (pg_tup rfl (pgs_cons (pg_name (i := 2) sc_Desk_say.nd rfl (Or.inl rfl)) (pgs_cons (pg_name (i := 3) sc_Desk_say.nd rfl (Or.inl rfl)) pgs_nil)))) (pss_cons (ps_if (ptEq (pv 2)) pss_never pss_nil) (pss_cons (ps_if (ptEq (pv 2)) pss_never pss_nil) (pss_cons (ps_if (ptEq (pv 2)) pss_never pss_nil) (pss_cons (ps_if (ptEq (pv 2)) (pss_one (ps_ret (C8.pe_mt hD hr (by omega) (pv 0) (pa_cons (pv 3) pa_nil)))) pss_nil) pss_never))))))), ?_⟩
  obtain ⟨k, row, z, rfl, rfl, hz, hT, hp⟩ := h
  have l1 : ("fill" : Str).length = 4 := by decide +kernel
  have l2 : (" " : Str).length = 1 := by decide +kernel
  refine ⟨_, rfl, _, _, rfl, .str _, _, rfl, iteF ?_⟩
  refine ⟨_, rfl, _, _, rfl, .inr (S.alone H), rfl, flat_strs _, _, rfl, iff' (not_alone _ _ (by decide +kernel)) ?_⟩
  refine ⟨_, rfl, _, " ", ("fill" : Str).length, rfl, hT, szl (by rw [len_app, len_app]; omega), szl (by omega), row_find _ _ (by decide +kernel), fun H1 p g1 ep => ?_⟩
  rw [cut_a, cut_b] at ep
  refine ⟨p, _, rfl, SqT.of ep, rfl, _, _, rfl, _, _, rfl, rfl, ?_⟩
  refine ⟨_, rfl, rfl, _, rfl, iff' (by decide +kernel) ?_⟩
  refine ⟨_, rfl, rfl, _, rfl, iff' (by decide +kernel) ?_⟩
  refine ⟨_, rfl, rfl, _, rfl, iff' (by decide +kernel) ?_⟩
  refine ⟨_, rfl, rfl, _, rfl, ift eRf ?_⟩
  have hp1 := hp.up g1
  obtain ⟨k', kdx, b, dx, l, r, sxs, sides, own, t, z', e, dk, _⟩ := id hp1
  cases e
  exact ⟨_, rfl, k, _, _, rfl, dk.ins, rfl, _, rfl, hp1⟩
def spSStands (K : PySem.W.Frag) (T : List NTab) (n : Nat) (B : List Str) (h0 n0 l0 : Nat) : Sp := fun vs H Q _ => ∃ (k kdx b dx l r : Addr) (row za zb : Str) (sxs : List V) (sides : List (HF.Side Str)) (own own2 : List (Str × Nat)) (x : HF.Side Str), vs = [.ref k, .str row] ∧ row = "stands" ++ " " ++ (za ++ " = " ++ zb) ∧ DkAt K H k kdx b dx l r sxs sides ∧ Pin B n za zb x ∧ TabsN T H ∧
  Prs n B h0 n0 l0 sides own ∧ HF.Unif sides own ∧ Prs n B h0 n0 l0 (sides ++ [x]) own2 ∧ (∀ σ, Fld n B h0 n0 l0 sides own σ → HF.ht (HF.fil (HF.sg σ) x.2.1) ≤ n) ∧
  (∀ H' σ, Gr T [] H H' → Fld n B h0 n0 l0 sides own σ → HF.fil (HF.sg σ) x.2.1 = HF.fil (HF.sg σ) x.2.2 → Q (.str "same") H') ∧
  (∀ H' σ, Gr T [] H H' → Fld n B h0 n0 l0 sides own σ → HF.fil (HF.sg σ) x.2.1 ≠ HF.fil (HF.sg σ) x.2.2 → ¬ HF.Unif (sides ++ [x]) own2 → Q (.str "never") H') ∧
  (∀ H' σ, Gr T [] H H' → Fld n B h0 n0 l0 sides own σ → HF.fil (HF.sg σ) x.2.1 ≠ HF.fil (HF.sg σ) x.2.2 → HF.Unif (sides ++ [x]) own2 → Q (.str "open") H')
theorem ok_sstands (S : Cn K mg base) (n : Nat) (B : List Str) (h0 n0 l0 : Nat) (bn : Bn n B h0 n0 l0) (hP : Has P w K mg base "parted" 1 ["text", "mark"] [] (spParted (TT K))) (hO : Has P w K mg base "pair_of" (3 * n + 5) ["rest"] [] (spPairOf (TT K) B n)) (hL : Has P w K mg base "look_alike" (n + 2) ["terms", "known"] [] (spAlk (TT K) n))
    (hK : C8.Met P w K mg base (n + 2) (He.ga K "Desk") "known" (spKnown K (TT K) n) []) (hS : C8.Met P w K mg base (5 + n + n + 8) (He.ga K "Board") "stands" (spStands K (TT K) n B h0 n0 l0) []) :
    C8.Met P w K mg base (3 * n + 21) (He.ga K "Desk") "say" (spSStands K (TT K) n B h0 n0 l0) [] := by
  refine met_of (d := d_Desk_say) S 56 109 105 rfl rfl rfl rfl rfl rfl sc_Desk_say (fun vs H Q E h => ?_) (fun _ _ _ _ _ _ us hl => match us, hl with | [_, _], _ => rfl) (fun f cdv A outer s H vs Q E hr h => ?_)
  · obtain ⟨k, kdx, b, dx, l, r, row, za, zb, sxs, sides, own, own2, x, rfl, _⟩ := h
    rfl
  refine ⟨_, (pss_cons (ps_if (pt_not (pt_val (pe_callB RZ.call_isTy (by rfl) (S.free 59) (by decide +kernel) (pa_cons (pv 1) (pa_cons (pe_bltn (v := .ty "str") (by rfl) (S.free 74) (by decide +kernel) rfl) pa_nil))))) (pss_one ps_never) pss_nil) (pss_cons (ps_if (pt_cmpR op_in_seq (pv 1) (C8.pe_gc (v := .ref (He.ga K "ALONE")) rfl (S.gref 116)) (by rfl)) pss_never pss_nil) (pss_cons (ps_asg (pe_hs hP hr (by omega) rfl (pa_cons (pv 1) (pa_cons pe_str pa_nil))) (pg_tup rfl (pgs_cons (pg_name (i := 2) sc_Desk_say.nd rfl (Or.inl rfl)) (pgs_cons (pg_name (i := 3) sc_Desk_say.nd rfl (Or.inl rfl)) pgs_nil)))) (pss_cons (ps_if (ptEq (pv 2)) pss_never pss_nil) (pss_cons (ps_if (ptEq (pv 2)) pss_never pss_nil) (pss_cons (ps_if (ptEq (pv 2)) (pss_cons (ps_asg (pe_hs hO hr (by omega) rfl (pa_cons (pv 3) pa_nil)) (pg_tup rfl (pgs_cons (pg_name (i := 4) sc_Desk_say.nd rfl (Or.inl rfl)) (pgs_cons (pg_name (i := 5) sc_Desk_say.nd rfl (Or.inl rfl)) (pgs_cons (pg_name (i := 6) sc_Desk_say.nd rfl (Or.inl rfl)) pgs_nil))))) (pss_cons (ps_expr (pe_hs hL hr (by omega) rfl (pa_cons (pe_lst (pa_cons (pv 5) (pa_cons (pv 6) pa_nil))) (pa_cons (C8.pe_mt0 hK hr (by omega) (pv 0)) pa_nil)))) (pss_one (ps_ret (C8.pe_mt hS hr (by omega) (pe_fld (pv 0) rfl) (pa_cons (pv 4) (pa_cons (pv 5) (pa_cons (pv 6) pa_nil)))))))) pss_nil) pss_never)))))), ?_⟩
  obtain ⟨k, kdx, b, dx, l, r, row, za, zb, sxs, sides, own, own2, x, rfl, rfl, dk, pin, hT, pr, hu, pr2, hht, q1, q2, q3⟩ := h
  have hcl := S.cls 105
  have na := S.noat 107
  have l1 : ("stands" : Str).length = 6 := by decide +kernel
  have l2 : (" " : Str).length = 1 := by decide +kernel
  have l3 : (" = " : Str).length = 3 := by decide +kernel
  have s1 := pin.a.sz
  have s2 := pin.b.sz
  refine ⟨_, rfl, _, _, rfl, .str _, _, rfl, iteF ?_⟩
  refine ⟨_, rfl, _, _, rfl, .inr (S.alone H), rfl, flat_strs _, _, rfl, iff' (not_alone _ _ (by decide +kernel)) ?_⟩
  refine ⟨_, rfl, _, " ", ("stands" : Str).length, rfl, hT, szl (by rw [len_app, len_app, len_app, len_app]; omega), szl (by omega), row_find _ _ (by decide +kernel), fun H1 p g1 ep => ?_⟩
  rw [cut_a, cut_b] at ep
  refine ⟨p, _, rfl, SqT.of ep, rfl, _, _, rfl, _, _, rfl, rfl, ?_⟩
  refine ⟨_, rfl, rfl, _, rfl, iff' (by decide +kernel) ?_⟩
  refine ⟨_, rfl, rfl, _, rfl, iff' (by decide +kernel) ?_⟩
  refine ⟨_, rfl, rfl, _, rfl, ift eRf ?_⟩
  refine ⟨_, rfl, za, zb, x.2.1, x.2.2, rfl, pin.a, pin.b, g1.tab, fun H2 p2 va vb g2 ep2 av bv => ?_⟩
  refine ⟨p2, _, rfl, SqT.of ep2, rfl, _, _, rfl, _, _, rfl, _, _, rfl, rfl, ?_⟩
  have fn2 := pr2.fn
  have few2 := pr2.few
  have esn : sdsH (sides ++ [x]) = sdsH sides ++ (HF.hs x.2.1 ++ HF.hs x.2.2) := by simp [sdsH, sdH]
  rw [esn] at fn2 few2
  simp only [List.length_append] at few2
  have g12 := g1.trans g2
  refine ⟨_, rfl, _, rfl, szl (by show 2 ≤ 10000000; decide), fun lt hlt => ?_⟩
  have g3 := g12.new (o := .lst [va, vb]) hlt
  have gs := Gr.new0 (X := []) (o := .lst [va, vb]) g12.tab hlt
  have dk3 := (dk.mono g12).mono gs
  refine ⟨_, rfl, k, _, _, rfl, dk3.ins, rfl, k, kdx, b, dx, l, r, sxs, sides, rfl, dk3, g3.tab, pr.raw bn, pr.fn, by have := pr.few; omega, fun H4 d kvs g4 hd ed cd => ?_⟩
  have av4 := (av.mono gs).mono g4
  have bv4 := (bv.mono gs).mono g4
  refine ⟨lt, d, [va, vb], [x.2.1, x.2.2], kvs, sdsH sides, rfl, g4.lst upd_same, atV_two av4 bv4, ed, cd, g4.tab, fun t ht => ?_, by rw [tsH_two]; exact fn2, by rw [tsH_two, List.length_append]; omega, fun H5 g5 => ?_⟩
  · rcases List.mem_cons.mp ht with z | z
    · rw [z]; exact ⟨pin.a.hh, pin.a.nn⟩
    · rw [List.mem_singleton.mp z]; exact ⟨pin.b.hh, pin.b.nn⟩
  have dk5 := (dk3.mono g4).mono g5
  have gx := (g3.trans g4).trans g5
  refine ⟨_, rfl, k, _, _, _, _, rfl, dk5.ins, hcl, na, rfl, b, _, _, rfl, dk5.bd.ins, rfl, _, rfl, _, rfl, _, rfl, ?_⟩
  have n1 := pin.a.nn
  have n2 := pin.b.nn
  have hx2 : (HF.hs x.2.1).length ≤ 2 ∧ (HF.hs x.2.2).length ≤ 2 := (let q := pr2.bd x (List.mem_append_right _ (List.mem_singleton.mpr rfl)); ⟨q.1.oc, q.2.oc⟩)
  refine ⟨b, dx, l, sxs, sides, own, own2, x, va, vb, by rw [pin.s0] <;> rfl, dk5.bd, av4.mono g5, bv4.mono g5, pin.a.g, pin.b.g, ⟨⟨by omega, pin.a.hh⟩, by omega, pin.b.hh⟩, fn2.mono fun p hp => List.mem_append_right _ hp, by show (HF.hs x.2.1 ++ HF.hs x.2.2).length ≤ 400; have := hx2; rw [List.length_append]; omega, fun p hp m hm => ?_, gx.tab, pr, hu, pr2, hht, fun H6 σ g6 => q1 H6 σ (gx.trans g6), fun H6 σ g6 => q2 H6 σ (gx.trans g6), fun H6 σ g6 => q3 H6 σ (gx.trans g6)⟩
  exact (fn2 p.1 m p.2 (List.mem_append_left _ ((pr.mem _).mp hm)) (List.mem_append_right _ hp))
end

end HW
end
section
set_option Elab.async false
set_option linter.all false
set_option maxRecDepth 100000
set_option maxHeartbeats 4000000
namespace HW
open PySem PySem.Spec PyProof.Rows L2 NdefX LamX
/-! ### where the pairs clash: Clash is let out -/
open TL
structure MetX (P : Program) (w : World) (K : PySem.W.Frag) (mg : Str → Option Value) (base : Heap) (k : Nat) (C : Addr) (m : Str) (sp : Sp) : Prop where
  ex : ∃ (f : Addr) (fd : FuncData) (ps : List Str), Cls K C ∧ Meth K C m f ∧ FnOk P w K mg base (L2.CX P w) k f fd ps sp ∧ Binds K fd ps []
section
variable {X : Cx} {j k : Nat} {C : Addr} {m : Str} {sp : Sp} {E : XK} {o e : Expr} {es : List Expr} {apos pos : Pos} {ta : TE} {t : TA}
theorem pe_mtX {pl : Sem Bool} (c : MetX X.prog X.w X.K X.mg X.base k C m sp) (hr : Room j X.A) (hk : k ≤ j) (hx : Passes (L2.CX X.prog X.w) X E) (he : PE X o ta) (ha : PA X (e :: es) t)
    (hst : starEach (e :: es) X.env = (false, eval e X.env) :: starEach es X.env := by rfl) (hpl : (backTo pos (starEach es X.env)).any (·.1) = false := by rfl)
    (ht : eval (.Call (.Attribute o m apos) (e :: es) [] pos) X.env = (do
      let ov ← eval o X.env
      standAt apos.atName
      let (f, first) ← holding [ov] (getMethod ov m pl)
      callWith pos f first (backTo pos (starEach (e :: es) X.env)) (backToKw pos (keywordEach [] X.env))) := by rfl) :
    PE X (.Call (.Attribute o m apos) (e :: es) [] pos) (tMeth C m sp [] E ta t) := by
  obtain ⟨f, fd, ps, hc, hm, F, b⟩ := c.ex
  exact pe_meth (pl := pl) he hc hm F (hr.mono hk) b .nil hx ha hst hpl ht
def tMethS (C : Addr) (m : Str) (sp : Sp) (E : L2.St → XK) (ta : TE) (t : TA) : TE := fun σ H Q => ta σ H fun x H1 => ∃ a dx fs, x = .ref a ∧ H1 a = some (.ins C dx fs) ∧ fs.lookup m = none ∧
  t σ H1 fun vs H2 => sp (x :: vs) H2 Q (E σ)
theorem pe_mtS {pl : Sem Bool} {E : L2.St → XK} (c : MetX X.prog X.w X.K X.mg X.base k C m sp) (hr : Room j X.A) (hk : k ≤ j) (hx : ∀ σ, PassesAt (L2.CX X.prog X.w) X σ (E σ)) (he : PE X o ta) (ha : PA X (e :: es) t)
    (hst : starEach (e :: es) X.env = (false, eval e X.env) :: starEach es X.env := by rfl) (hpl : (backTo pos (starEach es X.env)).any (·.1) = false := by rfl)
    (ht : eval (.Call (.Attribute o m apos) (e :: es) [] pos) X.env = (do
      let ov ← eval o X.env
      standAt apos.atName
      let (f, first) ← holding [ov] (getMethod ov m pl)
      callWith pos f first (backTo pos (starEach (e :: es) X.env)) (backToKw pos (keywordEach [] X.env))) := by rfl) :
    PE X (.Call (.Attribute o m apos) (e :: es) [] pos) (tMethS C m sp E ta t) := by
  obtain ⟨f, fd, ps, hc, hm, F, b⟩ := c.ex
  refine ⟨fun pins s σ H Q I h => ?_⟩
  refine PySem.W.methodCall_KW (pl := pl) (thn (he.run pins s σ H _ I h) fun u s1 ⟨x, H1, I1, rx, a, dx, fs, ex, ea, l, q⟩ => ?_) ht
  subst ex
  obtain rfl : u = Value.ref a := rx
  refine getmeth_ok I1 ea hc hm l ?_
  refine PySem.W.callWith_K (first := [.ref a]) (h₀ := X.base) I.ok.mod.kin hm.kp (thn (ha.run pos pins s1 σ H1 _ I1 q) fun us s2 ⟨vs, H2, I2, r, q2⟩ => ⟨I2.kIn, ?_⟩) hst hpl
  exact run_fnS (us := .ref a :: us) (vs := .ref a :: vs) F (hr.mono hk) b (hx σ) I2 (.cons rfl r) q2
end
section
variable {P : Program} {w : World} {K : PySem.W.Frag} {mg : Str → Option Value} {base : Heap}
theorem Cn.exClash (S : Cn K mg base) : PySem.W.excIn K (He.ga K "Clash") He.veBase "ValueError.__new__" = true ∧ PySem.W.keepIn K (.ref (He.ga K "Clash")) = true ∧ PySem.W.subIn K (.ref (He.ga K "Clash")) (.type "BaseException") = some true ∧ PySem.W.typeIn K (.ref (He.ga K "Clash")) = some (.type "type") := He.exc_ok (S.c.fact 114 (rfl : fa[114]? = some (.exc "Clash")))
theorem Cn.exmClash (S : Cn K mg base) : PySem.W.exmOne K (.ref (He.ga K "Clash")) (.ref (He.ga K "Clash")) = some true := He.exm_ok (S.c.fact 115 (rfl : fa[115]? = some (.exm "Clash" "Clash" true)))
theorem metX_of {d : He.DefD} {x m : Str} {N ps : List Str} {k : Nat} {sp : Sp} (S : Cn K mg base) (i j jc : Nat) (hd : fn[i]? = some d) (hg : fa[j]? = some (.meth x m)) (hc : fa[jc]? = some (.cls x)) (hat : d.at_ = (x, some m)) (hdf : d.dfl = []) (hkw : d.kwd = [])
    (Sc : FnScope N ps d.scope) (len : ∀ vs H Q E, sp vs H Q E → vs.length = ps.length)
    (hb : ∀ (kV doc pm : Value) (an : Option Addr) (cdv ct : Value) (us : List Value), us.length = ps.length → bindArgs (PySem.W.fnOf d.name d.qual d.params d.body d.scope .none kV doc pm an cdv ct) ⟨us, []⟩ = pure (ps.zip us))
    (hbody : ∀ (f : Addr) (cdv : Value) (A : Around) (outer : List Env) (s : Shared) (H : Hp) (vs : List V) (Q : VK) (E : XK), Room k (A.deeper (envOfC d.qual d.scope s.heap.objs.size f cdv)) → sp vs H Q E →
      ∃ t, PSs (cxOf (L2.CX P w) P w K mg base N d.qual d.scope f cdv A outer s H E) d.body t ∧ t { nx := fun _ H' => Q .non H', rt := Q } (start N vs) H) : MetX P w K mg base (k + 1) (He.ga K x) m sp := by
  obtain ⟨fd, F⟩ := S.c.def_ i hd
  have e1 : d.dvs K = [] := by unfold He.DefD.dvs; rw [hdf]; rfl
  have e2 : d.kws K = [] := by unfold He.DefD.kws; rw [hkw]; rfl
  rw [e1, e2] at F
  have ef : He.fAd K d.at_ = He.ma K (He.ga K x) m := by rw [hat]; rfl
  have fo : FnOk P w K mg base (L2.CX P w) (k + 1) (He.fAd K d.at_) fd ps sp := F.ok Sc len fun cdv A outer s H vs Q E hr h => hbody _ cdv A outer s H vs Q E hr h
  have bi := F.bindsN hb
  rw [ef] at fo
  exact ⟨_, fd, ps, S.cls jc hc, He.meth_ok (S.c.fact j hg), fo, bi⟩
def spBForX (K : PySem.W.Frag) (T : List NTab) (n : Nat) (B : List Str) (h0 n0 l0 : Nat) : Sp := fun vs H Q E => ∃ (b dx l lt : Addr) (sxs tv : List V) (sides : List (HF.Side Str)) (own : List (Str × Nat)) (ts : List Tm), vs = [.ref b, .ref lt] ∧ BdAt K H b dx l sxs sides ∧ H lt = some (.lst tv) ∧ AtV H ts tv ∧
  (∀ t ∈ ts, HF.nd t ≤ 1900000 ∧ HF.ht t ≤ n) ∧ fnl (tsH ts) ∧ (tsH ts).length ≤ 400 ∧ TabsN T H ∧ Prs n B h0 n0 l0 sides own ∧ ¬ HF.Unif sides own ∧ ∀ H', Gr T [] H H' → E (.ref (He.ga K "Clash")) Option.none H'
theorem ok_bforx (S : Cn K mg base) (n : Nat) (B : List Str) (h0 n0 l0 : Nat) (hH : Has P w K mg base "holes_of" (n + 1) ["term"] [] (spHoles (TT K) n)) (hA : Has P w K mg base "solved_apart" (5 + n + n + 6) ["pairs", "others"] [] (spApart K (TT K) n B h0 n0 l0)) :
    MetX P w K mg base (5 + n + n + 7) (He.ga K "Board") "filling_for" (spBForX K (TT K) n B h0 n0 l0) := by
  refine metX_of (d := d_Board_filling_for) S 33 102 95 rfl rfl rfl rfl rfl rfl sc_Board_filling_for (fun vs H Q E h => ?_) (fun _ _ _ _ _ _ us hl => match us, hl with | [_, _], _ => rfl) (fun f cdv A outer s H vs Q E hr h => ?_)
  · obtain ⟨b, dx, l, lt, sxs, tv, sides, own, ts, rfl, _⟩ := h
    rfl
  refine ⟨_, (pss_cons (ps_set (i := 2) sc_Board_filling_for.nd rfl (Or.inl rfl) pe_dnewK) (pss_cons (ps_for (passes_of rfl) rfl (pi_list (pv 1)) (pg_name (i := 3) sc_Board_filling_for.nd rfl (Or.inl rfl)) (pss_one (ps_expr (pe_bm PySem.F.plainAttrs_dict PySem.F.slot_dict_update PySem.F.type_dict_update mt_update (pv 2) (pa_cons (pe_hs hH hr (by omega) rfl (pa_cons (pv 3) pa_nil)) pa_nil))))) (pss_cons (ps_set (i := 4) sc_Board_filling_for.nd rfl (Or.inl rfl) (pe_hs hA hr (by omega) rfl (pa_cons (pe_fld (pv 0) rfl) (pa_cons (pv 2) pa_nil)))) (pss_cons (ps_if (ptEq (ixT (pv 4))) (pss_one (ps_raise rfl (takes_of rfl rfl rfl rfl) (pmk_own PySem.F.excBase_ValueError S.exClash.1 (S.glo 56) S.exClash.2.1 (raises_own S.exClash.2.2.1 S.exClash.2.2.2) rfl))) pss_nil) (pss_one (ps_ret (ixT (pv 4)))))))), ?_⟩
  obtain ⟨b, dx, l, lt, sxs, tv, sides, own, ts, rfl, bd, elt, atv, hts, hf, hl, hT, pr, hu, q⟩ := h
  have hcl := S.cls 95
  have na := S.noat 97
  refine fun d hd => ?_
  have g0 := Gr.new0 (X := []) (o := .dK []) hT hd
  refine ⟨_, rfl, lt, rfl, ⟨_, SqL.of (g0.lst elt)⟩, ?_⟩
  refine for_list (K := K) (a := lt) (xs := tv) (fun i σ H' => ∃ o1 o2 kvs, σ = [some (.ref b), some (.ref lt), some (.ref d), o1, o2] ∧ Gr (TT K) [] H H' ∧ H' d = some (.dK kvs) ∧ Cnt kvs (tsH (ts.take i))) ⟨_, _, [], rfl, g0, upd_same, Cnt.nil⟩ (fun i σ H' _ ⟨_, _, _, _, g, _⟩ => SqL.of (g.lst elt)) ?_ ?_
  · rintro i x σ H' hx ⟨o1, o2, kvs, rfl, g, eo, hc⟩
    obtain ⟨t, et, at1⟩ := atv.get i x hx
    have ht := List.mem_of_getElem? et
    have fall : fnl (tsH (ts.take i) ++ HF.hs t) := hf.mono fun p hp => (List.mem_append.mp hp).elim (fun h5 => (let ⟨y, h6, h7⟩ := List.mem_flatMap.mp h5; List.mem_flatMap.mpr ⟨y, List.mem_of_mem_take h6, h7⟩)) fun h5 => List.mem_flatMap.mpr ⟨t, ht, h5⟩
    have esn : tsH (ts.take (i + 1)) = tsH (ts.take i) ++ HF.hs t := by rw [take_snoc et]; simp [tsH]
    have lenall : (tsH (ts.take (i + 1))).length ≤ 400 := by
      refine Nat.le_trans ?_ hl
      unfold tsH
      conv => rhs; rw [← List.take_append_drop (i + 1) ts]
      rw [List.flatMap_append, List.length_append]
      omega
    rw [esn, List.length_append] at lenall
    refine ⟨_, rfl, .inr (.inr (.inl ⟨rfl, .inl ⟨_, eo⟩⟩)), ?_⟩
    refine ⟨_, rfl, t, x, rfl, at1.mono g, g.tab, by have := hts t ht; omega, (hts t ht).2, fall.mono fun p hp => List.mem_append_right _ hp, fun da H4 ka ga hda eda ca => ?_⟩
    have nda : d ≠ da := fun z => by rw [← z, eo] at hda; cases hda
    refine ⟨d, da, kvs, ka, rfl, rfl, ga.dK eo, eda, nda, szl (by have := hc.len; have := ca.len; omega), ?_⟩
    refine ⟨_, _, _, rfl, (g.trans ga).mutD (.inl hd) (ga.dK eo), upd_same, ?_⟩
    rw [esn]
    exact hc.merge ca fall
  · rintro σ H' ⟨o1, o2, kvs, rfl, g, eo, hc⟩
    rw [atv.len, List.take_length] at hc
    have bd1 := bd.mono g
    refine ⟨_, rfl, b, _, _, _, _, rfl, bd1.ins, hcl, na, rfl, _, rfl, ?_⟩
    refine ⟨l, d, sxs, sides, own, tsH ts, kvs, rfl, bd1.lst, bd1.sds, eo, hc, hl, g.tab, pr, fun p H2 rest g2 ep hno => ?_, fun p H2 sf dd fk σs g2 ep ed esf af fld => absurd fld.1 hu⟩
    refine ⟨_, rfl, p, _, 0, _, rfl, rfl, SqT.of ep, at_of (j := 0) rfl rfl, rfl, _, rfl, ift eRf ?_⟩
    exact q H2 (g.trans g2)
def spBFillX (K : PySem.W.Frag) (T : List NTab) (n : Nat) (B : List Str) (h0 n0 l0 : Nat) : Sp := fun vs H Q E => ∃ (b dx l : Addr) (sxs : List V) (sides : List (HF.Side Str)) (own : List (Str × Nat)) (t : Tm) (v : V), vs = [.ref b, v] ∧ BdAt K H b dx l sxs sides ∧ At H t v ∧
  HF.nd t ≤ 1900000 ∧ HF.ht t ≤ n ∧ fnl (HF.hs t) ∧ (HF.hs t).length ≤ 400 ∧ TabsN T H ∧ Prs n B h0 n0 l0 sides own ∧ ¬ HF.Unif sides own ∧ ∀ H', Gr T [] H H' → E (.ref (He.ga K "Clash")) Option.none H'
theorem ok_bfillx (S : Cn K mg base) (n : Nat) (B : List Str) (h0 n0 l0 : Nat) (hG : MetX P w K mg base (5 + n + n + 7) (He.ga K "Board") "filling_for" (spBForX K (TT K) n B h0 n0 l0)) (hF : Has P w K mg base "filled" (5 + n + n + 1) ["filling", "term"] [] (spFilled (TT K) n n)) :
    MetX P w K mg base (5 + n + n + 8) (He.ga K "Board") "fill" (spBFillX K (TT K) n B h0 n0 l0) := by
  refine metX_of (d := d_Board_fill) S 34 103 95 rfl rfl rfl rfl rfl rfl sc_Board_fill (fun vs H Q E h => ?_) (fun _ _ _ _ _ _ us hl => match us, hl with | [_, _], _ => rfl) (fun f cdv A outer s H vs Q E hr h => ?_)
  · obtain ⟨b, dx, l, sxs, sides, own, t, v, rfl, _⟩ := h
    rfl
  refine ⟨_, (pss_one (ps_ret (pe_hs hF hr (by omega) rfl (pa_cons (pe_mtX hG hr (by omega) (passes_call (takes_of rfl rfl rfl rfl) (fun _ _ _ _ h => h)) (pv 0) (pa_cons (pe_lst (pa_cons (pv 1) pa_nil)) pa_nil)) (pa_cons (pv 1) pa_nil))))), ?_⟩
  obtain ⟨b, dx, l, sxs, sides, own, t, v, rfl, bd, at1, hn, hh, hf, hl, hT, pr, hu, q⟩ := h
  refine ⟨_, rfl, b, _, _, rfl, bd.ins, rfl, _, rfl, szl (by show 1 ≤ 10000000; decide), fun lt hlt => ?_⟩
  have g0 := Gr.new0 (X := []) (o := .lst [v]) hT hlt
  have e1 : tsH [t] = HF.hs t := by simp [tsH]
  exact ⟨b, dx, l, lt, sxs, [v], sides, own, [t], rfl, bd.mono g0, upd_same, atV_one (at1.mono g0), fun y hy => by rw [List.mem_singleton.mp hy]; exact ⟨hn, hh⟩, by rw [e1]; exact hf, by rw [e1]; exact hl, g0.tab, pr, hu, fun H2 g2 => q H2 (g0.trans g2)⟩
def spDFillX (K : PySem.W.Frag) (T : List NTab) (n : Nat) (B : List Str) (h0 n0 l0 : Nat) : Sp := fun vs H Q E => ∃ (k kdx b dx l r : Addr) (sxs : List V) (sides : List (HF.Side Str)) (own : List (Str × Nat)) (t : Tm) (z : Str), vs = [.ref k, .str z] ∧ DkAt K H k kdx b dx l r sxs sides ∧ Rx B n t z ∧ TabsN T H ∧
  Prs n B h0 n0 l0 sides own ∧ ¬ HF.Unif sides own ∧ fnl (sdsH sides ++ HF.hs t) ∧ (HF.hs t).length ≤ 400 ∧ ∀ H', Gr T [] H H' → E (.ref (He.ga K "Clash")) Option.none H'
theorem spDFillX.up {T : List NTab} {n : Nat} {B : List Str} {h0 n0 l0 : Nat} {vs : List V} {H H1 : Hp} {Q : VK} {E : XK} (g : Gr T [] H H1) (h : spDFillX K T n B h0 n0 l0 vs H Q E) : spDFillX K T n B h0 n0 l0 vs H1 Q E := by
  obtain ⟨k, kdx, b, dx, l, r, sxs, sides, own, t, z, e, dk, rx, hTb, pr, hu, fn2, few, q⟩ := h
  exact ⟨k, kdx, b, dx, l, r, sxs, sides, own, t, z, e, dk.mono g, rx, g.tab, pr, hu, fn2, few, fun H' g' => q H' (g.trans g')⟩
theorem ok_dfillx (S : Cn K mg base) (n : Nat) (B : List Str) (h0 n0 l0 : Nat) (bn : Bn n B h0 n0 l0) (hR : Has P w K mg base "read" (3 * n + 4) ["text", "names"] [.non] (spRead (TT K) B n)) (hL : Has P w K mg base "look_alike" (n + 2) ["terms", "known"] [] (spAlk (TT K) n))
    (hK : C8.Met P w K mg base (n + 2) (He.ga K "Desk") "known" (spKnown K (TT K) n) []) (hF : MetX P w K mg base (5 + n + n + 8) (He.ga K "Board") "fill" (spBFillX K (TT K) n B h0 n0 l0)) (hS : Has P w K mg base "shown" (2 * n + 3) ["term", "scope"] [.int 0] (spShown (TT K) n)) :
    MetX P w K mg base (3 * n + 20) (He.ga K "Desk") "fill" (spDFillX K (TT K) n B h0 n0 l0) := by
  refine metX_of (d := d_Desk_fill) S 60 113 105 rfl rfl rfl rfl rfl rfl sc_Desk_fill (fun vs H Q E h => ?_) (fun _ _ _ _ _ _ us hl => match us, hl with | [_, _], _ => rfl) (fun f cdv A outer s H vs Q E hr h => ?_)
  · obtain ⟨k, kdx, b, dx, l, r, sxs, sides, own, t, z, rfl, _⟩ := h
    rfl
  refine ⟨_, (pss_cons (ps_set (i := 2) sc_Desk_fill.nd rfl (Or.inl rfl) (pe_hs hR hr (by omega) rfl (pa_cons (pv 1) pa_nil))) (pss_cons (ps_expr (pe_hs hL hr (by omega) rfl (pa_cons (pe_lst (pa_cons (pv 2) pa_nil)) (pa_cons (C8.pe_mt0 hK hr (by omega) (pv 0)) pa_nil)))) (pss_one (ps_ret (pe_hs hS hr (by omega) rfl (pa_cons (pe_mtX hF hr (by omega) (passes_call (takes_of rfl rfl rfl rfl) (fun _ _ _ _ h => h)) (pe_fld (pv 0) rfl) (pa_cons (pv 2) pa_nil)) pa_nil)))))), ?_⟩
  obtain ⟨k, kdx, b, dx, l, r, sxs, sides, own, t, z, rfl, dk, rx, hTb, pr, hu, fn2, few, q⟩ := h
  have hcl := S.cls 105
  have na := S.noat 107
  refine ⟨_, rfl, t, z, .non, rfl, .inl rfl, hTb, rx, fun H1 tv g1 at1 => ?_⟩
  have dk1 := dk.mono g1
  refine ⟨_, rfl, szl (by show 1 ≤ 10000000; decide), fun lt hlt => ?_⟩
  have g2 := g1.new (o := .lst [tv]) hlt
  have gs := Gr.new0 (X := []) (o := .lst [tv]) g1.tab hlt
  have dk2 := dk1.mono gs
  refine ⟨_, rfl, k, _, _, rfl, dk2.ins, rfl, k, kdx, b, dx, l, r, sxs, sides, rfl, dk2, g2.tab, pr.raw bn, pr.fn, by have := pr.few; omega, fun H3 d kvs g3 hd ed cd => ?_⟩
  have at3 := (at1.mono gs).mono g3
  have e1 : tsH [t] = HF.hs t := by simp [tsH]
  refine ⟨lt, d, [tv], [t], kvs, sdsH sides, rfl, g3.lst upd_same, atV_one at3, ed, cd, g3.tab, fun y hy => ?_, by rw [e1]; exact fn2, by have := pr.few; rw [e1]; omega, fun H4 g4 => ?_⟩
  · rw [List.mem_singleton.mp hy]; exact ⟨rx.hh, rx.nn⟩
  have dk4 := (dk2.mono g3).mono g4
  have g5 := (g2.trans g3).trans g4
  refine ⟨_, rfl, k, _, _, _, _, rfl, dk4.ins, hcl, na, rfl, b, _, _, rfl, dk4.bd.ins, rfl, _, rfl, ?_⟩
  have hn := rx.nn
  exact ⟨b, dx, l, sxs, sides, own, t, tv, rfl, dk4.bd, at3.mono g4, by omega, rx.hh, rx.f, few, g4.tab, pr, hu, fun H6 g6 => q H6 (g5.trans g6)⟩
def spSFillX (K : PySem.W.Frag) (T : List NTab) (n : Nat) (B : List Str) (h0 n0 l0 : Nat) : Sp := fun vs H Q E => ∃ (k : Addr) (row z : Str), vs = [.ref k, .str row] ∧ row = "fill" ++ " " ++ z ∧ z.length ≤ 3000000 ∧ TabsN T H ∧ spDFillX K T n B h0 n0 l0 [.ref k, .str z] H Q E
theorem ok_sfillx (S : Cn K mg base) (n : Nat) (B : List Str) (h0 n0 l0 : Nat) (hP : Has P w K mg base "parted" 1 ["text", "mark"] [] (spParted (TT K))) (hD : MetX P w K mg base (3 * n + 20) (He.ga K "Desk") "fill" (spDFillX K (TT K) n B h0 n0 l0)) :
    MetX P w K mg base (3 * n + 21) (He.ga K "Desk") "say" (spSFillX K (TT K) n B h0 n0 l0) := by
  refine metX_of (d := d_Desk_say) S 56 109 105 rfl rfl rfl rfl rfl rfl sc_Desk_say (fun vs H Q E h => ?_) (fun _ _ _ _ _ _ us hl => match us, hl with | [_, _], _ => rfl) (fun f cdv A outer s H vs Q E hr h => ?_)
  · obtain ⟨k, row, z, rfl, _⟩ := h
    rfl
  refine ⟨_, (pss_cons (ps_if (pt_not (pt_val (pe_callB RZ.call_isTy (by rfl) (S.free 59) (by decide +kernel) (pa_cons (pv 1) (pa_cons (pe_bltn (v := .ty "str") (by rfl) (S.free 74) (by decide +kernel) rfl) pa_nil))))) (pss_one ps_never) pss_nil) (pss_cons (ps_if (pt_cmpR op_in_seq (pv 1) (C8.pe_gc (v := .ref (He.ga K "ALONE")) rfl (S.gref 116)) (by rfl)) pss_never pss_nil) (pss_cons (ps_asg (pe_hs hP hr (by omega) rfl (pa_cons (pv 1) (pa_cons pe_str pa_nil))) (pg_tup rfl (pgs_cons (pg_name (i := 2) sc_Desk_say.nd rfl (Or.inl rfl)) (pgs_cons (pg_name (i := 3) sc_Desk_say.nd rfl (Or.inl rfl)) pgs_nil)))) (pss_cons (ps_if (ptEq (pv 2)) pss_never pss_nil) (pss_cons (ps_if (ptEq (pv 2)) pss_never pss_nil) (pss_cons (ps_if (ptEq (pv 2)) pss_never pss_nil) (pss_cons (ps_if (ptEq (pv 2)) (pss_one (ps_ret (pe_mtX hD hr (by omega) (passes_call (takes_of rfl rfl rfl rfl) (fun _ _ _ _ h => h)) (pv 0) (pa_cons (pv 3) pa_nil)))) pss_nil) pss_never))))))), ?_⟩
  obtain ⟨k, row, z, rfl, rfl, hz, hT, hp⟩ := h
  have l1 : ("fill" : Str).length = 4 := by decide +kernel
  have l2 : (" " : Str).length = 1 := by decide +kernel
  refine ⟨_, rfl, _, _, rfl, .str _, _, rfl, iteF ?_⟩
  refine ⟨_, rfl, _, _, rfl, .inr (S.alone H), rfl, flat_strs _, _, rfl, iff' (not_alone _ _ (by decide +kernel)) ?_⟩
  refine ⟨_, rfl, _, " ", ("fill" : Str).length, rfl, hT, szl (by rw [len_app, len_app]; omega), szl (by omega), row_find _ _ (by decide +kernel), fun H1 p g1 ep => ?_⟩
  rw [cut_a, cut_b] at ep
  refine ⟨p, _, rfl, SqT.of ep, rfl, _, _, rfl, _, _, rfl, rfl, ?_⟩
  refine ⟨_, rfl, rfl, _, rfl, iff' (by decide +kernel) ?_⟩
  refine ⟨_, rfl, rfl, _, rfl, iff' (by decide +kernel) ?_⟩
  refine ⟨_, rfl, rfl, _, rfl, iff' (by decide +kernel) ?_⟩
  refine ⟨_, rfl, rfl, _, rfl, ift eRf ?_⟩
  have hp1 := hp.up g1
  obtain ⟨k', kdx, b, dx, l, r, sxs, sides, own, t, z', e, dk, _⟩ := id hp1
  cases e
  exact ⟨_, rfl, k, _, _, rfl, dk.ins, rfl, _, rfl, hp1⟩
end

end HW
end
section
set_option Elab.async false
set_option linter.all false
set_option maxRecDepth 100000
set_option maxHeartbeats 4000000
namespace HW
open PySem PySem.Spec PyProof.Rows L2 NdefX LamX
/-! ### the law's numbers and words -/
open TL
def mixF (c : Int) (p : Nat) : Int := ((c % 10 ^ 60 + 1) * (48271 + 130 * (p : Int)) % 2147483647) * ((c % 10 ^ 60 + 1) * (48271 + 130 * (p : Int)) % 2147483647) % 2147483629
theorem mixF_nn (c : Int) (p : Nat) : 0 ≤ mixF c p := Int.emod_nonneg _ (by decide)
theorem mixF_lt (c : Int) (p : Nat) : mixF c p < 2147483629 := Int.emod_lt_of_pos _ (by decide)
def lenF (c : Int) : Nat := (2 + mixF c 1 % 7).toNat
def stemL (c : Int) : List Nat := (List.range (lenF c)).map fun k => 97 + (mixF c (2 + k) % 26).toNat
def spotF (c : Int) : Nat := (mixF c 11 % (lenF c : Int)).toNat
def fstF (c : Int) : Nat := (mixF c 12 % 26).toNat
def wordL (c : Int) (k : Nat) : List Nat := (stemL c).take (spotF c) ++ [97 + (fstF c + 7 * k) % 26] ++ (stemL c).drop (spotF c + 1)
def wordF (c : Int) (k : Nat) : Str := ⟨(wordL c k).toArray⟩
def wordsF (c : Int) (m : Nat) : List Str := (List.range m).map (wordF c)
theorem lenF_b (c : Int) : 2 ≤ lenF c ∧ lenF c ≤ 8 := by
  have h1 := Int.emod_nonneg (mixF c 1) (by decide : (7 : Int) ≠ 0)
  have h2 := Int.emod_lt_of_pos (mixF c 1) (by decide : (0 : Int) < 7)
  unfold lenF
  omega
theorem spotF_lt (c : Int) : spotF c < lenF c := by
  have h := lenF_b c
  have h1 := Int.emod_nonneg (mixF c 11) (by omega : (lenF c : Int) ≠ 0)
  have h2 := Int.emod_lt_of_pos (mixF c 11) (by omega : (0 : Int) < (lenF c : Int))
  unfold spotF
  omega
theorem stemL_len (c : Int) : (stemL c).length = lenF c := by unfold stemL; rw [List.length_map, List.length_range]
theorem wordL_len (c : Int) (k : Nat) : (wordL c k).length = lenF c := by
  have h1 := spotF_lt c
  have h2 := stemL_len c
  unfold wordL
  simp only [List.length_append, List.length_take, List.length_drop, List.length_singleton]
  omega
theorem stemL_ok {c : Int} {x : Nat} (h : x ∈ stemL c) : 97 ≤ x ∧ x ≤ 122 := by
  unfold stemL at h
  obtain ⟨k, _, rfl⟩ := List.mem_map.mp h
  have h1 := Int.emod_nonneg (mixF c (2 + k)) (by decide : (26 : Int) ≠ 0)
  have h2 := Int.emod_lt_of_pos (mixF c (2 + k)) (by decide : (0 : Int) < 26)
  omega
theorem wordF_wd (c : Int) (k : Nat) : Wd (wordF c k) := by
  have hl := lenF_b c
  have hs : (wordF c k).length = lenF c := by
    have e : (wordF c k).length = (wordL c k).length := by rw [str_size] <;> rfl
    rw [e, wordL_len]
  refine ⟨fun x hx => ?_, by omega, by omega⟩
  have hx : x ∈ wordL c k := hx
  unfold wordL at hx
  rcases List.mem_append.mp hx with hx | hx
  · rcases List.mem_append.mp hx with hx | hx
    · exact isL_iff.mpr (stemL_ok (List.mem_of_mem_take hx))
    · rw [List.mem_singleton.mp hx]; exact isL_iff.mpr (by omega)
  · exact isL_iff.mpr (stemL_ok (List.mem_of_mem_drop hx))
theorem wordF_inj {c : Int} {i j : Nat} (hi : i < 26) (hj : j < 26) (e : wordF c i = wordF c j) : i = j := by
  have e1 : wordL c i = wordL c j := congrArg (fun u : Str => u.cps.toList) e
  have h1 := spotF_lt c
  have h2 := stemL_len c
  have g : ∀ k, (wordL c k)[spotF c]? = some (97 + (fstF c + 7 * k) % 26) := fun k => by
    have hl : ((stemL c).take (spotF c)).length = spotF c := by rw [List.length_take]; omega
    unfold wordL
    rw [List.append_assoc, List.getElem?_append_right (by omega), hl, Nat.sub_self]
    rfl
  have e2 : some (97 + (fstF c + 7 * i) % 26) = some (97 + (fstF c + 7 * j) % 26) := by rw [← g i, ← g j, e1]
  have e3 := Option.some.inj e2
  omega
theorem wordF_two (c : Int) (k : Nat) {u : Str} (h : u.length = 1) : wordF c k ≠ u := fun e => by
  have hl := lenF_b c
  have : (wordF c k).length = (wordL c k).length := by rw [str_size] <;> rfl
  rw [e, h, wordL_len] at this
  omega
theorem tl_joins : ∀ ws : List Str, tl (Txt.join "" ws) = (ws.map tl).flatten
  | [] => by rw [join_eq]; decide +kernel
  | [x] => by rw [join_eq]; simp [Str.join]
  | x :: y :: r => by
    have ih := tl_joins (y :: r)
    rw [join_eq] at ih ⊢
    show tl (x ++ "" ++ Str.join "" (y :: r)) = _
    rw [tl_append, tl_append, ih, tl_nil, List.append_nil]
    rfl
theorem letter_at (k : Nat) (h : k < 26) : atI ("abcdefghijklmnopqrstuvwxyz" : Str).cps.toList ((k : Nat) : Int) = some (97 + k) := ltr_at ⟨k, h⟩
section
variable {P : Program} {w : World} {K : PySem.W.Frag} {mg : Str → Option Value} {base : Heap}
def spCellAt (K : PySem.W.Frag) : Sp := fun vs H Q _ => ∃ (a : Addr) (ns : List Int) (k : Nat), vs = [.ref a, .int (k : Int)] ∧ SqL K H a (ns.map V.int) ∧ Q (.int (ns.getD k 0)) H
theorem sc_law_cell_at : FnScope ["_law_script", "_law_k"] ["_law_script", "_law_k"] (defScope s_law_cell_at) := ⟨rfl, rfl, rfl, by decide +kernel, rfl, by decide +kernel, by decide +kernel⟩
theorem ok_cellat (S : Cn K mg base) : Has P w K mg base "_law_cell_at" 1 ["_law_script", "_law_k"] [] (spCellAt K) := by
  refine has_of (d := d_law_cell_at) S 61 41 rfl rfl rfl rfl rfl sc_law_cell_at (fun vs H Q E h => ?_) (fun _ _ _ _ _ _ us hl => match us, hl with | [_, _], _ => rfl) (fun f cdv A outer s H vs Q E hr h => ?_)
  · obtain ⟨a, ns, k, rfl, _⟩ := h
    rfl
  refine ⟨_, (pss_cons (ps_if (pt_cmpR op_lt (pv 1) (pe_callB call_len_seq (by rfl) (S.free 58) (by decide +kernel) (pa_cons (pv 0) pa_nil)) (nomark _)) (pss_one (ps_ret (pe_ix ix_list (pv 0) (pv 1) (fun _ _ => rfl)))) pss_nil) (pss_one (ps_ret pe_int))), ?_⟩
  obtain ⟨a, ns, k, rfl, hl, q⟩ := h
  refine ⟨_, rfl, _, rfl, a, _, rfl, .inl hl, _, _, rfl, rfl, _, rfl, ite2 (fun hc => ?_) (fun hc => ?_)⟩
  · have hc := of_decide_eq_true hc
    rw [List.length_map] at hc
    have hi : k < ns.length := by omega
    refine ⟨_, rfl, _, rfl, a, _, _, _, rfl, rfl, hl, at_of (j := k) rfl (v := .int ns[k]) (by rw [List.getElem?_map, List.getElem?_eq_getElem hi] <;> rfl), ?_⟩
    rw [List.getD_eq_getElem?_getD, List.getElem?_eq_getElem hi] at q
    exact q
  · have hc := of_decide_eq_false (Bool.eq_false_iff.mpr hc)
    rw [List.length_map] at hc
    rw [List.getD_eq_getElem?_getD, List.getElem?_eq_none_iff.mpr (by omega)] at q
    exact q
def spMix : Sp := fun vs H Q _ => ∃ (c : Int) (p : Nat), vs = [.int c, .int (p : Int)] ∧ p ≤ 1000 ∧ Q (.int (mixF c p)) H
theorem sc_law_mix : FnScope ["_law_cell", "_law_place", "_law_first"] ["_law_cell", "_law_place"] (defScope s_law_mix) := ⟨rfl, rfl, rfl, by decide +kernel, rfl, by decide +kernel, by decide +kernel⟩
theorem ok_mix (S : Cn K mg base) : Has P w K mg base "_law_mix" 1 ["_law_cell", "_law_place"] [] spMix := by
  refine has_of (d := d_law_mix) S 62 42 rfl rfl rfl rfl rfl sc_law_mix (fun vs H Q E h => ?_) (fun _ _ _ _ _ _ us hl => match us, hl with | [_, _], _ => rfl) (fun f cdv A outer s H vs Q E hr h => ?_)
  · obtain ⟨c, p, rfl, _⟩ := h
    rfl
  refine ⟨_, (pss_cons (ps_set (i := 2) sc_law_mix.nd rfl (Or.inl rfl) (pe_op op_mod (pe_op op_mul (pe_op op_add (pe_op op_mod (pv 0) (pe_op op_pow pe_int pe_int)) pe_int) (pe_op op_add pe_int (pe_op op_mul pe_int (pv 1)))) pe_int)) (pss_one (ps_ret (pe_op op_mod (pe_op op_mul (pv 2) (pv 2)) pe_int)))), ?_⟩
  obtain ⟨c, p, rfl, hp, q⟩ := h
  have a1 := Int.emod_nonneg ((c % 10 ^ 60 + 1) * (48271 + 130 * (p : Int))) (by decide : (2147483647 : Int) ≠ 0)
  have a2 := Int.emod_lt_of_pos ((c % 10 ^ 60 + 1) * (48271 + 130 * (p : Int))) (by decide : (0 : Int) < 2147483647)
  refine ⟨_, rfl, _, _, rfl, rfl, ⟨by decide, by decide, by decide⟩, _, _, rfl, rfl, (by decide +kernel : (0 : Int) < 10 ^ (60 : Int).toNat), _, _, rfl, rfl, ?_⟩
  refine ⟨_, rfl, _, _, rfl, rfl, .inl ⟨by decide, by decide⟩, _, _, rfl, rfl, _, _, rfl, rfl, .inr ⟨by omega, by omega⟩, _, _, rfl, rfl, (by show (0 : Int) < 2147483647; decide), ?_⟩
  refine ⟨_, rfl, _, rfl, _, _, rfl, rfl, .inl ⟨?_, ?_⟩, _, _, rfl, rfl, (by show (0 : Int) < 2147483629; decide), ?_⟩
  · exact Int.lt_of_lt_of_le (by decide) a1
  · exact Int.lt_trans a2 (by decide)
  · exact q
def spFree : Sp := fun vs H Q _ => ∃ (c : Int) (p : Nat), vs = [.int c, .int (p : Int)] ∧ p ≤ 1000 ∧ ∀ r : Nat, Q (.int (r : Int)) H
theorem sc_law_free : FnScope ["_law_cell", "_law_place"] ["_law_cell", "_law_place"] (defScope s_law_free) := ⟨rfl, rfl, rfl, by decide +kernel, rfl, by decide +kernel, by decide +kernel⟩
theorem ok_free (S : Cn K mg base) (hM : Has P w K mg base "_law_mix" 1 ["_law_cell", "_law_place"] [] spMix) : Has P w K mg base "_law_free" 2 ["_law_cell", "_law_place"] [] spFree := by
  refine has_of (d := d_law_free) S 64 44 rfl rfl rfl rfl rfl sc_law_free (fun vs H Q E h => ?_) (fun _ _ _ _ _ _ us hl => match us, hl with | [_, _], _ => rfl) (fun f cdv A outer s H vs Q E hr h => ?_)
  · obtain ⟨c, p, rfl, _⟩ := h
    rfl
  refine ⟨_, (pss_cons (ps_if (pt_cmpR op_eq (pe_op op_mod (pv 0) pe_int) pe_int (nomark _)) (pss_one (ps_ret (pe_op op_mod (pe_op op_fdiv (pv 0) pe_int) (pe_op op_pow pe_int pe_int)))) pss_nil) (pss_one (ps_ret (pe_hs hM hr (by omega) rfl (pa_cons (pe_op op_fdiv (pv 0) pe_int) (pa_cons (pv 1) pa_nil)))))), ?_⟩
  obtain ⟨c, p, rfl, hp, q⟩ := h
  refine ⟨_, rfl, _, _, rfl, rfl, (by show (0 : Int) < 2; decide), rfl, _, rfl, ite2 (fun hc => ?_) (fun hc => ?_)⟩
  · refine ⟨_, rfl, _, _, rfl, rfl, ⟨by decide, by decide⟩, _, _, rfl, rfl, ⟨by decide, by decide, by decide⟩, _, _, rfl, rfl, (by decide +kernel : (0 : Int) < 10 ^ (60 : Int).toNat), ?_⟩
    have h1 := Int.emod_nonneg (c / 2) (by decide +kernel : (10 ^ (60 : Int).toNat : Int) ≠ 0)
    obtain ⟨r, e⟩ := Int.eq_ofNat_of_zero_le h1
    have := q r
    rw [← e] at this
    exact this
  · refine ⟨_, rfl, _, _, rfl, rfl, ⟨by decide, by decide⟩, _, rfl, _, p, rfl, hp, ?_⟩
    obtain ⟨r, e⟩ := Int.eq_ofNat_of_zero_le (mixF_nn (c / 2) p)
    have := q r
    rw [← e] at this
    exact this
end

end HW
end
section
set_option Elab.async false
set_option linter.all false
set_option maxRecDepth 100000
set_option maxHeartbeats 4000000
namespace HW
open PySem PySem.Spec PyProof.Rows L2 NdefX LamX
/-! ### the law's words, leaves -/
open TL
section
variable {P : Program} {w : World} {K : PySem.W.Frag} {mg : Str → Option Value} {base : Heap}
theorem alpha_len : ("abcdefghijklmnopqrstuvwxyz" : Str).length ≤ sizeLine := szl (by decide +kernel)
def spWordsL (T : List NTab) : Sp := fun vs H Q _ => ∃ (c : Int) (m : Nat), vs = [.int c, .int (m : Int)] ∧ m ≤ 100 ∧ TabsN T H ∧ ∀ H' p, Gr T [] H H' → H' p = some (.lst ((wordsF c m).map V.str)) → Q (.ref p) H'
theorem sc_law_words : FnScope ["_law_cell", "_law_many", "_law_letters", "_law_length", "_law_stem", "_law_spot", "_law_first", "_law_k"] ["_law_cell", "_law_many"] (defScope s_law_words) := ⟨rfl, rfl, rfl, by decide +kernel, rfl, by decide +kernel, by decide +kernel⟩
theorem ok_wordsl (S : Cn K mg base) (T : List NTab) (hM : Has P w K mg base "_law_mix" 1 ["_law_cell", "_law_place"] [] spMix) : Has P w K mg base "_law_words" 2 ["_law_cell", "_law_many"] [] (spWordsL T) := by
  refine has_of (d := d_law_words) S 63 43 rfl rfl rfl rfl rfl sc_law_words (fun vs H Q E h => ?_) (fun _ _ _ _ _ _ us hl => match us, hl with | [_, _], _ => rfl) (fun f cdv A outer s H vs Q E hr h => ?_)
  · obtain ⟨c, m, rfl, _⟩ := h
    rfl
  refine ⟨_, (pss_cons (ps_set (i := 2) sc_law_words.nd rfl (Or.inr rfl) pe_str) (pss_cons (ps_set (i := 3) sc_law_words.nd rfl (Or.inl rfl) (pe_op op_add pe_int (pe_op op_mod (pe_hs hM hr (by omega) rfl (pa_cons (pv 0) (pa_cons pe_int pa_nil))) pe_int))) (pss_cons (ps_set (i := 4) sc_law_words.nd rfl (Or.inr rfl) (pe_join pe_str (pe_lc (own := [("_law_k", 7)]) (g := (gName 7)) (by rfl) sc_law_words.nd (pi_range1 (by rfl) (S.free 62) (pa_cons (pv 3) pa_nil)) (blkOk_by (N := ["_law_cell", "_law_many", "_law_letters", "_law_length", "_law_stem", "_law_spot", "_law_first", "_law_k"]) (sc := defScope s_law_words) (by decide +kernel)) (fun _ _ _ _ _ => (pg_name (i := 7) sc_law_words.nd rfl (Or.inl rfl))) (fun _ _ _ _ _ => pts_nil) (fun _ _ _ _ _ => (pe_ix ix_str (pv 2) (pe_op op_mod (pe_hs hM hr (by omega) rfl (pa_cons (pv 0) (pa_cons (pe_op op_add pe_int (pv 7)) pa_nil))) pe_int) (fun _ _ => rfl)))))) (pss_cons (ps_set (i := 5) sc_law_words.nd rfl (Or.inr rfl) (pe_op op_mod (pe_hs hM hr (by omega) rfl (pa_cons (pv 0) (pa_cons pe_int pa_nil))) (pv 3))) (pss_cons (ps_set (i := 6) sc_law_words.nd rfl (Or.inr rfl) (pe_op op_mod (pe_hs hM hr (by omega) rfl (pa_cons (pv 0) (pa_cons pe_int pa_nil))) pe_int)) (pss_one (ps_ret (pe_lc (own := [("_law_k", 7)]) (g := (gName 7)) (by rfl) sc_law_words.nd (pi_range1 (by rfl) (S.free 62) (pa_cons (pv 1) pa_nil)) (blkOk_by (N := ["_law_cell", "_law_many", "_law_letters", "_law_length", "_law_stem", "_law_spot", "_law_first", "_law_k"]) (sc := defScope s_law_words) (by decide +kernel)) (fun _ _ _ _ _ => (pg_name (i := 7) sc_law_words.nd rfl (Or.inl rfl))) (fun _ _ _ _ _ => pts_nil) (fun _ _ _ _ _ => (pe_op op_add_str (pe_op op_add_str (pe_slice sl_str (pv 4) po_none (po_some (pv 5))) (pe_ix ix_str (pv 2) (pe_op op_mod (pe_op op_add (pv 6) (pe_op op_mul pe_int (pv 7))) pe_int) (fun _ _ => rfl))) (pe_slice sl_str (pv 4) (po_some (pe_op op_add (pv 5) pe_int)) po_none))))))))))), ?_⟩
  obtain ⟨c, m, rfl, hm, hT, q⟩ := h
  have hb := lenF_b c
  refine ⟨_, rfl, c, 1, rfl, by decide, _, _, rfl, rfl, (by show (0 : Int) < 7; decide), _, _, rfl, rfl, ?_⟩
  have e1 : (2 : Int) + mixF c 1 % 7 = ((lenF c : Nat) : Int) := by
    have h1 := Int.emod_nonneg (mixF c 1) (by decide : (7 : Int) ≠ 0)
    unfold lenF
    omega
  simp only [e1]
  refine ⟨⟨_, rfl⟩, _, rfl, _, rfl, by omega, by omega, fun D hD => ?_⟩
  refine lc_mapR (T := T) (lo := 0) (n := lenF c) (fun H i y => y = .str (ltr (mixF c (2 + i) % 26).toNat)) hT hD (szl (by omega)) (fun H H' i y g z => z) (fun H i y acc e z l => z) (fun i H' Q' Pz hi g hq => ?_) fun H1 ys g hy hlen hr' => ?_
  · refine ⟨rfl, yesT ?_⟩
    have h1 := Int.emod_nonneg (mixF c (2 + i)) (by decide : (26 : Int) ≠ 0)
    have h2 := Int.emod_lt_of_pos (mixF c (2 + i)) (by decide : (0 : Int) < 26)
    have h3 : mixF c (2 + i) % 26 = (((mixF c (2 + i) % 26).toNat : Nat) : Int) := by omega
    refine ⟨_, rfl, _, rfl, _, rfl, _, _, rfl, rfl, c, 2 + i, by simp, by omega, _, _, rfl, rfl, (by show (0 : Int) < 26; decide), ?_⟩
    refine ⟨_, _, _, rfl, rfl, alpha_len, by rw [h3]; exact letter_at _ (by omega), hq _ _ (Gr.refl g.tab) rfl⟩
  have ey : ys = ((List.range (lenF c)).map fun i => ltr (mixF c (2 + i) % 26).toNat).map V.str := List.ext_getElem? fun i => by
    cases e : ys[i]? with
    | none =>
      have := List.getElem?_eq_none_iff.mp e
      rw [List.getElem?_eq_none_iff.mpr (by rw [List.length_map, List.length_map, List.length_range]; omega)]
    | some y =>
      have hi := (List.getElem?_eq_some_iff.mp e).1
      rw [List.getElem?_map, List.getElem?_map, List.getElem?_range (by omega), hr' i y e] <;> rfl
  rw [ey] at hy
  have est : Txt.join "" ((List.range (lenF c)).map fun i => ltr (mixF c (2 + i) % 26).toNat) = ⟨(stemL c).toArray⟩ := by
    refine ext_tl ?_
    rw [tl_joins, List.map_map]
    show _ = stemL c
    unfold stemL
    rw [← List.flatMap_def]
    induction List.range (lenF c) with
    | nil => rfl
    | cons a r ih => rw [List.flatMap_cons, ih]; rfl
  have l0 : ("" : Str).length = 0 := by decide +kernel
  refine ⟨"", D, _, rfl, rfl, .inl (SqL.of hy), ?_, ?_⟩
  · have := sum_le (c := 1) (l := ((List.range (lenF c)).map fun i => ltr (mixF c (2 + i) % 26).toNat).map (·.length)) fun x hx => (by
      obtain ⟨u, hu, rfl⟩ := List.mem_map.mp hx
      obtain ⟨k, _, rfl⟩ := List.mem_map.mp hu
      exact Nat.le_refl 1)
    rw [List.length_map, List.length_map, List.length_range] at this
    rw [List.length_map, List.length_range, l0]
    omega
  rw [est]
  have slen : (⟨(stemL c).toArray⟩ : Str).length = lenF c := by
    have : (⟨(stemL c).toArray⟩ : Str).length = (stemL c).length := by rw [str_size] <;> rfl
    rw [this, stemL_len]
  have hsp := spotF_lt c
  refine ⟨_, rfl, c, 11, rfl, by decide, _, rfl, _, _, rfl, rfl, (by show (0 : Int) < (lenF c : Int); omega), ?_⟩
  have e2 : mixF c 11 % (lenF c : Int) = ((spotF c : Nat) : Int) := by
    have h1 := Int.emod_nonneg (mixF c 11) (by omega : (lenF c : Int) ≠ 0)
    unfold spotF
    omega
  simp only [e2]
  refine ⟨_, rfl, c, 12, rfl, by decide, _, _, rfl, rfl, (by show (0 : Int) < 26; decide), ?_⟩
  have e3 : mixF c 12 % 26 = ((fstF c : Nat) : Int) := by
    have h1 := Int.emod_nonneg (mixF c 12) (by decide : (26 : Int) ≠ 0)
    unfold fstF
    omega
  simp only [e3]
  refine ⟨_, rfl, _, rfl, by omega, by omega, fun D2 hD2 => ?_⟩
  refine lc_mapR (T := T) (lo := 0) (n := m) (fun H i y => y = .str (wordF c i)) g.tab hD2 (szl (by omega)) (fun H H' i y g z => z) (fun H i y acc e z l => z) (fun i H' Q' Pz hi g2 hq => ?_) fun H2 ys2 g2 hy2 hlen2 hr2 => ?_
  · refine ⟨rfl, yesT ?_⟩
    refine ⟨_, rfl, _, rfl, _, rfl, _, rfl, szl (by rw [slen]; omega), ?_⟩
    refine ⟨_, rfl, _, rfl, _, rfl, _, _, rfl, rfl, .inl ⟨by decide, by decide⟩, _, _, rfl, rfl, _, _, rfl, rfl, (by show (0 : Int) < 26; decide), ?_⟩
    have e4 : ((fstF c : Int) + 7 * (0 + (i : Int))) % 26 = (((fstF c + 7 * i) % 26 : Nat) : Int) := by omega
    refine ⟨_, _, _, rfl, rfl, alpha_len, by rw [e4]; exact letter_at _ (Nat.mod_lt _ (by decide)), ?_⟩
    have c1 := cutS_length (⟨(stemL c).toArray⟩ : Str) none (some ((spotF c : Nat) : Int))
    rw [slen] at c1
    have c2 := cutS_length (⟨(stemL c).toArray⟩ : Str) (some ((spotF c : Nat) + 1 : Int)) none
    rw [slen] at c2
    refine ⟨_, _, rfl, rfl, szl (by have : (⟨#[97 + (fstF c + 7 * i) % 26]⟩ : Str).length = 1 := rfl; omega), ?_⟩
    refine ⟨_, rfl, _, rfl, _, _, rfl, rfl, _, rfl, _, rfl, szl (by rw [slen]; omega), ?_⟩
    refine ⟨_, _, rfl, rfl, szl (by rw [len_app]; have : (⟨#[97 + (fstF c + 7 * i) % 26]⟩ : Str).length = 1 := rfl; omega), ?_⟩
    refine hq _ _ (Gr.refl g2.tab) (congrArg V.str (ext_tl ?_))
    rw [tl_append, tl_append]
    show _ = wordL c i
    unfold wordL
    have z1 : tl (cutS (⟨(stemL c).toArray⟩ : Str) none (some ((spotF c : Nat) : Int))) = (stemL c).take (spotF c) := by
      show ((stemL c).drop _).take _ = _
      rw [six0, sixN (by rw [slen]; omega), List.drop_zero, Nat.sub_zero]
    have z2 : tl (cutS (⟨(stemL c).toArray⟩ : Str) (some ((spotF c : Nat) + 1 : Int)) none) = (stemL c).drop (spotF c + 1) := by
      show ((stemL c).drop _).take _ = _
      rw [six0, show ((spotF c : Nat) + 1 : Int) = ((spotF c + 1 : Nat) : Int) by omega, sixN (by rw [slen]; omega), List.take_of_length_le (by rw [List.length_drop, stemL_len, slen]; omega)]
    rw [z1, z2]
  have ey2 : ys2 = (wordsF c m).map V.str := List.ext_getElem? fun i => by
    cases e : ys2[i]? with
    | none =>
      have := List.getElem?_eq_none_iff.mp e
      rw [List.getElem?_eq_none_iff.mpr (by unfold wordsF; rw [List.length_map, List.length_map, List.length_range]; omega)]
    | some y =>
      have hi := (List.getElem?_eq_some_iff.mp e).1
      unfold wordsF
      rw [List.getElem?_map, List.getElem?_map, List.getElem?_range (by omega), hr2 i y e] <;> rfl
  exact q H2 D2 (g.trans g2) (by rw [← ey2]; exact hy2)
end

end HW
end
section
set_option Elab.async false
set_option linter.all false
set_option maxRecDepth 100000
set_option maxHeartbeats 4000000
namespace HW
open PySem PySem.Spec PyProof.Rows L2 NdefX LamX
/-! ### the law's leaves; what is generated -/
open TL
def ndB : Nat → Nat
  | 0 => 1
  | d + 1 => 1 + 3 * ndB d
def htB (d : Nat) : Nat := d + 1
/-- a term of the generator -/
structure Gn (W : List Str) (hl : List (Str × Nat)) (s d : Nat) (t : HF.T Str) : Prop where
  c : HF.cls s t
  st : HF.strt t
  g : gt W t
  hs : ∀ p ∈ HF.hs t, p ∈ hl
  ht : HF.ht t ≤ d + 1
  nd : HF.nd t ≤ ndB d
theorem ndB_pos : ∀ d, 1 ≤ ndB d
  | 0 => Nat.le_refl _
  | d + 1 => by show 1 ≤ 1 + 3 * ndB d; omega
theorem ndB_up (d : Nat) : ndB d ≤ ndB (d + 1) := by show ndB d ≤ 1 + 3 * ndB d; omega
theorem gn_name {W : List Str} {hl : List (Str × Nat)} {s d k : Nat} (h : k < s) : Gn W hl s d (.name k) := ⟨fun x hx => by have : k = x + 0 := hx; omega, trivial, trivial, fun p hp => (by cases hp), by show 1 ≤ d + 1; omega, ndB_pos d⟩
theorem gn_leaf {W : List Str} {hl : List (Str × Nat)} {s d : Nat} {u : Str} (h : u ∈ W) : Gn W hl s d (.sign u .nil) := ⟨fun x hx => hx.elim, trivial, ⟨h, ⟨by show 0 ≤ 3; omega, fun z hz => (by cases hz)⟩, trivial⟩, fun p hp => (by cases hp), by show 1 + 0 ≤ d + 1; omega, ndB_pos d⟩
theorem tsL_mk (l : List (Nat × HF.T Str)) : tsL (mkTs l) = l := by
  induction l with
  | nil => rfl
  | cons z r ih => obtain ⟨m, t⟩ := z; simp only [mkTs, tsL, ih]
theorem strtL_of : ∀ {l : List (Nat × HF.T Str)}, (∀ z ∈ l, HF.strt z.2) → HF.strtL (mkTs l)
  | [], _ => trivial
  | (m, t) :: r, h => ⟨h (m, t) List.mem_cons_self, strtL_of fun z hz => h z (List.mem_cons_of_mem _ hz)⟩
theorem gtL_of {B : List Str} : ∀ {l : List (Nat × HF.T Str)}, (∀ z ∈ l, gt B z.2) → gtL B (mkTs l)
  | [], _ => trivial
  | (m, t) :: r, h => ⟨h (m, t) List.mem_cons_self, gtL_of fun z hz => h z (List.mem_cons_of_mem _ hz)⟩
theorem htL_of {n : Nat} : ∀ {l : List (Nat × HF.T Str)}, (∀ z ∈ l, HF.ht z.2 ≤ n) → HF.htL (mkTs l) ≤ n
  | [], _ => Nat.zero_le _
  | (m, t) :: r, h => Nat.max_le.mpr ⟨h (m, t) List.mem_cons_self, htL_of fun z hz => h z (List.mem_cons_of_mem _ hz)⟩
theorem ndL_of {n : Nat} : ∀ {l : List (Nat × HF.T Str)}, (∀ z ∈ l, HF.nd z.2 ≤ n) → HF.ndL (mkTs l) ≤ l.length * n
  | [], _ => Nat.zero_le _
  | (m, t) :: r, h => by
    have h1 : HF.nd t ≤ n := h (m, t) List.mem_cons_self
    have h2 := ndL_of (n := n) (l := r) fun z hz => h z (List.mem_cons_of_mem _ hz)
    show HF.nd t + HF.ndL (mkTs r) ≤ _
    rw [List.length_cons, Nat.add_mul, Nat.one_mul]
    omega
theorem cls_sign {s : Nat} {u : Str} {l : List (Nat × HF.T Str)} (h : ∀ z ∈ l, HF.cls (s + z.1) z.2) : HF.cls s (.sign u (mkTs l)) := fun x hx => by
  have hx : HF.frL x 0 (mkTs l) := hx
  obtain ⟨z, hz, h2⟩ := frL_mem.mp hx
  rw [tsL_mk] at hz
  have h3 := HF.fr_shift (y := x) (c := z.1) (d := 0) (t := z.2) (by simpa using h2)
  have := h z hz _ h3
  omega
theorem hs_sign {u : Str} {l : List (Nat × HF.T Str)} : HF.hs (.sign u (mkTs l)) = hsP l := by
  show HF.hsL (mkTs l) = _
  rw [hsL_P, tsL_mk]
theorem gn_sign {W : List Str} {hl : List (Str × Nat)} {s d : Nat} {u : Str} {l : List (Nat × HF.T Str)} (hu : u ∈ W) (h3 : l.length ≤ 3) (h : ∀ z ∈ l, z.1 ≤ 2 ∧ Gn W hl (s + z.1) d z.2) : Gn W hl s (d + 1) (.sign u (mkTs l)) := by
  refine ⟨cls_sign fun z hz => (h z hz).2.c, strtL_of fun z hz => (h z hz).2.st, ⟨hu, ⟨by rw [tsL_mk]; exact h3, fun z hz => (by rw [tsL_mk] at hz; exact (h z hz).1)⟩, gtL_of fun z hz => (h z hz).2.g⟩, fun p hp => ?_, ?_, ?_⟩
  · rw [hs_sign] at hp
    obtain ⟨z, hz, hq⟩ := List.mem_flatMap.mp hp
    exact (h z hz).2.hs p hq
  · have := htL_of (n := d + 1) (l := l) fun z hz => (h z hz).2.ht
    show 1 + HF.htL (mkTs l) ≤ d + 1 + 1
    omega
  · have := ndL_of (n := ndB d) (l := l) fun z hz => (h z hz).2.nd
    have h4 := Nat.mul_le_mul_right (ndB d) h3
    show 1 + HF.ndL (mkTs l) ≤ 1 + 3 * ndB d
    omega
theorem gn_hole {W : List Str} {hl : List (Str × Nat)} {s d : Nat} {u : Str} {gs : List Nat} (hw : Wd u) (hm : (u, gs.length) ∈ hl) (nd : gs.Nodup) (lt : ∀ x ∈ gs, x < s) (h2 : gs.length ≤ 2) : Gn W hl s (d + 1) (.hole u gs) := by
  refine ⟨fun x hx => lt x hx, nd, hw, fun p hp => by rw [List.mem_singleton.mp hp]; exact hm, by show 2 ≤ d + 1 + 1; omega, ?_⟩
  have := ndB_pos d
  show 1 + gs.length ≤ 1 + 3 * ndB d
  omega
section
variable {P : Program} {w : World} {K : PySem.W.Frag} {mg : Str → Option Value} {base : Heap}
def spLeaf (T : List NTab) : Sp := fun vs H Q _ => ∃ (n s : Nat) (lw : Addr) (W : List Str), vs = [.int (n : Int), .int (s : Int), .ref lw] ∧ H lw = some (.lst (W.map V.str)) ∧ 2 ≤ W.length ∧ TabsN T H ∧
  ∀ H' t v, Gr T [] H H' → At H' t v → ((∃ k, k < s ∧ t = .name k) ∨ ∃ u ∈ W, t = .sign u .nil) → Q v H'
theorem sc_law_leaf : FnScope ["_law_number", "_law_scope", "_law_words_here"] ["_law_number", "_law_scope", "_law_words_here"] (defScope s_law_leaf) := ⟨rfl, rfl, rfl, by decide +kernel, rfl, by decide +kernel, by decide +kernel⟩
theorem ok_leaf (S : Cn K mg base) (T : List NTab) : Has P w K mg base "_law_leaf" 1 ["_law_number", "_law_scope", "_law_words_here"] [] (spLeaf T) := by
  refine has_of (d := d_law_leaf) S 65 45 rfl rfl rfl rfl rfl sc_law_leaf (fun vs H Q E h => ?_) (fun _ _ _ _ _ _ us hl => match us, hl with | [_, _, _], _ => rfl) (fun f cdv A outer s H vs Q E hr h => ?_)
  · obtain ⟨n, s, lw, W, rfl, _⟩ := h
    rfl
  refine ⟨_, (pss_cons (ps_if (PW.pt (pw_and (pt_cmpR op_gt (pv 1) pe_int (nomark _)) (pw_and1 (pt_cmpR op_lt (pe_op op_mod (pv 0) pe_int) pe_int (nomark _))))) (pss_one (ps_ret (pe_tup (pa_cons pe_str (pa_cons (pe_op op_mod (pe_op op_fdiv (pv 0) pe_int) (pv 1)) pa_nil))))) pss_nil) (pss_one (ps_ret (pe_tup (pa_cons pe_str (pa_cons (pe_ix ix_list (pv 2) (pe_op op_mod (pe_op op_fdiv (pv 0) pe_int) pe_int) (fun _ _ => rfl)) (pa_cons (pe_tup pa_nil) pa_nil))))))), ?_⟩
  obtain ⟨n, s, lw, W, rfl, hl, hW, hT, q⟩ := h
  by_cases hs : 0 < s
  case' pos =>
    refine ⟨_, rfl, _, _, rfl, rfl, _, rfl, ift (decide_eq_true (by omega)) ?_⟩
    refine ⟨_, rfl, _, _, rfl, rfl, (by show (0 : Int) < 3; decide), _, _, rfl, rfl, _, rfl, ite2 (fun hc => ?_) (fun hc => ?_)⟩
    case' refine_1 =>
      refine ⟨_, rfl, _, _, rfl, rfl, ⟨by decide, by decide⟩, _, rfl, _, _, rfl, rfl, (by show (0 : Int) < (s : Int); omega), szl (by show 2 ≤ 10000000; decide), fun p hp => ?_⟩
      exact q _ (.name (n / 3 % s)) _ (Gr.new0 hT hp) ⟨p, rfl, by rw [upd_same] <;> rfl⟩ (.inl ⟨_, Nat.mod_lt _ hs, rfl⟩)
  case' neg =>
    refine ⟨_, rfl, _, _, rfl, rfl, _, rfl, iff' (decide_eq_false (by omega)) ?_⟩
  all_goals
    have hi : n / 3 % 2 < W.length := by omega
    refine ⟨_, rfl, _, rfl, _, _, rfl, rfl, ⟨by decide, by decide⟩, _, _, rfl, rfl, (by show (0 : Int) < 2; decide), lw, _, _, _, rfl, rfl, SqL.of hl, at_of (j := n / 3 % 2) rfl (v := .str W[n / 3 % 2]) (by rw [List.getElem?_map, List.getElem?_eq_getElem hi] <;> rfl), ?_⟩
    refine ⟨szl (by decide), fun a1 h1 => ⟨szl (by show 3 ≤ 10000000; decide), fun a2 h2 => ?_⟩⟩
    have g1 := Gr.new0 (X := []) (o := .tup []) hT h1
    have g2 := Gr.new0 (X := []) (o := .tup [.str "sign", .str W[n / 3 % 2], .ref a1]) g1.tab h2
    exact q _ (.sign W[n / 3 % 2] .nil) (.ref a2) (g1.trans g2) ⟨a2, a1, [], rfl, upd_same, g2.tup _ _ upd_same, rfl⟩ (.inr ⟨_, List.getElem_mem hi, rfl⟩)
end

end HW
end
section
set_option Elab.async false
set_option linter.all false
set_option maxRecDepth 100000
set_option maxHeartbeats 4000000
namespace HW
open PySem PySem.Spec PyProof.Rows L2 NdefX LamX
/-! ### the law's terms -/
open TL
theorem dp_intsI {K : PySem.W.Frag} {H : Hp} : ∀ ns : List Int, DpAll K H (ns.map V.int) (ns.map PyData.int)
  | [] => .nil
  | k :: r => .cons (.int k) (dp_intsI r)
theorem intsI_ok : ∀ ns : List Int, PyData.canLayAll0 (ns.map PyData.int) = true
  | [] => rfl
  | k :: r => by
    have ih := intsI_ok r
    simp only [List.map_cons, PyData.canLayAll0, PyData.canLay0, ih]
    rfl
theorem intsI_depth : ∀ ns : List Int, PyData.depthAll (ns.map PyData.int) ≤ 1
  | [] => by simp [PyData.depthAll]
  | k :: r => by
    have := intsI_depth r
    simp only [List.map_cons, PyData.depthAll, PyData.depth]
    omega
theorem eqv_nil (ds : List PyData) : PyData.eqv (.list ds) (.list []) = decide (ds = []) := by
  cases ds with
  | nil => rfl
  | cons a r => rfl
theorem cut_ints (ns : List Int) (lo hi : Option Int) : ∃ ms : List Int, cutV (ns.map V.int) lo hi = ms.map V.int ∧ ms.length ≤ ns.length := by
  refine ⟨(ns.drop (HT.sIx (ns.map V.int).length 0 lo)).take (HT.sIx (ns.map V.int).length (ns.map V.int).length hi - HT.sIx (ns.map V.int).length 0 lo), ?_, ?_⟩
  · unfold cutV
    rw [List.map_take, List.map_drop]
  · rw [List.length_take, List.length_drop]; omega
theorem eraseIdx_map' {α β : Type} (f : α → β) : ∀ (l : List α) (j : Nat), (l.map f).eraseIdx j = (l.eraseIdx j).map f
  | [], _ => rfl
  | _ :: _, 0 => rfl
  | a :: r, j + 1 => by
    show f a :: (r.map f).eraseIdx j = f a :: (r.eraseIdx j).map f
    rw [eraseIdx_map' f r j]
theorem erase_perm {α : Type} : ∀ {l : List α} {j : Nat} (h : j < l.length), (l[j] :: l.eraseIdx j).Perm l
  | a :: r, 0, _ => List.Perm.refl _
  | a :: r, j + 1, h => by
    have h2 : j < r.length := by simpa using h
    exact (List.Perm.swap a r[j] (r.eraseIdx j)).trans (List.Perm.cons a (erase_perm h2))
/-- a hole with its number, in the heap -/
def HlAt (H : Hp) (z : Str × Nat) (v : V) : Prop := ∃ a, v = .ref a ∧ H a = some (.tup [.str z.1, .int (z.2 : Int)])
theorem HlAt.mono {T : List NTab} {X : List Addr} {H H1 : Hp} (g : Gr T X H H1) {z : Str × Nat} {v : V} (h : HlAt H z v) : HlAt H1 z v := (let ⟨a, e, h1⟩ := h; ⟨a, e, g.tup _ _ h1⟩)
theorem HlAt.upd {H : Hp} {D : Addr} {acc : List V} {l : HO} (h : H D = some (.lst acc)) {z : Str × Nat} {v : V} (x : HlAt H z v) : HlAt (upd H D l) z v := (let ⟨a, e, h1⟩ := x; ⟨a, e, tup_of_upd h h1⟩)
theorem dp_hls {K : PySem.W.Frag} {H : Hp} {hl : List (Str × Nat)} (hw : ∀ z ∈ hl, wOk z.1) : ∀ {sv : List V}, (∀ y ∈ sv, ∃ z ∈ hl, HlAt H z y) → ∃ ds, DpAll K H sv ds ∧ PyData.canLayAll0 ds = true ∧ PyData.depthAll ds ≤ 2 ∧ ds.length = sv.length
  | [], _ => ⟨[], .nil, rfl, by simp [PyData.depthAll], rfl⟩
  | y :: r, h => by
    obtain ⟨ds, h1, h2, h3, h4⟩ := dp_hls hw (sv := r) fun x hx => h x (List.mem_cons_of_mem _ hx)
    obtain ⟨z, hz, a, rfl, e⟩ := h y List.mem_cons_self
    have ok : PyData.strOk z.1 = true := hw z hz
    refine ⟨.tuple [.str z.1, .int (z.2 : Int)] :: ds, .cons (.tup (SqT.of e) (.cons (.str _) (.cons (.int _) .nil))) h1, ?_, ?_, by simp [h4]⟩
    · simp only [PyData.canLayAll0, PyData.canLay0, h2, ok]; rfl
    · simp only [PyData.depthAll, PyData.depth]; omega
theorem hl_nil {ds : List PyData} {sv : List V} (h : ds.length = sv.length) : decide (ds = []) = decide (sv = []) := by
  cases ds with
  | nil => cases sv with
    | nil => rfl
    | cons _ _ => cases h
  | cons _ _ => cases sv with
    | nil => cases h
    | cons _ _ => rfl
theorem rg_ints (s : Nat) : rgV 0 (s : Int) = nints (List.range s) := by
  unfold rgV nints
  have : ((s : Int) - 0).toNat = s := by omega
  rw [this]
  exact List.map_congr_left fun i _ => by rw [Int.zero_add]
section
variable {P : Program} {w : World} {K : PySem.W.Frag} {mg : Str → Option Value} {base : Heap}
/-- the words and holes that a term may have -/
structure Wh (W : List Str) (hl : List (Str × Nat)) : Prop where
  five : 5 ≤ W.length
  lw : W.length ≤ 50
  hw : ∀ z ∈ hl, Wd z.1 ∧ z.2 ≤ 2
  few : hl.length ≤ 10
def spStr8 (T : List NTab) (d : Nat) : Sp := fun vs H Q _ => ∃ (lc lw lh : Addr) (cs : List Int) (s : Nat) (W : List Str) (hl : List (Str × Nat)) (hv : List V), vs = [.ref lc, .int (s : Int), .ref lw, .ref lh, .int (d : Int)] ∧ H lc = some (.lst (cs.map V.int)) ∧ H lw = some (.lst (W.map V.str)) ∧ H lh = some (.lst hv) ∧ AtI HlAt H hl hv ∧ Wh W hl ∧ cs.length ≤ 1000 ∧ s + 2 * d ≤ 100 ∧ TabsN T H ∧
  ∀ H' p v l2 t (cs2 : List Int), Gr T [] H H' → H' p = some (.tup [v, .ref l2]) → At H' t v → H' l2 = some (.lst (cs2.map V.int)) → cs2.length ≤ cs.length → H l2 = Option.none → Gn W hl s d t → Q (.ref p) H'
def spStrP (T : List NTab) : Nat → Sp
  | 0 => fun _ _ _ _ => False
  | d + 1 => spStr8 T d
theorem sc_law_straight : FnScope ["_law_cells", "_law_scope", "_law_words_here", "_law_holes", "_law_deep", "_law_number", "_law_left", "_law_way", "_law_one", "_law_some", "_law_word", "_law_many", "_law_names", "_law_given", "_law_k", "_law_spot", "_law_parts"] ["_law_cells", "_law_scope", "_law_words_here", "_law_holes", "_law_deep"] (defScope s_law_straight) := ⟨rfl, rfl, rfl, by decide +kernel, rfl, by decide +kernel, by decide +kernel⟩
theorem ok_str8 (S : Cn K mg base) (T : List NTab) (d k : Nat) (hk : 3 ≤ k) (hF : Has P w K mg base "_law_free" 2 ["_law_cell", "_law_place"] [] spFree) (hL : Has P w K mg base "_law_leaf" 1 ["_law_number", "_law_scope", "_law_words_here"] [] (spLeaf T))
    (ih : Has P w K mg base "_law_straight" k ["_law_cells", "_law_scope", "_law_words_here", "_law_holes", "_law_deep"] [] (spStrP T d)) :
    Has P w K mg base "_law_straight" (k + 1) ["_law_cells", "_law_scope", "_law_words_here", "_law_holes", "_law_deep"] [] (spStr8 T d) := by
  refine has_of (d := d_law_straight) S 66 46 rfl rfl rfl rfl rfl sc_law_straight (fun vs H Q E h => ?_) (fun _ _ _ _ _ _ us hl => match us, hl with | [_, _, _, _, _], _ => rfl) (fun f cdv A outer s H vs Q E hr h => ?_)
  · obtain ⟨lc, lw, lh, cs, s, W, hl, hv, rfl, _⟩ := h
    rfl
  refine ⟨_, (pss_cons (ps_if (PW.pt (pw_or (pt_cmpR (op_eqB (D := 3) (Room.un hr (by omega))) (pv 0) (pe_lst pa_nil) (nomark _)) (pw_or1 (pt_cmpR op_eq (pv 4) pe_int (nomark _))))) (pss_one (ps_ret (pe_tup (pa_cons (pe_hs hL hr (by omega) rfl (pa_cons (pe_hs hF hr (by omega) rfl (pa_cons (pe_callB (cr_sum rfl) (by rfl) (S.free 67) (by decide +kernel) (pa_cons (pe_slice sl_list (pv 0) po_none (po_some pe_int)) pa_nil)) (pa_cons pe_int pa_nil))) (pa_cons (pv 1) (pa_cons (pv 2) pa_nil)))) (pa_cons (pe_slice sl_list (pv 0) (po_some pe_int) po_none) pa_nil))))) pss_nil) (pss_cons (ps_set (i := 5) sc_law_straight.nd rfl (Or.inl rfl) (pe_hs hF hr (by omega) rfl (pa_cons (pe_ix ix_list (pv 0) pe_int (fun _ _ => rfl)) (pa_cons pe_int pa_nil)))) (pss_cons (ps_set (i := 6) sc_law_straight.nd rfl (Or.inl rfl) (pe_slice sl_list (pv 0) (po_some pe_int) po_none)) (pss_cons (ps_set (i := 7) sc_law_straight.nd rfl (Or.inl rfl) (pe_op op_mod (pv 5) pe_int)) (pss_cons (ps_set (i := 5) sc_law_straight.nd rfl (Or.inl rfl) (pe_op op_fdiv (pv 5) pe_int)) (pss_cons (ps_setLc (i := 9) (own := [("_law_one", 8)]) (g := (gName 8)) (by rfl) sc_law_straight.nd rfl rfl (sw_true rfl rfl rfl (by decide +kernel)) (pi_list (pv 3)) (blkOk_by (N := ["_law_cells", "_law_scope", "_law_words_here", "_law_holes", "_law_deep", "_law_number", "_law_left", "_law_way", "_law_one", "_law_some", "_law_word", "_law_many", "_law_names", "_law_given", "_law_k", "_law_spot", "_law_parts"]) (sc := defScope s_law_straight) (by decide +kernel)) (fun _ _ _ _ _ => (pg_name (i := 8) sc_law_straight.nd rfl (Or.inl rfl))) (fun _ _ _ _ _ => (pts_one (pt_cmpR op_le (ixTK (K := K) rfl (pv 8) pe_int (fun _ _ => rfl)) (pv 1) (nomark _)))) (fun _ _ _ _ _ => (pv 8))) (pss_cons (ps_if (PW.pt (pw_and (pt_cmpR op_lt (pv 7) pe_int (nomark _)) (pw_and1 (pt_cmpR (op_eqB (D := 4) (Room.un hr (by omega))) (pv 9) (pe_lst pa_nil) (nomark _))))) (pss_one (ps_ret (pe_tup (pa_cons (pe_hs hL hr (by omega) rfl (pa_cons (pv 5) (pa_cons (pv 1) (pa_cons (pv 2) pa_nil)))) (pa_cons (pv 6) pa_nil))))) pss_nil) (pss_cons (ps_if (PW.pt (pw_and (pt_cmpR op_lt (pv 7) pe_int (nomark _)) (pw_and1 (pt_cmpR (op_neB (D := 4) (Room.un hr (by omega))) (pv 9) (pe_lst pa_nil) (nomark _))))) (pss_cons (ps_asg (pe_ix ix_list (pv 9) (pe_op op_mod (pv 5) (pe_callB call_len_seq (by rfl) (S.free 58) (by decide +kernel) (pa_cons (pv 9) pa_nil))) (fun _ _ => rfl)) (pg_tup rfl (pgs_cons (pg_name (i := 10) sc_law_straight.nd rfl (Or.inl rfl)) (pgs_cons (pg_name (i := 11) sc_law_straight.nd rfl (Or.inl rfl)) pgs_nil)))) (pss_cons (ps_set (i := 12) sc_law_straight.nd rfl (Or.inl rfl) (pe_listRg rfl (by rfl) (S.free 60) (prg_1 (by rfl) (S.free 62) (pv 1)))) (pss_cons (ps_set (i := 13) sc_law_straight.nd rfl (Or.inl rfl) (pe_lst pa_nil)) (pss_cons (ps_for PassesOwn.never rfl (pi_range1 (by rfl) (S.free 62) (pa_cons (pv 11) pa_nil)) (pg_name (i := 14) sc_law_straight.nd rfl (Or.inl rfl)) (pss_cons (ps_asg (pe_callB call_divmod (by rfl) (S.free 72) (by decide +kernel) (pa_cons (pe_op op_add (pe_op op_fdiv (pv 5) pe_int) (pe_op op_mul pe_int (pv 14))) (pa_cons (pe_callB call_len_seq (by rfl) (S.free 58) (by decide +kernel) (pa_cons (pv 12) pa_nil)) pa_nil))) (pg_tup rfl (pgs_cons (pg_name (i := 5) sc_law_straight.nd rfl (Or.inl rfl)) (pgs_cons (pg_name (i := 15) sc_law_straight.nd rfl (Or.inl rfl)) pgs_nil)))) (pss_one (ps_expr (pe_bm PySem.F.plainAttrs_list PySem.F.slot_list_append PySem.F.type_list_append mt_append (pv 13) (pa_cons (pe_tup (pa_cons pe_str (pa_cons (pe_bm PySem.F.plainAttrs_list PySem.F.slot_list_pop PySem.F.type_list_pop mt_popAt (pv 12) (pa_cons (pv 15) pa_nil)) pa_nil))) pa_nil)))))) (pss_one (ps_ret (pe_tup (pa_cons (pe_tup (pa_cons pe_str (pa_cons (pv 10) (pa_cons (pe_callTy call_tuple_of (by rfl) (S.free 61) (by decide +kernel) (pa_cons (pv 13) pa_nil)) pa_nil)))) (pa_cons (pv 6) pa_nil))))))))) pss_nil) (pss_cons (ps_set (i := 16) sc_law_straight.nd rfl (Or.inl rfl) (pe_lst pa_nil)) (pss_cons (ps_for PassesOwn.never rfl (pi_range1 (by rfl) (S.free 62) (pa_cons (pe_op op_add pe_int (pe_op op_mod (pv 5) pe_int)) pa_nil)) (pg_name (i := 14) sc_law_straight.nd rfl (Or.inl rfl)) (pss_cons (ps_set (i := 11) sc_law_straight.nd rfl (Or.inl rfl) (pe_ix ix_list (pe_lst (pa_cons pe_int (pa_cons pe_int (pa_cons pe_int (pa_cons pe_int pa_nil))))) (pe_op op_mod (pe_op op_fdivN (pv 5) (pe_ix ix_list (pe_lst (pa_cons pe_int (pa_cons pe_int (pa_cons pe_int pa_nil)))) (pv 14) (fun _ _ => rfl))) pe_int) (fun _ _ => rfl))) (pss_cons (ps_asg (pe_hs ih hr (by omega) rfl (pa_cons (pv 6) (pa_cons (pe_op op_add (pv 1) (pv 11)) (pa_cons (pv 2) (pa_cons (pv 3) (pa_cons (pe_op op_sub (pv 4) pe_int) pa_nil)))))) (pg_tup rfl (pgs_cons (pg_name (i := 8) sc_law_straight.nd rfl (Or.inl rfl)) (pgs_cons (pg_name (i := 6) sc_law_straight.nd rfl (Or.inl rfl)) pgs_nil)))) (pss_one (ps_expr (pe_bm PySem.F.plainAttrs_list PySem.F.slot_list_append PySem.F.type_list_append mt_append (pv 16) (pa_cons (pe_tup (pa_cons (pv 11) (pa_cons (pv 8) pa_nil))) pa_nil))))))) (pss_one (ps_ret (pe_tup (pa_cons (pe_tup (pa_cons pe_str (pa_cons (pe_ix ix_list (pv 2) (pe_op op_add pe_int (pe_op op_mod (pe_op op_mod (pe_op op_fdiv (pv 5) pe_int) pe_int) pe_int)) (fun _ _ => rfl)) (pa_cons (pe_callTy call_tuple_of (by rfl) (S.free 61) (by decide +kernel) (pa_cons (pv 16) pa_nil)) pa_nil)))) (pa_cons (pv 6) pa_nil))))))))))))))), ?_⟩
  obtain ⟨lc, lw, lh, cs, s, W, hl, hv, rfl, ec, ew, eh, ah, wh, hcs, hs, hT, q⟩ := h
  dsimp only [tSeq, tIfS]
  refine ⟨_, rfl, szl (by decide), fun e0 he0 => ?_⟩
  have g0 := Gr.new0 (X := []) (o := .lst []) hT he0
  have dc := intsI_depth cs
  refine ⟨_, _, .lst (SqL.of (g0.lst ec)) (dp_intsI cs), .lst (SqL.of upd_same) .nil, intsI_ok cs, rfl, by simp only [PyData.depth]; omega, _, rfl, ?_⟩
  rw [eqv_nil]
  by_cases hA : cs = [] ∨ d = 0
  · have first : ∀ (HX : Hp), True := fun _ => trivial
    have key : decide (cs.map PyData.int = []) = true ∨ (decide (cs.map PyData.int = []) = false ∧ d = 0) := by
      by_cases z : cs = []
      · exact .inl (by rw [z]; rfl)
      · refine .inr ⟨decide_eq_false fun y => z (List.map_eq_nil_iff.mp y), hA.resolve_left z⟩
    rcases key with key | ⟨key, rfl⟩
    case' inl =>
      rw [key]
      refine iteT (iteT ?_)
    case' inr =>
      rw [key]
      refine iteF ⟨_, rfl, rfl, _, rfl, ift rfl ?_⟩
    all_goals
      have ec0 := g0.lst ec
      have ew0 := g0.lst ew
      generalize upd H e0 (.lst []) = Hx at g0 ec0 ew0 ⊢
      obtain ⟨m1, em1, lm1⟩ := cut_ints cs none (some 1)
      refine ⟨_, rfl, _, rfl, lc, _, rfl, SqL.of ec0, fun a1 h1 => ?_⟩
      rw [em1]
      have g1 := g0.new (o := .lst (m1.map V.int)) h1
      have gs1 := Gr.new0 (X := []) (o := .lst (m1.map V.int)) g0.tab h1
      have ec1 := gs1.lst ec0
      have ew1 := gs1.lst ew0
      refine ⟨a1, m1, rfl, SqL.of upd_same, m1.sum, 0, rfl, by decide, fun r => ?_⟩
      refine ⟨_, rfl, _, rfl, r, s, lw, W, rfl, ew1, by have := wh.five; omega, g1.tab, fun H2 t v g2 at2 alt => ?_⟩
      obtain ⟨m2, em2, lm2⟩ := cut_ints cs (some 1) none
      refine ⟨_, rfl, _, rfl, lc, _, rfl, SqL.of (g2.lst ec1), fun a3 h3 => ?_⟩
      rw [em2]
      have g3 := (g1.trans g2).new (o := .lst (m2.map V.int)) h3
      have gs3 := Gr.new0 (X := []) (o := .lst (m2.map V.int)) g2.tab h3
      refine ⟨szl (by show 2 ≤ 10000000; decide), fun p9 hp9 => ?_⟩
      have gs9 := Gr.new0 (X := []) (o := .tup [v, .ref a3]) g3.tab hp9
      refine q _ p9 v a3 t m2 (g3.trans gs9) upd_same ((at2.mono gs3).mono gs9) (gs9.lst upd_same) lm2 ((g1.trans g2).back _ h3) ?_
      rcases alt with ⟨k9, hk9, rfl⟩ | ⟨u9, hu9, rfl⟩
      · exact gn_name hk9
      · exact gn_leaf hu9
  have hcs0 : cs ≠ [] := fun z => hA (.inl z)
  have hd1 : d ≠ 0 := fun z => hA (.inr z)
  rw [decide_eq_false (fun y => hcs0 (List.map_eq_nil_iff.mp y))]
  refine iteF ⟨_, rfl, rfl, _, rfl, ?_⟩
  rw [decide_eq_false (fun z => hd1 (by have := V.int.inj z; omega))]
  refine iteF ?_
  have ec0 := g0.lst ec
  have ew0 := g0.lst ew
  have eh0 := g0.lst eh
  generalize upd H e0 (.lst []) = Ha at g0 ec0 ew0 eh0 ⊢
  have hlen0 : 0 < cs.length := List.length_pos_iff.mpr hcs0
  refine ⟨_, rfl, lc, _, _, _, rfl, rfl, SqL.of ec0, at_of (j := 0) rfl (v := .int cs[0]) (by rw [List.getElem?_map, List.getElem?_eq_getElem hlen0] <;> rfl), cs[0], 2, rfl, by decide, fun num0 => ?_⟩
  obtain ⟨ms, ems, hms⟩ := cut_ints cs (some 1) none
  refine ⟨_, rfl, _, rfl, lc, _, rfl, SqL.of ec0, fun ll hll => ?_⟩
  rw [ems]
  have hll0 : H ll = Option.none := g0.back _ hll
  have g1 := g0.new (o := .lst (ms.map V.int)) hll
  have ell : (upd Ha ll (.lst (ms.map V.int))) ll = some (.lst (ms.map V.int)) := upd_same
  have eh1 := (Gr.new0 (X := []) (o := .lst (ms.map V.int)) g0.tab hll).lst eh0
  generalize upd Ha ll (.lst (ms.map V.int)) = Hb at g1 ell eh1 ⊢
  refine ⟨_, rfl, _, _, rfl, rfl, (by show (0 : Int) < 8; decide), ?_⟩
  refine ⟨_, rfl, _, _, rfl, rfl, ⟨by decide, by decide⟩, ?_⟩
  have hah := ah.len
  have hfew := wh.few
  refine ⟨_, rfl, lh, rfl, ⟨_, SqL.of eh1⟩, fun D hD => ?_⟩
  have hDll : ll ≠ D := fun z => by rw [← z, ell] at hD; cases hD
  refine lc_list (K := K) (a := lh) (xs := hv) (fun i H' => Gr T [] Hb H' ∧ ∃ ys : List V, H' D = some (.lst ys) ∧ ys.length ≤ i ∧ ∀ y ∈ ys, ∃ z ∈ hl, z.2 ≤ s ∧ HlAt H' z y) ⟨Gr.new0 g1.tab hD, [], upd_same, Nat.le_refl _, fun y hy => (by cases hy)⟩ (fun i H' _ ⟨g, _⟩ => SqL.of (g.lst eh1)) ?_ ?_
  · rintro i x H' hx ⟨g, ys, ey, hyl, hys⟩
    obtain ⟨z, ez, hz0⟩ := ah.get i x hx
    obtain ⟨az, rfl, eaz⟩ := (hz0.mono g1).mono g
    refine ⟨rfl, _, rfl, az, _, _, _, rfl, rfl, SqT.of eaz, at_of (j := 1) rfl rfl, _, rfl, _, _, rfl, rfl, _, rfl, ite2 (fun hc => ?_) (fun hc => ?_)⟩
    · have hc := of_decide_eq_true hc
      have hxi := (List.getElem?_eq_some_iff.mp hx).1
      refine ⟨_, rfl, ys, ey, szl' (by omega), g.mutL (.inl hD) ey, _, upd_same, by rw [List.length_append, List.length_singleton]; omega, fun y hy => ?_⟩
      rcases List.mem_append.mp hy with hy | hy
      · obtain ⟨z2, a1, a2, a3⟩ := hys y hy
        exact ⟨z2, a1, a2, a3.upd ey⟩
      · rw [List.mem_singleton.mp hy]
        exact ⟨z, List.mem_of_getElem? ez, by omega, az, rfl, tup_of_upd ey eaz⟩
    · exact ⟨g, ys, ey, by omega, hys⟩
  rintro Hc ⟨gc, sv, esv, hsvl, hsm⟩
  have ell := gc.lst ell
  have gH := g1.trans gc
  generalize hnum : num0 / 8 = num
  have enum : (num0 : Int) / 8 = (num : Int) := by omega
  generalize hway : num0 % 8 = way
  have eway : (num0 : Int) % 8 = (way : Int) := by omega
  simp only [enum, eway]
  obtain ⟨ds, dps, dok, ddp, dlen⟩ := dp_hls (K := K) (H := Hc) (fun z hz => (wh.hw z hz).1.ok) (sv := sv) fun y hy => (let ⟨z, a, _, b⟩ := hsm y hy; ⟨z, a, b⟩)
  by_cases hsv : sv = []
  · have e0d : decide (ds = []) = true := by rw [hl_nil dlen, hsv]; rfl
    by_cases hw2 : way < 2
    · refine ⟨_, rfl, _, _, rfl, rfl, _, rfl, ift (decide_eq_true (by omega)) ?_⟩
      refine ⟨_, rfl, szl (by decide), fun e5 he5 => ?_⟩
      have gy := Gr.new0 (X := []) (o := .lst []) gc.tab he5
      have esv5 := gy.lst esv
      obtain ⟨ds5, dps5, dok5, ddp5, dlen5⟩ := dp_hls (K := K) (H := upd Hc e5 (.lst [])) (fun z hz => (wh.hw z hz).1.ok) (sv := sv) fun y hy => (let ⟨z, a, _, b⟩ := hsm y hy; ⟨z, a, b.mono gy⟩)
      refine ⟨_, _, .lst (SqL.of esv5) dps5, .lst (SqL.of upd_same) .nil, dok5, rfl, by simp only [PyData.depth]; omega, _, rfl, ?_⟩
      rw [eqv_nil, hl_nil dlen5, hsv]
      refine iteT ?_
      have gx := gH.trans gy
      have ell := gy.lst ell
      generalize upd Hc e5 (.lst []) = Hx at gy gx ell ⊢
      refine ⟨_, rfl, _, rfl, _, rfl, num, s, lw, W, rfl, gx.lst ew, by have := wh.five; omega, gx.tab, fun H2 t v g2 at2 alt => ?_⟩
      refine ⟨_, rfl, szl (by show 2 ≤ 10000000; decide), fun p9 hp9 => ?_⟩
      have gs9 := Gr.new0 (X := []) (o := .tup [v, .ref ll]) g2.tab hp9
      refine q _ p9 v ll t ms ((gx.trans g2).trans gs9) upd_same (at2.mono gs9) (gs9.lst (g2.lst ell)) hms hll0 ?_
      rcases alt with ⟨k9, hk9, rfl⟩ | ⟨u9, hu9, rfl⟩
      · exact gn_name hk9
      · exact gn_leaf hu9
    · refine ⟨_, rfl, _, _, rfl, rfl, _, rfl, iff' (decide_eq_false (by omega)) (iteF ?_)⟩
      by_cases hw4 : way < 4
      · refine ⟨_, rfl, _, _, rfl, rfl, _, rfl, ift (decide_eq_true (by omega)) ?_⟩
        refine ⟨_, rfl, szl (by decide), fun e5 he5 => ?_⟩
        have gy := Gr.new0 (X := []) (o := .lst []) gc.tab he5
        have esv5 := gy.lst esv
        obtain ⟨ds5, dps5, dok5, ddp5, dlen5⟩ := dp_hls (K := K) (H := upd Hc e5 (.lst [])) (fun z hz => (wh.hw z hz).1.ok) (sv := sv) fun y hy => (let ⟨z, a, _, b⟩ := hsm y hy; ⟨z, a, b.mono gy⟩)
        refine ⟨_, _, .lst (SqL.of esv5) dps5, .lst (SqL.of upd_same) .nil, dok5, rfl, by simp only [PyData.depth]; omega, _, rfl, ?_⟩
        rw [eqv_nil, hl_nil dlen5, hsv]
        refine iteF ?_
        have gx := gH.trans gy
        have ell := gy.lst ell
        generalize upd Hc e5 (.lst []) = Hx at gy gx ell ⊢
        have hd0 : ∃ d0, d = d0 + 1 := ⟨d - 1, by omega⟩
        obtain ⟨d0, rfl⟩ := hd0
        refine ⟨szl (by decide), fun pl hpl => ?_⟩
        have gp := Gr.new0 (X := []) (o := .lst []) gx.tab hpl
        have nlp : ll ≠ pl := fun z => by rw [← z, ell] at hpl; cases hpl
        refine ⟨_, rfl, _, _, rfl, rfl, (by show (0 : Int) < 3; decide), _, _, rfl, rfl, _, rfl, by omega, by omega, ?_⟩
        refine for_it (walk_range (lo := 0) (n := 1 + num % 3)) (fun i σ H' => ∃ (o8 o11 o14 : Option V) (ll' : Addr) (cs' : List Int) (ps : List (Nat × Tm)) (acc : List V), σ = [some (.ref lc), some (.int (s : Int)), some (.ref lw), some (.ref lh), some (.int ((d0 + 1 : Nat) : Int)), some (.int (num : Int)), some (.ref ll'), some (.int (way : Int)), o8, some (.ref D), Option.none, o11, Option.none, Option.none, o14, Option.none, some (.ref pl)] ∧ Gr T [] Hx H' ∧ H' pl = some (.lst acc) ∧ AtPs H' ps acc ∧ ps.length = i ∧ (∀ z ∈ ps, z.1 ≤ 2 ∧ Gn W hl (s + z.1) d0 z.2) ∧ H' ll' = some (.lst (cs'.map V.int)) ∧ cs'.length ≤ cs.length ∧ ll' ≠ pl ∧ H ll' = Option.none)
          ⟨_, _, _, ll, ms, [], [], rfl, gp, upd_same, rfl, rfl, fun z hz => (by cases hz), gp.lst ell, hms, nlp, hll0⟩ (fun _ _ _ _ _ => True.intro) ?_ ?_
        · rintro i x σ H1 H2 hi ⟨o8, o11, o14, ll', cs', ps, acc, rfl, g1, e1, ats, hpsl, hps, e2, hcs', nlp', hll'⟩ ⟨rfl, rfl⟩
          have hi3 : i < 3 := by omega
          obtain ⟨c, ec1, ec2, ec3⟩ : ∃ c : Nat, ([.int 12, .int 48, .int 192] : List V)[i]? = some (.int (c : Int)) ∧ 0 < c ∧ c ≤ 192 := by
            match i, hi3 with
            | 0, _ => exact ⟨12, rfl, by decide, by decide⟩
            | 1, _ => exact ⟨48, rfl, by decide, by decide⟩
            | 2, _ => exact ⟨192, rfl, by decide, by decide⟩
          obtain ⟨m, em1, em2⟩ : ∃ m : Nat, ([.int 0, .int 1, .int 1, .int 2] : List V)[num / c % 4]? = some (.int (m : Int)) ∧ m ≤ 2 := by
            have h4 : num / c % 4 < 4 := Nat.mod_lt _ (by decide)
            generalize num / c % 4 = j at h4
            match j, h4 with
            | 0, _ => exact ⟨0, rfl, by decide⟩
            | 1, _ => exact ⟨1, rfl, by decide⟩
            | 2, _ => exact ⟨1, rfl, by decide⟩
            | 3, _ => exact ⟨2, rfl, by decide⟩
          refine ⟨szl (by show 4 ≤ 10000000; decide), fun a1 h1 => ?_⟩
          have g2 := Gr.new0 (X := []) (o := .lst [.int 0, .int 1, .int 1, .int 2]) g1.tab h1
          refine ⟨_, rfl, szl (by show 3 ≤ 10000000; decide), fun a2 h2 => ?_⟩
          have g3 := Gr.new0 (X := []) (o := .lst [.int 12, .int 48, .int 192]) g2.tab h2
          have ea1 := g3.lst (upd_same (a := a1) (o := .lst [.int 0, .int 1, .int 1, .int 2]))
          refine ⟨_, rfl, a2, _, _, _, rfl, rfl, SqL.of upd_same, at_of (j := i) (by omega) ec1, _, _, rfl, rfl, ⟨by omega, by omega⟩, _, _, rfl, rfl, (by show (0 : Int) < 4; decide), a1, _, _, _, rfl, rfl, SqL.of ea1, at_of (j := num / c % 4) ?_ em1, ?_⟩
          · rw [Int.fdiv_eq_ediv_of_nonneg _ (by omega)]; rfl
          have g4 := (g1.trans g2).trans g3
          have gq := g2.trans g3
          have e1' := gq.lst e1
          have e2' := gq.lst e2
          have ats' := ats.mono gq
          generalize upd (upd H2 a1 _) a2 _ = H4 at g4 gq e1' e2' ats' ⊢
          have gHx := gx.trans g4
          refine ⟨_, rfl, _, rfl, _, rfl, _, _, rfl, rfl, _, rfl, _, rfl, _, rfl, _, _, rfl, rfl, ?_⟩
          refine ⟨ll', lw, lh, cs', s + m, W, hl, hv, ?_, e2', gHx.lst ew, gHx.lst eh, ⟨ah.len, fun j y hy => (let ⟨z, a, b⟩ := ah.get j y hy; ⟨z, a, b.mono gHx⟩)⟩, wh, by omega, by omega, g4.tab, fun H5 p v l2 t cs2 g5 ep at5 el2 hc2 hl2 gnt => ?_⟩
          · show [V.ref ll', V.int ((s : Int) + (m : Int)), V.ref lw, V.ref lh, V.int (((d0 + 1 : Nat) : Int) - 1)] = _
            rw [show (((d0 + 1 : Nat) : Int) - 1) = (d0 : Int) by omega, show ((s : Int) + (m : Int)) = ((s + m : Nat) : Int) by omega]
          refine ⟨p, _, rfl, SqT.of ep, rfl, _, _, rfl, _, _, rfl, rfl, ?_⟩
          have e1'' := g5.lst e1'
          have n2 : l2 ≠ pl := fun z => by rw [z, e1'] at hl2; cases hl2
          have hal := ats.len
          refine ⟨_, rfl, .inl ⟨rfl, _, SqL.of e1''⟩, _, rfl, _, rfl, szl (by show 2 ≤ 10000000; decide), fun pz hpz => ?_⟩
          have g6 := Gr.new0 (X := []) (o := .tup [.int (m : Int), v]) g5.tab hpz
          have e6 := g6.lst e1''
          refine ⟨pl, _, _, rfl, rfl, e6, szl' (by omega), ?_⟩
          have g7 := (g4.trans g5).trans g6
          have gm : Gr T [pl] (upd H5 pz (.tup [.int (m : Int), v])) (upd (upd H5 pz (.tup [.int (m : Int), v])) pl (.lst (acc ++ [.ref pz]))) := (Gr.refl g6.tab).mutL (.inr (by simp)) e6
          refine ⟨_, _, _, l2, cs2, ps ++ [(m, t)], acc ++ [.ref pz], rfl, g7.mutL (.inl hpl) e6, upd_same, ?_, by rw [List.length_append, hpsl]; rfl, fun z hz => ?_, ?_, by omega, n2, gx.back _ (g4.back _ hl2)⟩
          · exact AtPs.snoc ⟨pz, v, rfl, gm.tup _ _ upd_same, (at5.mono g6).mono gm⟩ (((ats'.mono g5).mono g6).mono gm)
          · rcases List.mem_append.mp hz with y | y
            · exact hps z y
            · rw [List.mem_singleton.mp y]; exact ⟨em2, gnt⟩
          · rw [upd_ne n2]; exact g6.lst el2
        · rintro σ H1 ⟨o8, o11, o14, ll', cs', ps, acc, rfl, g1, e1, ats, hpsl, hps, e2, hcs', nlp', hll'⟩
          have hwl := wh.five
          have hi : 2 + num / 3 % 4 % 3 < W.length := by omega
          have gHx := gx.trans g1
          refine ⟨_, rfl, _, rfl, _, _, rfl, rfl, ⟨by decide, by decide⟩, _, _, rfl, rfl, (by show (0 : Int) < 4; decide), _, _, rfl, rfl, (by show (0 : Int) < 3; decide), _, _, rfl, rfl, lw, _, _, _, rfl, rfl, SqL.of (gHx.lst ew), at_of (j := 2 + num / 3 % 4 % 3) (by omega) (v := .str W[2 + num / 3 % 4 % 3]) (by rw [List.getElem?_map, List.getElem?_eq_getElem hi] <;> rfl), ?_⟩
          refine ⟨_, rfl, pl, _, rfl, .inl ⟨SqL.of e1, fun pt hpt => ?_⟩⟩
          have gs3 := Gr.new0 (X := []) (o := .tup acc) g1.tab hpt
          refine ⟨szl (by show 3 ≤ 10000000; decide), fun ph hph => ⟨_, rfl, szl (by show 2 ≤ 10000000; decide), fun p9 hp9 => ?_⟩⟩
          have gs4 := Gr.new0 (X := []) (o := .tup [.str "sign", .str W[2 + num / 3 % 4 % 3], .ref pt]) gs3.tab hph
          have gs5 := Gr.new0 (X := []) (o := .tup [.ref ph, .ref ll']) gs4.tab hp9
          have gx5 := (gs3.trans gs4).trans gs5
          refine q _ p9 (.ref ph) ll' (.sign W[2 + num / 3 % 4 % 3] (mkTs ps)) cs' (gHx.trans gx5) upd_same ⟨ph, pt, acc, rfl, gs5.tup _ _ upd_same, gs5.tup _ _ (gs4.tup _ _ upd_same), atL_ps.mpr (by rw [tsL_mk]; exact ats.mono gx5)⟩ (gx5.lst e2) hcs' hll' ?_
          exact gn_sign (List.getElem_mem hi) (by omega) hps

      · refine ⟨_, rfl, _, _, rfl, rfl, _, rfl, iff' (decide_eq_false (by omega)) (iteF ?_)⟩
        have gx := gH
        generalize Hc = Hx at gx ell ⊢
        have hd0 : ∃ d0, d = d0 + 1 := ⟨d - 1, by omega⟩
        obtain ⟨d0, rfl⟩ := hd0
        refine ⟨szl (by decide), fun pl hpl => ?_⟩
        have gp := Gr.new0 (X := []) (o := .lst []) gx.tab hpl
        have nlp : ll ≠ pl := fun z => by rw [← z, ell] at hpl; cases hpl
        refine ⟨_, rfl, _, _, rfl, rfl, (by show (0 : Int) < 3; decide), _, _, rfl, rfl, _, rfl, by omega, by omega, ?_⟩
        refine for_it (walk_range (lo := 0) (n := 1 + num % 3)) (fun i σ H' => ∃ (o8 o11 o14 : Option V) (ll' : Addr) (cs' : List Int) (ps : List (Nat × Tm)) (acc : List V), σ = [some (.ref lc), some (.int (s : Int)), some (.ref lw), some (.ref lh), some (.int ((d0 + 1 : Nat) : Int)), some (.int (num : Int)), some (.ref ll'), some (.int (way : Int)), o8, some (.ref D), Option.none, o11, Option.none, Option.none, o14, Option.none, some (.ref pl)] ∧ Gr T [] Hx H' ∧ H' pl = some (.lst acc) ∧ AtPs H' ps acc ∧ ps.length = i ∧ (∀ z ∈ ps, z.1 ≤ 2 ∧ Gn W hl (s + z.1) d0 z.2) ∧ H' ll' = some (.lst (cs'.map V.int)) ∧ cs'.length ≤ cs.length ∧ ll' ≠ pl ∧ H ll' = Option.none)
          ⟨_, _, _, ll, ms, [], [], rfl, gp, upd_same, rfl, rfl, fun z hz => (by cases hz), gp.lst ell, hms, nlp, hll0⟩ (fun _ _ _ _ _ => True.intro) ?_ ?_
        · rintro i x σ H1 H2 hi ⟨o8, o11, o14, ll', cs', ps, acc, rfl, g1, e1, ats, hpsl, hps, e2, hcs', nlp', hll'⟩ ⟨rfl, rfl⟩
          have hi3 : i < 3 := by omega
          obtain ⟨c, ec1, ec2, ec3⟩ : ∃ c : Nat, ([.int 12, .int 48, .int 192] : List V)[i]? = some (.int (c : Int)) ∧ 0 < c ∧ c ≤ 192 := by
            match i, hi3 with
            | 0, _ => exact ⟨12, rfl, by decide, by decide⟩
            | 1, _ => exact ⟨48, rfl, by decide, by decide⟩
            | 2, _ => exact ⟨192, rfl, by decide, by decide⟩
          obtain ⟨m, em1, em2⟩ : ∃ m : Nat, ([.int 0, .int 1, .int 1, .int 2] : List V)[num / c % 4]? = some (.int (m : Int)) ∧ m ≤ 2 := by
            have h4 : num / c % 4 < 4 := Nat.mod_lt _ (by decide)
            generalize num / c % 4 = j at h4
            match j, h4 with
            | 0, _ => exact ⟨0, rfl, by decide⟩
            | 1, _ => exact ⟨1, rfl, by decide⟩
            | 2, _ => exact ⟨1, rfl, by decide⟩
            | 3, _ => exact ⟨2, rfl, by decide⟩
          refine ⟨szl (by show 4 ≤ 10000000; decide), fun a1 h1 => ?_⟩
          have g2 := Gr.new0 (X := []) (o := .lst [.int 0, .int 1, .int 1, .int 2]) g1.tab h1
          refine ⟨_, rfl, szl (by show 3 ≤ 10000000; decide), fun a2 h2 => ?_⟩
          have g3 := Gr.new0 (X := []) (o := .lst [.int 12, .int 48, .int 192]) g2.tab h2
          have ea1 := g3.lst (upd_same (a := a1) (o := .lst [.int 0, .int 1, .int 1, .int 2]))
          refine ⟨_, rfl, a2, _, _, _, rfl, rfl, SqL.of upd_same, at_of (j := i) (by omega) ec1, _, _, rfl, rfl, ⟨by omega, by omega⟩, _, _, rfl, rfl, (by show (0 : Int) < 4; decide), a1, _, _, _, rfl, rfl, SqL.of ea1, at_of (j := num / c % 4) ?_ em1, ?_⟩
          · rw [Int.fdiv_eq_ediv_of_nonneg _ (by omega)]; rfl
          have g4 := (g1.trans g2).trans g3
          have gq := g2.trans g3
          have e1' := gq.lst e1
          have e2' := gq.lst e2
          have ats' := ats.mono gq
          generalize upd (upd H2 a1 _) a2 _ = H4 at g4 gq e1' e2' ats' ⊢
          have gHx := gx.trans g4
          refine ⟨_, rfl, _, rfl, _, rfl, _, _, rfl, rfl, _, rfl, _, rfl, _, rfl, _, _, rfl, rfl, ?_⟩
          refine ⟨ll', lw, lh, cs', s + m, W, hl, hv, ?_, e2', gHx.lst ew, gHx.lst eh, ⟨ah.len, fun j y hy => (let ⟨z, a, b⟩ := ah.get j y hy; ⟨z, a, b.mono gHx⟩)⟩, wh, by omega, by omega, g4.tab, fun H5 p v l2 t cs2 g5 ep at5 el2 hc2 hl2 gnt => ?_⟩
          · show [V.ref ll', V.int ((s : Int) + (m : Int)), V.ref lw, V.ref lh, V.int (((d0 + 1 : Nat) : Int) - 1)] = _
            rw [show (((d0 + 1 : Nat) : Int) - 1) = (d0 : Int) by omega, show ((s : Int) + (m : Int)) = ((s + m : Nat) : Int) by omega]
          refine ⟨p, _, rfl, SqT.of ep, rfl, _, _, rfl, _, _, rfl, rfl, ?_⟩
          have e1'' := g5.lst e1'
          have n2 : l2 ≠ pl := fun z => by rw [z, e1'] at hl2; cases hl2
          have hal := ats.len
          refine ⟨_, rfl, .inl ⟨rfl, _, SqL.of e1''⟩, _, rfl, _, rfl, szl (by show 2 ≤ 10000000; decide), fun pz hpz => ?_⟩
          have g6 := Gr.new0 (X := []) (o := .tup [.int (m : Int), v]) g5.tab hpz
          have e6 := g6.lst e1''
          refine ⟨pl, _, _, rfl, rfl, e6, szl' (by omega), ?_⟩
          have g7 := (g4.trans g5).trans g6
          have gm : Gr T [pl] (upd H5 pz (.tup [.int (m : Int), v])) (upd (upd H5 pz (.tup [.int (m : Int), v])) pl (.lst (acc ++ [.ref pz]))) := (Gr.refl g6.tab).mutL (.inr (by simp)) e6
          refine ⟨_, _, _, l2, cs2, ps ++ [(m, t)], acc ++ [.ref pz], rfl, g7.mutL (.inl hpl) e6, upd_same, ?_, by rw [List.length_append, hpsl]; rfl, fun z hz => ?_, ?_, by omega, n2, gx.back _ (g4.back _ hl2)⟩
          · exact AtPs.snoc ⟨pz, v, rfl, gm.tup _ _ upd_same, (at5.mono g6).mono gm⟩ (((ats'.mono g5).mono g6).mono gm)
          · rcases List.mem_append.mp hz with y | y
            · exact hps z y
            · rw [List.mem_singleton.mp y]; exact ⟨em2, gnt⟩
          · rw [upd_ne n2]; exact g6.lst el2
        · rintro σ H1 ⟨o8, o11, o14, ll', cs', ps, acc, rfl, g1, e1, ats, hpsl, hps, e2, hcs', nlp', hll'⟩
          have hwl := wh.five
          have hi : 2 + num / 3 % 4 % 3 < W.length := by omega
          have gHx := gx.trans g1
          refine ⟨_, rfl, _, rfl, _, _, rfl, rfl, ⟨by decide, by decide⟩, _, _, rfl, rfl, (by show (0 : Int) < 4; decide), _, _, rfl, rfl, (by show (0 : Int) < 3; decide), _, _, rfl, rfl, lw, _, _, _, rfl, rfl, SqL.of (gHx.lst ew), at_of (j := 2 + num / 3 % 4 % 3) (by omega) (v := .str W[2 + num / 3 % 4 % 3]) (by rw [List.getElem?_map, List.getElem?_eq_getElem hi] <;> rfl), ?_⟩
          refine ⟨_, rfl, pl, _, rfl, .inl ⟨SqL.of e1, fun pt hpt => ?_⟩⟩
          have gs3 := Gr.new0 (X := []) (o := .tup acc) g1.tab hpt
          refine ⟨szl (by show 3 ≤ 10000000; decide), fun ph hph => ⟨_, rfl, szl (by show 2 ≤ 10000000; decide), fun p9 hp9 => ?_⟩⟩
          have gs4 := Gr.new0 (X := []) (o := .tup [.str "sign", .str W[2 + num / 3 % 4 % 3], .ref pt]) gs3.tab hph
          have gs5 := Gr.new0 (X := []) (o := .tup [.ref ph, .ref ll']) gs4.tab hp9
          have gx5 := (gs3.trans gs4).trans gs5
          refine q _ p9 (.ref ph) ll' (.sign W[2 + num / 3 % 4 % 3] (mkTs ps)) cs' (gHx.trans gx5) upd_same ⟨ph, pt, acc, rfl, gs5.tup _ _ upd_same, gs5.tup _ _ (gs4.tup _ _ upd_same), atL_ps.mpr (by rw [tsL_mk]; exact ats.mono gx5)⟩ (gx5.lst e2) hcs' hll' ?_
          exact gn_sign (List.getElem_mem hi) (by omega) hps

  · have e0d : decide (sv = []) = false := decide_eq_false hsv
    clear dps dok ddp dlen
    by_cases hw2 : way < 2
    case' pos =>
      refine ⟨_, rfl, _, _, rfl, rfl, _, rfl, ift (decide_eq_true (by omega)) ?_⟩
      refine ⟨_, rfl, szl (by decide), fun e4 he4 => ?_⟩
      have gu := Gr.new0 (X := []) (o := .lst []) gc.tab he4
      have esv := gu.lst esv
      obtain ⟨ds4, dps4, dok4, ddp4, dlen4⟩ := dp_hls (K := K) (H := upd Hc e4 (.lst [])) (fun z hz => (wh.hw z hz).1.ok) (sv := sv) fun y hy => (let ⟨z, a, _, b⟩ := hsm y hy; ⟨z, a, b.mono gu⟩)
      refine ⟨_, _, .lst (SqL.of esv) dps4, .lst (SqL.of upd_same) .nil, dok4, rfl, by simp only [PyData.depth]; omega, _, rfl, ?_⟩
      rw [eqv_nil, hl_nil dlen4, e0d]
      refine iteF ?_
      have hsm : ∀ y ∈ sv, ∃ z ∈ hl, z.2 ≤ s ∧ HlAt (upd Hc e4 (.lst [])) z y := fun y hy => (let ⟨z, a, b, c⟩ := hsm y hy; ⟨z, a, b, c.mono gu⟩)
      have gH := gH.trans gu
      have gc := gc.trans gu
      have ell := gu.lst ell
      clear dps4
      generalize upd Hc e4 (.lst []) = Hc at gH gc ell esv hsm ⊢
    case' neg =>
      refine ⟨_, rfl, _, _, rfl, rfl, _, rfl, iff' (decide_eq_false (by omega)) (iteF ?_)⟩
    all_goals
      by_cases hw4 : way < 4
      · refine ⟨_, rfl, _, _, rfl, rfl, _, rfl, ift (decide_eq_true (by omega)) ?_⟩
        refine ⟨_, rfl, szl (by decide), fun e5 he5 => ?_⟩
        have gy := Gr.new0 (X := []) (o := .lst []) gc.tab he5
        have esv := gy.lst esv
        obtain ⟨ds5, dps5, dok5, ddp5, dlen5⟩ := dp_hls (K := K) (H := upd Hc e5 (.lst [])) (fun z hz => (wh.hw z hz).1.ok) (sv := sv) fun y hy => (let ⟨z, a, _, b⟩ := hsm y hy; ⟨z, a, b.mono gy⟩)
        refine ⟨_, _, .lst (SqL.of esv) dps5, .lst (SqL.of upd_same) .nil, dok5, rfl, by simp only [PyData.depth]; omega, _, rfl, ?_⟩
        rw [eqv_nil, hl_nil dlen5, e0d]
        refine iteT ?_
        have gx := gH.trans gy
        have ell := gy.lst ell
        clear dps5
        generalize upd Hc e5 (.lst []) = Hx at gy gx ell esv ⊢
        have hd0 : ∃ d0, d = d0 + 1 := ⟨d - 1, by omega⟩
        obtain ⟨d0, rfl⟩ := hd0
        have hlen : 0 < sv.length := by
          cases sv with
          | nil => exact absurd rfl hsv
          | cons _ _ => simp
        have hix : num % sv.length < sv.length := Nat.mod_lt _ hlen
        obtain ⟨z9, hz9, hzs, az, eaz, eat⟩ := hsm sv[num % sv.length] (List.getElem_mem hix)
        have eat := gy.tup _ _ eat
        obtain ⟨wz, w2⟩ := wh.hw z9 hz9
        refine ⟨_, rfl, _, rfl, _, rfl, D, _, rfl, .inl (SqL.of esv), _, _, rfl, rfl, (by show (0 : Int) < ((sv.length : Nat) : Int); omega), D, _, _, _, rfl, rfl, SqL.of esv, at_of (j := num % sv.length) rfl (List.getElem?_eq_getElem hix), ?_⟩
        refine ⟨az, _, eaz, SqT.of eat, rfl, _, _, rfl, _, _, rfl, rfl, ?_⟩
        refine ⟨_, rfl, _, rfl, RgOk.of_le (by omega) (by omega) (by omega) (by omega), fun nl hnl => ?_⟩
        rw [rg_ints]
        have gn := Gr.new0 (X := []) (o := .lst (nints (List.range s))) gx.tab hnl
        have en : (upd Hx nl (.lst (nints (List.range s)))) nl = some (.lst (nints (List.range s))) := upd_same
        generalize upd Hx nl (.lst (nints (List.range s))) = Hn at gn en ⊢
        refine ⟨szl (by decide), fun gl hgl => ?_⟩
        have gg := gn.new (o := .lst []) hgl
        have en2 := (Gr.new0 (X := []) (o := .lst []) gn.tab hgl).lst en
        have nng : nl ≠ gl := fun z => by rw [z] at en; rw [en] at hgl; cases hgl
        have hgl0 : Hx gl = Option.none := gn.back _ hgl
        have eg : (upd Hn gl (.lst [])) gl = some (.lst []) := upd_same
        generalize upd Hn gl (.lst []) = Hg at gg en2 eg ⊢
        refine ⟨_, rfl, _, rfl, by omega, by omega, ?_⟩
        refine for_it (walk_range (lo := 0) (n := z9.2)) (fun i σ H' => ∃ (num' : Nat) (o2 o3 : Option V) (gs ns : List Nat) (acc : List V), σ = [some (.ref lc), some (.int (s : Int)), some (.ref lw), some (.ref lh), some (.int ((d0 + 1 : Nat) : Int)), some (.int (num' : Int)), some (.ref ll), some (.int (way : Int)), Option.none, some (.ref D), some (.str z9.1), some (.int (z9.2 : Int)), some (.ref nl), some (.ref gl), o2, o3, Option.none] ∧ Gr T [] Hx H' ∧ H' nl = some (.lst (nints ns)) ∧ H' gl = some (.lst acc) ∧ AtN H' gs acc ∧ gs.length = i ∧ ns.length + i = s ∧ (gs ++ ns).Nodup ∧ ∀ x ∈ gs ++ ns, x < s)
          ⟨num, _, _, [], List.range s, [], rfl, gg, en2, eg, rfl, rfl, by rw [List.length_range]; rfl, by simpa using List.nodup_range, fun x hx => List.mem_range.mp (by simpa using hx)⟩ (fun _ _ _ _ _ => True.intro) ?_ ?_
        · rintro i x σ H1 H2 hi ⟨num', o2, o3, gs, ns, acc, rfl, g1, e1, e2, an, hgl1, hns, hnd, hlt⟩ ⟨rfl, rfl⟩
          have hn1 : 0 < ns.length := by omega
          have hal := an.len
          have eI : ((num' : Int) / 3 + 7 * (0 + (i : Int))) = ((num' / 3 + 7 * i : Nat) : Int) := by omega
          refine ⟨_, rfl, _, _, rfl, rfl, ⟨by decide, by decide⟩, _, rfl, _, _, rfl, rfl, .inl ⟨by decide, by decide⟩, _, _, rfl, rfl, _, rfl, nl, _, rfl, .inl (SqL.of e1), _, _, rfl, ⟨by rw [nints_len]; omega, by rw [nints_len]; omega⟩, fun pd hpd => ?_⟩
          have g3 := g1.new (o := .tup [.int (((num' : Int) / 3 + 7 * (0 + (i : Int))) / ((nints ns).length : Int)), .int (((num' : Int) / 3 + 7 * (0 + (i : Int))) % ((nints ns).length : Int))]) hpd
          have gs3 := Gr.new0 (X := []) (o := .tup [.int (((num' : Int) / 3 + 7 * (0 + (i : Int))) / ((nints ns).length : Int)), .int (((num' : Int) / 3 + 7 * (0 + (i : Int))) % ((nints ns).length : Int))]) g1.tab hpd
          refine ⟨pd, _, rfl, SqT.of upd_same, rfl, _, _, rfl, _, _, rfl, rfl, ?_⟩
          have e1' := gs3.lst e1
          have e2' := gs3.lst e2
          have an' := an.mono gs3
          have hj : (num' / 3 + 7 * i) % ns.length < ns.length := Nat.mod_lt _ hn1
          have eJ : ((num' : Int) / 3 + 7 * (0 + (i : Int))) % ((nints ns).length : Int) = (((num' / 3 + 7 * i) % ns.length : Nat) : Int) := by rw [eI, nints_len]; rfl
          have eQ : ((num' : Int) / 3 + 7 * (0 + (i : Int))) / ((nints ns).length : Int) = (((num' / 3 + 7 * i) / ns.length : Nat) : Int) := by rw [eI, nints_len]; rfl
          simp only [eJ, eQ] at g3 gs3 e1' e2' an' ⊢
          generalize upd H2 pd _ = H3 at g3 gs3 e1' e2' an' ⊢
          generalize (num' / 3 + 7 * i) % ns.length = j at hj ⊢
          generalize (num' / 3 + 7 * i) / ns.length = nq
          refine ⟨_, rfl, .inl ⟨rfl, _, SqL.of e2'⟩, _, rfl, .inl ⟨rfl, _, SqL.of e1'⟩, _, rfl, nl, nints ns, _, j, .int ((ns[j] : Nat) : Int), rfl, rfl, e1', by omega, by omega, by rw [nints_len, PySem.seqIndex_of (by omega) (by omega)]; simp, by unfold nints; rw [List.getElem?_map, List.getElem?_eq_getElem hj] <;> rfl, ?_⟩
          have g4 := g3.mutL (o := .lst ((nints ns).eraseIdx j)) (.inl hnl) e1'
          have ex : (upd H3 nl (.lst ((nints ns).eraseIdx j))) nl = some (.lst (nints (ns.eraseIdx j))) := by
            rw [upd_same]
            unfold nints
            rw [eraseIdx_map']
          have ex2 : (upd H3 nl (.lst ((nints ns).eraseIdx j))) gl = some (.lst acc) := by rw [upd_ne nng.symm]; exact e2'
          have an4 := an'.upd (l := .lst ((nints ns).eraseIdx j)) e1'
          generalize upd H3 nl (.lst ((nints ns).eraseIdx j)) = H4 at g4 ex ex2 an4 ⊢
          refine ⟨szl (by show 2 ≤ 10000000; decide), fun pn hpn => ?_⟩
          have gs5 := Gr.new0 (X := []) (o := .tup [.str "name", .int ((ns[j] : Nat) : Int)]) g4.tab hpn
          have g5 := g4.trans gs5
          have ex5 := gs5.lst ex
          have ex6 := gs5.lst ex2
          have an5 := (an4.mono gs5).snoc (k := ns[j]) ⟨pn, rfl, upd_same⟩
          refine ⟨gl, _, _, rfl, rfl, ex6, szl' (by omega), ?_⟩
          have hp := erase_perm hj
          have hpp : (gs ++ [ns[j]] ++ ns.eraseIdx j).Perm (gs ++ ns) := by
            rw [List.append_assoc]
            exact List.Perm.append_left gs hp
          exact ⟨nq, _, _, gs ++ [ns[j]], ns.eraseIdx j, acc ++ [.ref pn], rfl, g5.mutL (.inl hgl0) ex6, by rw [upd_ne nng]; exact ex5, upd_same, an5.upd ex6, by rw [List.length_append, hgl1]; rfl, by rw [List.length_eraseIdx, if_pos hj]; omega, hpp.nodup_iff.mpr hnd, fun x hx => hlt x (hpp.mem_iff.mp hx)⟩
        · rintro σ H1 ⟨num', o2, o3, gs, ns, acc, rfl, g1, e1, e2, an, hgl1, hns, hnd, hlt⟩
          refine ⟨_, rfl, _, rfl, gl, _, rfl, .inl ⟨SqL.of e2, fun pt hpt => ?_⟩⟩
          have gs3 := Gr.new0 (X := []) (o := .tup acc) g1.tab hpt
          refine ⟨szl (by show 3 ≤ 10000000; decide), fun ph hph => ⟨_, rfl, szl (by show 2 ≤ 10000000; decide), fun p9 hp9 => ?_⟩⟩
          have gs4 := Gr.new0 (X := []) (o := .tup [.str "hole", .str z9.1, .ref pt]) gs3.tab hph
          have gs5 := Gr.new0 (X := []) (o := .tup [.ref ph, .ref ll]) gs4.tab hp9
          have gx5 := (gs3.trans gs4).trans gs5
          refine q _ p9 (.ref ph) ll (.hole z9.1 gs) ms ((gx.trans g1).trans gx5) upd_same ⟨ph, pt, acc, rfl, gs5.tup _ _ upd_same, gs5.tup _ _ (gs4.tup _ _ upd_same), an.mono gx5⟩ (gx5.lst (g1.lst ell)) hms hll0 ?_
          exact gn_hole wz (by rw [hgl1]; exact hz9) (List.Nodup.sublist (List.sublist_append_left _ _) hnd) (fun x hx => hlt x (List.mem_append_left _ hx)) (by omega)

      · refine ⟨_, rfl, _, _, rfl, rfl, _, rfl, iff' (decide_eq_false (by omega)) (iteF ?_)⟩
        have gx := gH
        generalize Hc = Hx at gx ell ⊢
        have hd0 : ∃ d0, d = d0 + 1 := ⟨d - 1, by omega⟩
        obtain ⟨d0, rfl⟩ := hd0
        refine ⟨szl (by decide), fun pl hpl => ?_⟩
        have gp := Gr.new0 (X := []) (o := .lst []) gx.tab hpl
        have nlp : ll ≠ pl := fun z => by rw [← z, ell] at hpl; cases hpl
        refine ⟨_, rfl, _, _, rfl, rfl, (by show (0 : Int) < 3; decide), _, _, rfl, rfl, _, rfl, by omega, by omega, ?_⟩
        refine for_it (walk_range (lo := 0) (n := 1 + num % 3)) (fun i σ H' => ∃ (o8 o11 o14 : Option V) (ll' : Addr) (cs' : List Int) (ps : List (Nat × Tm)) (acc : List V), σ = [some (.ref lc), some (.int (s : Int)), some (.ref lw), some (.ref lh), some (.int ((d0 + 1 : Nat) : Int)), some (.int (num : Int)), some (.ref ll'), some (.int (way : Int)), o8, some (.ref D), Option.none, o11, Option.none, Option.none, o14, Option.none, some (.ref pl)] ∧ Gr T [] Hx H' ∧ H' pl = some (.lst acc) ∧ AtPs H' ps acc ∧ ps.length = i ∧ (∀ z ∈ ps, z.1 ≤ 2 ∧ Gn W hl (s + z.1) d0 z.2) ∧ H' ll' = some (.lst (cs'.map V.int)) ∧ cs'.length ≤ cs.length ∧ ll' ≠ pl ∧ H ll' = Option.none)
          ⟨_, _, _, ll, ms, [], [], rfl, gp, upd_same, rfl, rfl, fun z hz => (by cases hz), gp.lst ell, hms, nlp, hll0⟩ (fun _ _ _ _ _ => True.intro) ?_ ?_
        · rintro i x σ H1 H2 hi ⟨o8, o11, o14, ll', cs', ps, acc, rfl, g1, e1, ats, hpsl, hps, e2, hcs', nlp', hll'⟩ ⟨rfl, rfl⟩
          have hi3 : i < 3 := by omega
          obtain ⟨c, ec1, ec2, ec3⟩ : ∃ c : Nat, ([.int 12, .int 48, .int 192] : List V)[i]? = some (.int (c : Int)) ∧ 0 < c ∧ c ≤ 192 := by
            match i, hi3 with
            | 0, _ => exact ⟨12, rfl, by decide, by decide⟩
            | 1, _ => exact ⟨48, rfl, by decide, by decide⟩
            | 2, _ => exact ⟨192, rfl, by decide, by decide⟩
          obtain ⟨m, em1, em2⟩ : ∃ m : Nat, ([.int 0, .int 1, .int 1, .int 2] : List V)[num / c % 4]? = some (.int (m : Int)) ∧ m ≤ 2 := by
            have h4 : num / c % 4 < 4 := Nat.mod_lt _ (by decide)
            generalize num / c % 4 = j at h4
            match j, h4 with
            | 0, _ => exact ⟨0, rfl, by decide⟩
            | 1, _ => exact ⟨1, rfl, by decide⟩
            | 2, _ => exact ⟨1, rfl, by decide⟩
            | 3, _ => exact ⟨2, rfl, by decide⟩
          refine ⟨szl (by show 4 ≤ 10000000; decide), fun a1 h1 => ?_⟩
          have g2 := Gr.new0 (X := []) (o := .lst [.int 0, .int 1, .int 1, .int 2]) g1.tab h1
          refine ⟨_, rfl, szl (by show 3 ≤ 10000000; decide), fun a2 h2 => ?_⟩
          have g3 := Gr.new0 (X := []) (o := .lst [.int 12, .int 48, .int 192]) g2.tab h2
          have ea1 := g3.lst (upd_same (a := a1) (o := .lst [.int 0, .int 1, .int 1, .int 2]))
          refine ⟨_, rfl, a2, _, _, _, rfl, rfl, SqL.of upd_same, at_of (j := i) (by omega) ec1, _, _, rfl, rfl, ⟨by omega, by omega⟩, _, _, rfl, rfl, (by show (0 : Int) < 4; decide), a1, _, _, _, rfl, rfl, SqL.of ea1, at_of (j := num / c % 4) ?_ em1, ?_⟩
          · rw [Int.fdiv_eq_ediv_of_nonneg _ (by omega)]; rfl
          have g4 := (g1.trans g2).trans g3
          have gq := g2.trans g3
          have e1' := gq.lst e1
          have e2' := gq.lst e2
          have ats' := ats.mono gq
          generalize upd (upd H2 a1 _) a2 _ = H4 at g4 gq e1' e2' ats' ⊢
          have gHx := gx.trans g4
          refine ⟨_, rfl, _, rfl, _, rfl, _, _, rfl, rfl, _, rfl, _, rfl, _, rfl, _, _, rfl, rfl, ?_⟩
          refine ⟨ll', lw, lh, cs', s + m, W, hl, hv, ?_, e2', gHx.lst ew, gHx.lst eh, ⟨ah.len, fun j y hy => (let ⟨z, a, b⟩ := ah.get j y hy; ⟨z, a, b.mono gHx⟩)⟩, wh, by omega, by omega, g4.tab, fun H5 p v l2 t cs2 g5 ep at5 el2 hc2 hl2 gnt => ?_⟩
          · show [V.ref ll', V.int ((s : Int) + (m : Int)), V.ref lw, V.ref lh, V.int (((d0 + 1 : Nat) : Int) - 1)] = _
            rw [show (((d0 + 1 : Nat) : Int) - 1) = (d0 : Int) by omega, show ((s : Int) + (m : Int)) = ((s + m : Nat) : Int) by omega]
          refine ⟨p, _, rfl, SqT.of ep, rfl, _, _, rfl, _, _, rfl, rfl, ?_⟩
          have e1'' := g5.lst e1'
          have n2 : l2 ≠ pl := fun z => by rw [z, e1'] at hl2; cases hl2
          have hal := ats.len
          refine ⟨_, rfl, .inl ⟨rfl, _, SqL.of e1''⟩, _, rfl, _, rfl, szl (by show 2 ≤ 10000000; decide), fun pz hpz => ?_⟩
          have g6 := Gr.new0 (X := []) (o := .tup [.int (m : Int), v]) g5.tab hpz
          have e6 := g6.lst e1''
          refine ⟨pl, _, _, rfl, rfl, e6, szl' (by omega), ?_⟩
          have g7 := (g4.trans g5).trans g6
          have gm : Gr T [pl] (upd H5 pz (.tup [.int (m : Int), v])) (upd (upd H5 pz (.tup [.int (m : Int), v])) pl (.lst (acc ++ [.ref pz]))) := (Gr.refl g6.tab).mutL (.inr (by simp)) e6
          refine ⟨_, _, _, l2, cs2, ps ++ [(m, t)], acc ++ [.ref pz], rfl, g7.mutL (.inl hpl) e6, upd_same, ?_, by rw [List.length_append, hpsl]; rfl, fun z hz => ?_, ?_, by omega, n2, gx.back _ (g4.back _ hl2)⟩
          · exact AtPs.snoc ⟨pz, v, rfl, gm.tup _ _ upd_same, (at5.mono g6).mono gm⟩ (((ats'.mono g5).mono g6).mono gm)
          · rcases List.mem_append.mp hz with y | y
            · exact hps z y
            · rw [List.mem_singleton.mp y]; exact ⟨em2, gnt⟩
          · rw [upd_ne n2]; exact g6.lst el2
        · rintro σ H1 ⟨o8, o11, o14, ll', cs', ps, acc, rfl, g1, e1, ats, hpsl, hps, e2, hcs', nlp', hll'⟩
          have hwl := wh.five
          have hi : 2 + num / 3 % 4 % 3 < W.length := by omega
          have gHx := gx.trans g1
          refine ⟨_, rfl, _, rfl, _, _, rfl, rfl, ⟨by decide, by decide⟩, _, _, rfl, rfl, (by show (0 : Int) < 4; decide), _, _, rfl, rfl, (by show (0 : Int) < 3; decide), _, _, rfl, rfl, lw, _, _, _, rfl, rfl, SqL.of (gHx.lst ew), at_of (j := 2 + num / 3 % 4 % 3) (by omega) (v := .str W[2 + num / 3 % 4 % 3]) (by rw [List.getElem?_map, List.getElem?_eq_getElem hi] <;> rfl), ?_⟩
          refine ⟨_, rfl, pl, _, rfl, .inl ⟨SqL.of e1, fun pt hpt => ?_⟩⟩
          have gs3 := Gr.new0 (X := []) (o := .tup acc) g1.tab hpt
          refine ⟨szl (by show 3 ≤ 10000000; decide), fun ph hph => ⟨_, rfl, szl (by show 2 ≤ 10000000; decide), fun p9 hp9 => ?_⟩⟩
          have gs4 := Gr.new0 (X := []) (o := .tup [.str "sign", .str W[2 + num / 3 % 4 % 3], .ref pt]) gs3.tab hph
          have gs5 := Gr.new0 (X := []) (o := .tup [.ref ph, .ref ll']) gs4.tab hp9
          have gx5 := (gs3.trans gs4).trans gs5
          refine q _ p9 (.ref ph) ll' (.sign W[2 + num / 3 % 4 % 3] (mkTs ps)) cs' (gHx.trans gx5) upd_same ⟨ph, pt, acc, rfl, gs5.tup _ _ upd_same, gs5.tup _ _ (gs4.tup _ _ upd_same), atL_ps.mpr (by rw [tsL_mk]; exact ats.mono gx5)⟩ (gx5.lst e2) hcs' hll' ?_
          exact gn_sign (List.getElem_mem hi) (by omega) hps

end

end HW
end
section
set_option Elab.async false
set_option linter.all false
set_option maxRecDepth 100000
set_option maxHeartbeats 4000000
namespace HW
open PySem PySem.Spec PyProof.Rows L2 NdefX LamX
/-! ### few holes -/
open TL
theorem ok_straights {P : Program} {w : World} {K : PySem.W.Frag} {mg : Str → Option Value} {base : Heap} (S : Cn K mg base) (T : List NTab) (hF : Has P w K mg base "_law_free" 2 ["_law_cell", "_law_place"] [] spFree) (hL : Has P w K mg base "_law_leaf" 1 ["_law_number", "_law_scope", "_law_words_here"] [] (spLeaf T)) :
    ∀ d, Has P w K mg base "_law_straight" (d + 4) ["_law_cells", "_law_scope", "_law_words_here", "_law_holes", "_law_deep"] [] (spStr8 T d)
  | 0 => ok_str8 S T 0 3 (by omega) hF hL (Has.mono (has_zero (d := d_law_straight) S 66 46 (ps := ["_law_cells", "_law_scope", "_law_words_here", "_law_holes", "_law_deep"]) (sp := fun _ _ _ _ => False) rfl rfl rfl rfl rfl (fun _ _ _ _ _ _ us hl => match us, hl with | [_, _, _, _, _], _ => rfl) (fun vs H Q E h => h)) (Nat.zero_le _))
  | d + 1 => ok_str8 S T (d + 1) (d + 4) (by omega) hF hL (ok_straights S T hF hL d)
/-- one term in the place of another -/
structure Fw (B : List Str) (t t' : HF.T Str) : Prop where
  c : ∀ s, HF.cls s t → HF.cls s t'
  st : HF.strt t → HF.strt t'
  g : gt B t → gt B t'
  hs : ∀ p ∈ HF.hs t', p ∈ HF.hs t
  ht : HF.ht t' ≤ HF.ht t
  nd : HF.nd t' ≤ HF.nd t
theorem Fw.refl {B : List Str} (t : HF.T Str) : Fw B t t := ⟨fun _ h => h, id, id, fun _ h => h, Nat.le_refl _, Nat.le_refl _⟩
structure FwL (B : List Str) (l l' : List (Nat × HF.T Str)) : Prop where
  len : l'.length = l.length
  rel : ∀ (i : Nat) (z z' : Nat × HF.T Str), l[i]? = some z → l'[i]? = some z' → z'.1 = z.1 ∧ Fw B z.2 z'.2
theorem FwL.mem {B : List Str} {l l' : List (Nat × HF.T Str)} (h : FwL B l l') {z' : Nat × HF.T Str} (hz : z' ∈ l') : ∃ z ∈ l, z'.1 = z.1 ∧ Fw B z.2 z'.2 := by
  obtain ⟨i, e⟩ := List.mem_iff_getElem?.mp hz
  have hi := (List.getElem?_eq_some_iff.mp e).1
  have hl := h.len
  obtain ⟨z, ez⟩ : ∃ z, l[i]? = some z := ⟨_, List.getElem?_eq_getElem (by omega)⟩
  exact ⟨z, List.mem_of_getElem? ez, h.rel i z z' ez e⟩
theorem ndL_le : ∀ {l l' : List (Nat × HF.T Str)} {B : List Str}, FwL B l l' → HF.ndL (mkTs l') ≤ HF.ndL (mkTs l)
  | [], [], _, _ => Nat.le_refl _
  | [], _ :: _, _, h => by have := h.len; simp at this
  | _ :: _, [], _, h => by have := h.len; simp at this
  | (m, t) :: r, (m', t') :: r', B, h => by
    have h1 := (h.rel 0 (m, t) (m', t') rfl rfl).2.nd
    have h2 := ndL_le (l := r) (l' := r') (B := B) ⟨by simpa using h.len, fun i z z' a b => h.rel (i + 1) z z' (by simpa using a) (by simpa using b)⟩
    show HF.nd t' + HF.ndL (mkTs r') ≤ HF.nd t + HF.ndL (mkTs r)
    have h1 : HF.nd t' ≤ HF.nd t := h1
    omega
theorem htL_get2 : ∀ {l : List (Nat × HF.T Str)} {z : Nat × HF.T Str}, z ∈ l → HF.ht z.2 ≤ HF.htL (mkTs l)
  | (m, t) :: r, z, h => by
    rcases List.mem_cons.mp h with e | e
    · rw [e]; exact Nat.le_max_left _ _
    · exact Nat.le_trans (htL_get2 e) (Nat.le_max_right _ _)
theorem strtL_mem : ∀ {ps : HF.Ts Str} {z : Nat × HF.T Str}, HF.strtL ps → z ∈ tsL ps → HF.strt z.2
  | .cons m t r, z, h, hz => by
    rcases List.mem_cons.mp hz with e | e
    · rw [e]; exact h.1
    · exact strtL_mem h.2 e
theorem cls_part2 {s : Nat} {u : Str} {ps : HF.Ts Str} (h : HF.cls s (.sign u ps)) {z : Nat × HF.T Str} (hz : z ∈ tsL ps) : HF.cls (s + z.1) z.2 := fun x hx => by
  by_cases q : x < z.1
  · omega
  · have e : x = (x - z.1) + z.1 := by omega
    have : HF.fr (x - z.1) 0 (.sign u ps) := frL_mem.mpr ⟨z, hz, by
      rw [e] at hx
      exact HF.fr_unshift (y := x - z.1) (c := z.1) (d := 0) (t := z.2) hx⟩
    have := h _ this
    omega
theorem FwL.sign {B : List Str} {u : Str} {ps : HF.Ts Str} {l' : List (Nat × HF.T Str)} (h : FwL B (tsL ps) l') : Fw B (.sign u ps) (.sign u (mkTs l')) := by
  refine ⟨fun s hc => cls_sign fun z hz => ?_, fun hst => strtL_of fun z hz => ?_, fun hg => ⟨hg.1, ⟨by rw [tsL_mk, h.len]; exact hg.2.1.1, fun z hz => ?_⟩, gtL_of fun z hz => ?_⟩, fun p hp => ?_, ?_, ?_⟩
  · obtain ⟨y, hy, e, f⟩ := h.mem hz
    rw [e]; exact f.c _ (cls_part2 hc hy)
  · obtain ⟨y, hy, e, f⟩ := h.mem hz
    exact f.st (strtL_mem hst hy)
  · rw [tsL_mk] at hz
    obtain ⟨y, hy, e, f⟩ := h.mem hz
    rw [e]; exact hg.2.1.2 y hy
  · obtain ⟨y, hy, e, f⟩ := h.mem hz
    exact f.g (gtL_get hg.2.2 hy)
  · rw [hs_sign] at hp
    obtain ⟨z, hz, hq⟩ := List.mem_flatMap.mp hp
    obtain ⟨y, hy, e, f⟩ := h.mem hz
    show p ∈ HF.hsL ps
    rw [hsL_P]
    exact List.mem_flatMap.mpr ⟨y, hy, f.hs p hq⟩
  · show 1 + HF.htL (mkTs l') ≤ 1 + HF.htL ps
    have := htL_of (n := HF.htL ps) (l := l') fun z hz => (by
      obtain ⟨y, hy, e, f⟩ := h.mem hz
      have := htL_get2 hy
      rw [mk_tsL] at this
      exact Nat.le_trans f.ht this)
    omega
  · have := ndL_le h
    rw [mk_tsL] at this
    show 1 + HF.ndL (mkTs l') ≤ 1 + HF.ndL ps
    omega
section
variable {P : Program} {w : World} {K : PySem.W.Frag} {mg : Str → Option Value} {base : Heap}
def spFew (T : List NTab) (n : Nat) : Sp := fun vs H Q _ => ∃ (t : Tm) (v : V) (m : Nat) (B : List Str), vs = [v, .int (m : Int)] ∧ At H t v ∧ TabsN T H ∧ HF.ht t ≤ n ∧ HF.nd t ≤ 1000000 ∧ ("r" : Str) ∈ B ∧
  ∀ H' p v' t' (m' : Nat), Gr T [] H H' → H' p = some (.tup [v', .int (m' : Int)]) → At H' t' v' → Fw B t t' → (HF.hs t').length + m' ≤ m → Q (.ref p) H'
theorem sc_law_few : FnScope ["_law_term", "_law_most", "_law_parts", "_law_many", "_law_one"] ["_law_term", "_law_most"] (defScope s_law_few) := ⟨rfl, rfl, rfl, by decide +kernel, rfl, by decide +kernel, by decide +kernel⟩
theorem ok_few1 (S : Cn K mg base) (T : List NTab) (n : Nat) (ih : Has P w K mg base "_law_few" n ["_law_term", "_law_most"] [] (spFew T n)) : Has P w K mg base "_law_few" (n + 1) ["_law_term", "_law_most"] [] (spFew T (n + 1)) := by
  refine has_of (d := d_law_few) S 67 47 rfl rfl rfl rfl rfl sc_law_few (fun vs H Q E h => ?_) (fun _ _ _ _ _ _ us hl => match us, hl with | [_, _], _ => rfl) (fun f cdv A outer s H vs Q E hr h => ?_)
  · obtain ⟨t, v, m, B, rfl, _⟩ := h
    rfl
  refine ⟨_, (pss_cons (ps_if (ptEq (ixT (pv 0))) (pss_one (ps_ret (pe_tup (pa_cons (pv 0) (pa_cons (pv 1) pa_nil))))) pss_nil) (pss_cons (ps_if (ptEq (ixT (pv 0))) (pss_cons (ps_if (pt_cmpR op_eq (pv 1) pe_int (nomark _)) (pss_one (ps_ret (pe_tup (pa_cons (pe_tup (pa_cons pe_str (pa_cons pe_str (pa_cons (pe_tup pa_nil) pa_nil)))) (pa_cons pe_int pa_nil))))) pss_nil) (pss_one (ps_ret (pe_tup (pa_cons (pv 0) (pa_cons (pe_op op_sub (pv 1) pe_int) pa_nil)))))) pss_nil) (pss_cons (ps_set (i := 2) sc_law_few.nd rfl (Or.inl rfl) (pe_lst pa_nil)) (pss_cons (ps_for PassesOwn.never rfl (pi_tup (ixT (pv 0))) (pg_tup rfl (pgs_cons (pg_name (i := 3) sc_law_few.nd rfl (Or.inl rfl)) (pgs_cons (pg_name (i := 4) sc_law_few.nd rfl (Or.inl rfl)) pgs_nil))) (pss_cons (ps_asg (pe_hs ih hr (by omega) rfl (pa_cons (pv 4) (pa_cons (pv 1) pa_nil))) (pg_tup rfl (pgs_cons (pg_name (i := 4) sc_law_few.nd rfl (Or.inl rfl)) (pgs_cons (pg_name (i := 1) sc_law_few.nd rfl (Or.inl rfl)) pgs_nil)))) (pss_one (ps_expr (pe_bm PySem.F.plainAttrs_list PySem.F.slot_list_append PySem.F.type_list_append mt_append (pv 2) (pa_cons (pe_tup (pa_cons (pv 3) (pa_cons (pv 4) pa_nil))) pa_nil)))))) (pss_one (ps_ret (pe_tup (pa_cons (pe_tup (pa_cons pe_str (pa_cons (ixT (pv 0)) (pa_cons (pe_callTy call_tuple_of (by rfl) (S.free 61) (by decide +kernel) (pa_cons (pv 2) pa_nil)) pa_nil)))) (pa_cons (pv 1) pa_nil))))))))), ?_⟩
  obtain ⟨t, v, m, B, rfl, ht, hT, hh, hnd, hr, q⟩ := h
  cases t with
  | name k =>
    obtain ⟨a, rfl, h1⟩ := ht
    refine ⟨_, rfl, a, _, 0, _, rfl, rfl, SqT.of h1, rfl, rfl, _, rfl, ift eRf ?_⟩
    refine ⟨_, rfl, _, rfl, szl (by show 2 ≤ 10000000; decide), fun p hp => ?_⟩
    have g := Gr.new0 (X := []) (o := .tup [.ref a, .int (m : Int)]) hT hp
    exact q _ p (.ref a) (.name k) m g upd_same ⟨a, rfl, g.tup _ _ h1⟩ (Fw.refl _) (by show 0 + m ≤ m; omega)
  | hole u ns =>
    obtain ⟨a, b, vs, rfl, h1, h2, h3⟩ := ht
    refine ⟨_, rfl, a, _, 0, _, rfl, rfl, SqT.of h1, rfl, rfl, _, rfl, iff' eHN ?_⟩
    refine ⟨_, rfl, a, _, 0, _, rfl, rfl, SqT.of h1, rfl, rfl, _, rfl, ift eRf ?_⟩
    refine ⟨_, rfl, rfl, _, rfl, ite2 (fun hc => ?_) (fun hc => ?_)⟩
    · have hm : m = 0 := by have := V.int.inj (of_decide_eq_true hc); omega
      refine ⟨szl (by decide), fun a1 h1' => ⟨szl (by show 3 ≤ 10000000; decide), fun a2 h2' => ⟨szl (by show 2 ≤ 10000000; decide), fun p hp => ?_⟩⟩⟩
      have g1 := Gr.new0 (X := []) (o := .tup []) hT h1'
      have g2 := Gr.new0 (X := []) (o := .tup [.str "sign", .str "r", .ref a1]) g1.tab h2'
      have g3 := Gr.new0 (X := []) (o := .tup [.ref a2, .int 0]) g2.tab hp
      refine q _ p (.ref a2) (.sign "r" .nil) 0 ((g1.trans g2).trans g3) upd_same ⟨a2, a1, [], rfl, g3.tup _ _ upd_same, g3.tup _ _ (g2.tup _ _ upd_same), rfl⟩ ⟨fun s _ x hx => hx.elim, fun _ => trivial, fun _ => ⟨hr, ⟨by show 0 ≤ 3; omega, fun z hz => (by cases hz)⟩, trivial⟩, fun p hp => (by cases hp), ?_, ?_⟩ (by show 0 + 0 ≤ m; omega)
      · show 1 + 0 ≤ 2; omega
      · show 1 + 0 ≤ 1 + ns.length; omega
    · have hm : m ≠ 0 := fun e => hc (by rw [e]; rfl)
      have em : (m : Int) - 1 = ((m - 1 : Nat) : Int) := by omega
      refine ⟨_, rfl, _, rfl, _, _, rfl, rfl, szl (by show 2 ≤ 10000000; decide), fun p hp => ?_⟩
      have g := Gr.new0 (X := []) (o := .tup [.ref a, .int ((m : Int) - 1)]) hT hp
      exact q _ p (.ref a) (.hole u ns) (m - 1) g (by rw [upd_same, ← em]) ⟨a, b, vs, rfl, g.tup _ _ h1, g.tup _ _ h2, h3.mono g⟩ (Fw.refl _) (by show 1 + (m - 1) ≤ m; omega)
  | sign u ps =>
    obtain ⟨a, b, vs, rfl, h1, h2, h3⟩ := ht
    have h4 := atL_ps.mp h3
    have h5 := h4.len
    rw [ht_sign] at hh
    rw [nd_sign] at hnd
    refine ⟨_, rfl, a, _, 0, _, rfl, rfl, SqT.of h1, rfl, rfl, _, rfl, iff' eSN ?_⟩
    refine ⟨_, rfl, a, _, 0, _, rfl, rfl, SqT.of h1, rfl, rfl, _, rfl, iff' eSH ?_⟩
    refine ⟨szl (by decide), fun pl hpl => ?_⟩
    have g0 := Gr.new0 (X := []) (o := .lst []) hT hpl
    refine ⟨_, rfl, a, _, 2, _, rfl, rfl, SqT.of (g0.tup _ _ h1), rfl, b, rfl, ⟨_, SqT.of (g0.tup _ _ h2)⟩, ?_⟩
    refine for_tup (K := K) (a := b) (xs := vs) (fun i σ H' => ∃ (o3 o4 : Option V) (m' : Nat) (l' : List (Nat × Tm)) (acc : List V), σ = [some (.ref a), some (.int (m' : Int)), some (.ref pl), o3, o4] ∧ Gr T [] H H' ∧ H' pl = some (.lst acc) ∧ AtPs H' l' acc ∧ FwL B ((tsL ps).take i) l' ∧ (hsP l').length + m' ≤ m) ⟨_, _, m, [], [], rfl, g0, upd_same, rfl, ⟨rfl, fun i z z' h => (by simp at h)⟩, by show 0 + m ≤ m; omega⟩ (fun i σ H' _ ⟨_, _, _, _, _, _, g, _⟩ => SqT.of (g.tup _ _ h2)) ?_ ?_
    · rintro i x σ H1 hx ⟨o3, o4, m', l', acc, rfl, g, epl, ats, fw, hm⟩
      obtain ⟨z, ez, p⟩ := h4.get hx
      obtain ⟨c, tv, rfl, p1, p2⟩ := p.mono g
      obtain ⟨l1, l2⟩ := htL_get ez
      have hil := (List.getElem?_eq_some_iff.mp ez).1
      have htk : ((tsL ps).take i).length = i := by rw [List.length_take]; omega
      have hll := fw.len
      have hal := ats.len
      have htn := tsL_len ps
      refine ⟨c, _, rfl, SqT.of p1, rfl, _, _, rfl, _, _, rfl, rfl, ?_⟩
      refine ⟨_, rfl, _, rfl, z.2, tv, m', B, rfl, p2, g.tab, by omega, by omega, hr, fun H2 p v' t' m2 g2 ep at2 fw2 hm2 => ?_⟩
      refine ⟨p, _, rfl, SqT.of ep, rfl, _, _, rfl, _, _, rfl, rfl, ?_⟩
      have epl2 := g2.lst epl
      refine ⟨_, rfl, .inl ⟨rfl, _, SqL.of epl2⟩, _, rfl, _, rfl, szl (by show 2 ≤ 10000000; decide), fun pz hpz => ?_⟩
      have g3 := Gr.new0 (X := []) (o := .tup [.int (z.1 : Int), v']) g2.tab hpz
      have epl3 := g3.lst epl2
      refine ⟨pl, _, _, rfl, rfl, epl3, szl' (by omega), ?_⟩
      have gm : Gr T [pl] (upd H2 pz (.tup [.int (z.1 : Int), v'])) (upd (upd H2 pz (.tup [.int (z.1 : Int), v'])) pl (.lst (acc ++ [.ref pz]))) := (Gr.refl g3.tab).mutL (.inr (by simp)) epl3
      refine ⟨_, _, m2, l' ++ [(z.1, t')], acc ++ [.ref pz], rfl, ((g.trans g2).trans g3).mutL (.inl hpl) epl3, upd_same, ?_, ?_, ?_⟩
      · exact AtPs.snoc (q := (z.1, t')) ⟨pz, v', rfl, gm.tup _ _ upd_same, (at2.mono g3).mono gm⟩ (((ats.mono g2).mono g3).mono gm)
      · rw [take_snoc ez]
        refine ⟨by rw [List.length_append, List.length_append, hll]; rfl, fun j y y' a1 a2 => ?_⟩
        by_cases q : j < i
        · rw [List.getElem?_append_left (by omega)] at a1 a2
          exact fw.rel j y y' a1 a2
        · rw [List.getElem?_append_right (by omega)] at a1 a2
          have ej : j = i := by
            have := (List.getElem?_eq_some_iff.mp a1).1
            simp at this
            omega
          rw [show j - ((tsL ps).take i).length = 0 by omega] at a1
          rw [show j - l'.length = 0 by omega] at a2
          have a1 : z = y := Option.some.inj a1
          have a2 : (z.1, t') = y' := Option.some.inj a2
          rw [← a1, ← a2]
          exact ⟨rfl, fw2⟩
      · rw [hsP_snoc, List.length_append]
        show (hsP l').length + (HF.hs t').length + m2 ≤ m
        omega
    · rintro σ H1 ⟨o3, o4, m', l', acc, rfl, g, epl, ats, fw, hm⟩
      rw [h5, List.take_length] at fw
      refine ⟨_, rfl, a, _, 1, _, rfl, rfl, SqT.of (g.tup _ _ h1), rfl, _, rfl, pl, _, rfl, .inl ⟨SqL.of epl, fun pt hpt => ?_⟩⟩
      have gs3 := Gr.new0 (X := []) (o := .tup acc) g.tab hpt
      refine ⟨szl (by show 3 ≤ 10000000; decide), fun ph hph => ⟨_, rfl, szl (by show 2 ≤ 10000000; decide), fun p9 hp9 => ?_⟩⟩
      have gs4 := Gr.new0 (X := []) (o := .tup [.str "sign", .str u, .ref pt]) gs3.tab hph
      have gs5 := Gr.new0 (X := []) (o := .tup [.ref ph, .int (m' : Int)]) gs4.tab hp9
      have gx5 := (gs3.trans gs4).trans gs5
      refine q _ p9 (.ref ph) (.sign u (mkTs l')) m' (g.trans gx5) upd_same ⟨ph, pt, acc, rfl, gs5.tup _ _ upd_same, gs5.tup _ _ (gs4.tup _ _ upd_same), atL_ps.mpr (by rw [tsL_mk]; exact ats.mono gx5)⟩ fw.sign ?_
      rw [hs_sign]; exact hm
theorem ok_few (S : Cn K mg base) (T : List NTab) : ∀ n, Has P w K mg base "_law_few" n ["_law_term", "_law_most"] [] (spFew T n)
  | 0 => by
    exact has_zero (d := d_law_few) S 67 47 rfl rfl rfl rfl rfl (fun _ _ _ _ _ _ us hl => match us, hl with | [_, _], _ => rfl) (fun vs H Q E h => by
      obtain ⟨t, v, m, B, _, _, _, hh, _⟩ := h
      have := HF.ht_pos t
      omega)
  | n + 1 => ok_few1 S T n (ok_few S T n)
end

end HW
end
section
set_option Elab.async false
set_option linter.all false
set_option maxRecDepth 100000
set_option maxHeartbeats 4000000
namespace HW
open PySem PySem.Spec PyProof.Rows L2 NdefX LamX
/-! ### a pair of the law -/
open TL
mutual
theorem gt_up {B B' : List Str} (h : ∀ u ∈ B, u ∈ B') : ∀ {t : HF.T Str}, gt B t → gt B' t
  | .name _, _ => trivial
  | .sign _ _, g => ⟨h _ g.1, g.2.1, gtL_up h g.2.2⟩
  | .hole _ _, g => g
theorem gtL_up {B B' : List Str} (h : ∀ u ∈ B, u ∈ B') : ∀ {ts : HF.Ts Str}, gtL B ts → gtL B' ts
  | .nil, _ => trivial
  | .cons _ _ _, g => ⟨gt_up h g.1, gtL_up h g.2⟩
end
/-- the sign words of the law -/
def BW (W : List Str) : List Str := W ++ (["r", "s", "t", "a"] : List Str)
theorem one_sign {u : Str} (c : Nat) (e : u = ⟨#[c]⟩) (h : isL c = true) : Wd u := by
  subst e
  refine ⟨fun x hx => ?_, Nat.le_refl 1, by show 1 ≤ 8; decide⟩
  rw [List.mem_singleton.mp (show x ∈ [c] from hx)]
  exact h
theorem wd_r : Wd "r" := one_sign 114 (by decide +kernel) (by decide +kernel)
theorem wd_s : Wd "s" := one_sign 115 (by decide +kernel) (by decide +kernel)
theorem wd_t : Wd "t" := one_sign 116 (by decide +kernel) (by decide +kernel)
theorem wd_a : Wd "a" := one_sign 97 (by decide +kernel) (by decide +kernel)
theorem wd_z : Wd "z" := one_sign 122 (by decide +kernel) (by decide +kernel)
theorem BW_wd {W : List Str} (h : ∀ u ∈ W, Wd u) : ∀ u ∈ BW W, Wd u := fun u hu => by
  rcases List.mem_append.mp hu with q | q
  · exact h u q
  · rcases List.mem_cons.mp q with e | q
    · rw [e]; exact wd_r
    rcases List.mem_cons.mp q with e | q
    · rw [e]; exact wd_s
    rcases List.mem_cons.mp q with e | q
    · rw [e]; exact wd_t
    · rw [List.mem_singleton.mp q]; exact wd_a
theorem BW_r (W : List Str) : ("r" : Str) ∈ BW W := List.mem_append_right _ (by simp)
theorem BW_s (W : List Str) : ("s" : Str) ∈ BW W := List.mem_append_right _ (by simp)
theorem BW_t (W : List Str) : ("t" : Str) ∈ BW W := List.mem_append_right _ (by simp)
theorem BW_a (W : List Str) : ("a" : Str) ∈ BW W := List.mem_append_right _ (by simp)
/-- what is shown reads back -/
theorem Sh.rx {bs B : List Str} {n : Nat} {t : HF.T Str} (h : Sh bs B 0 t) (hh : HF.ht t ≤ n) (hn : HF.nd t ≤ 20000) (f : fnl (HF.hs t)) (l : (HF.hs t).length ≤ 100000) (b : 2 * n ≤ 700) : Rx B n t (cat (pcs bs 0 t)) := by
  obtain ⟨r, b2, g⟩ := rd_pcs h.w 0 t h.g h.c h.p h.b
  have el := lexs_cat g
  have e0 : fws bs 0 = [] := by unfold fws; rw [List.take_zero]; rfl
  have hl := len_pcs h.w 0 t h.g h.c h.b
  exact ⟨g.okc, fun u hu => by rw [el] at hu; exact g.len u hu, by omega, by rw [el, ← e0]; exact r, hh, h.g, by omega, f, l, b⟩
/-- one side of a pair of the law -/
structure Sd (W : List Str) (hl : List (Str × Nat)) (t : HF.T Str) : Prop where
  s : ∃ m x, t = .sign "s" (.cons m x .nil)
  c : HF.cls 0 t
  st : HF.strt t
  g : gt (BW W) t
  hs : ∀ p ∈ HF.hs t, p ∈ hl
  ht : HF.ht t ≤ 4
  nd : HF.nd t ≤ 28
  few : (HF.hs t).length ≤ 2
structure In (W : List Str) (hl : List (Str × Nat)) (m : Nat) (t : HF.T Str) : Prop where
  c : HF.cls m t
  st : HF.strt t
  g : gt (BW W) t
  hs : ∀ p ∈ HF.hs t, p ∈ hl
  ht : HF.ht t ≤ 3
  nd : HF.nd t ≤ 27
  few : (HF.hs t).length ≤ 2
theorem In.sd {W : List Str} {hl : List (Str × Nat)} {m : Nat} {t : HF.T Str} (h : In W hl m t) (hm : m ≤ 2) : Sd W hl (.sign "s" (.cons m t .nil)) := by
  have ehs : HF.hs (HF.T.sign "s" (.cons m t .nil) : HF.T Str) = HF.hs t := by show HF.hs t ++ [] = _; rw [List.append_nil]
  refine ⟨⟨m, t, rfl⟩, ?_, ⟨h.st, trivial⟩, ⟨BW_s W, ⟨by show 1 ≤ 3; decide, fun z hz => ?_⟩, h.g, trivial⟩, fun p hp => h.hs p (by rw [ehs] at hp; exact hp), ?_, ?_, by rw [ehs]; exact h.few⟩
  · have := cls_sign (s := 0) (u := "s") (l := [(m, t)]) fun z hz => (by
      rw [List.mem_singleton.mp hz]
      show HF.cls (0 + m) t
      rw [Nat.zero_add]; exact h.c)
    exact this
  · rw [List.mem_singleton.mp (show z ∈ [(m, t)] from hz)]; exact hm
  · show 1 + Nat.max (HF.ht t) 0 ≤ 4
    have h1 := h.ht
    have : Nat.max (HF.ht t) 0 ≤ 3 := Nat.max_le.mpr ⟨h1, by omega⟩
    omega
  · have := h.nd
    show 1 + (HF.nd t + 0) ≤ 28
    omega
/-- the three holes: unlike words -/
theorem fn_hl {hl : List (Str × Nat)} (h : (hl.map (·.1)).Nodup) {u : Str} {c d : Nat} (h1 : (u, c) ∈ hl) (h2 : (u, d) ∈ hl) : c = d := HF.fun_of h h1 h2
theorem Sd.fn {W : List Str} {hl : List (Str × Nat)} (hn : (hl.map (·.1)).Nodup) {t : HF.T Str} (h : Sd W hl t) : fnl (HF.hs t) := fun u c d a b => fn_hl hn (h.hs _ a) (h.hs _ b)
/-- filled by fillers of the law -/
structure Fi (W : List Str) (hl : List (Str × Nat)) (σ : HF.Fl Str) : Prop where
  ok : ∀ x k v, σ x = some (k, v) → (x, k) ∈ hl ∧ HF.cls k v ∧ HF.strt v ∧ gt (BW W) v ∧ (∀ p ∈ HF.hs v, p ∈ hl) ∧ HF.ht v ≤ 2 ∧ HF.nd v ≤ 4 ∧ (HF.hs v).length ≤ 1
theorem Fi.sg {W : List Str} {hl : List (Str × Nat)} {σ : HF.Fl Str} (f : Fi W hl σ) {x : Str} {v : HF.T Str} (h : HF.sg σ x = some v) : ∃ k, (x, k) ∈ hl ∧ HF.cls k v ∧ HF.strt v ∧ gt (BW W) v ∧ (∀ p ∈ HF.hs v, p ∈ hl) ∧ HF.ht v ≤ 2 ∧ HF.nd v ≤ 4 ∧ (HF.hs v).length ≤ 1 := by
  unfold HF.sg at h
  cases e : σ x with
  | none => rw [e] at h; cases h
  | some y =>
    rw [e] at h
    have h : y.2 = v := Option.some.inj h
    subst h
    exact ⟨y.1, f.ok x y.1 y.2 e⟩
theorem In.fill {W : List Str} {hl : List (Str × Nat)} (hn : (hl.map (·.1)).Nodup) {m : Nat} {t : HF.T Str} {σ : HF.Fl Str} (h : In W hl m t) (hnd : HF.nd t ≤ 13) (f : Fi W hl σ) : In W hl m (HF.fil (HF.sg σ) t) := by
  have ok : HF.okF (HF.sg σ) (HF.hs t) := fun u k hk v hv => by
    obtain ⟨k2, h1, h2, _⟩ := f.sg hv
    rw [fn_hl hn (h.hs _ hk) h1]; exact h2
  refine ⟨HF.cls_fil ok h.c, HF.strt_fil h.st ok fun u k v _ hv => (f.sg hv).choose_spec.2.2.1, gt_fil (fun x v hv => (f.sg hv).choose_spec.2.2.2.1) _ h.g, fun p hp => ?_, ?_, ?_, ?_⟩
  · rcases HF.mem_hs_fil hp with ⟨h1, _⟩ | ⟨x, k, v, _, hv, h3⟩
    · exact h.hs p h1
    · exact (f.sg hv).choose_spec.2.2.2.2.1 p h3
  · exact Nat.le_trans (HF.ht_fil2 (fun x v hv => (f.sg hv).choose_spec.2.2.2.2.2.1) t) h.ht
  · have h1 := HF.nd_fil (σ := HF.sg σ) (b := 4) (fun x v hv => (f.sg hv).choose_spec.2.2.2.2.2.2.1) t
    have h2 := h.few
    omega
  · have h1 := HF.oc_fil (σ := HF.sg σ) (b := 1) (Nat.le_refl 1) (fun x v hv => (f.sg hv).choose_spec.2.2.2.2.2.2.2) t
    have h2 := h.few
    omega
theorem gn_few {W : List Str} {hl : List (Str × Nat)} {s : Nat} {t t' : HF.T Str} (g : Gn W hl s 2 t) (f : Fw (BW W) t t') (h : (HF.hs t').length ≤ 2) : In W hl s t' ∧ HF.nd t' ≤ 13 := by
  have h1 := f.ht
  have h2 := f.nd
  have h3 := g.ht
  have h4 : HF.nd t ≤ 13 := g.nd
  exact ⟨⟨f.c s g.c, f.st g.st, f.g (gt_up (fun u hu => List.mem_append_left _ hu) g.g), fun p hp => g.hs p (f.hs p hp), by omega, by omega, h⟩, by omega⟩
theorem AtF.put {H : Hp} {kvs : List (Key × V)} {σ : HF.Fl Str} (h : AtF H kvs σ) {u : Str} {m : Nat} {t : HF.T Str} {tv : V} {p : Addr} (hu : σ u = Option.none) (hp : H p = some (.tup [.int ((m : Nat) : Int), tv])) (at1 : At H t tv) :
    AtF H (putK kvs (.inr u) (.ref p)) (fun x => if x = u then some (m, t) else σ x) := by
  refine ⟨fun z hz => ?_, fun x y hx => ?_⟩
  · rcases mem_putK hz with e | e
    · exact ⟨u, p, m, t, tv, e, if_pos rfl, hp, at1⟩
    · obtain ⟨x, p2, m2, t2, tv2, e1, e2, e3, e4⟩ := h.mem z e
      have hx : x ≠ u := fun q => by rw [q, hu] at e2; cases e2
      exact ⟨x, p2, m2, t2, tv2, e1, by rw [if_neg hx]; exact e2, e3, e4⟩
  · rw [valV_put]
    by_cases q : x = u
    · exact ⟨_, if_pos (by rw [q])⟩
    · rw [if_neg q] at hx
      obtain ⟨y2, h2⟩ := h.all x y hx
      exact ⟨y2, by rw [if_neg fun z => q (Sum.inr.inj z)]; exact h2⟩
/-- a text in pieces that reads as a term -/
structure Rp (B : List Str) (n : Nat) (t : HF.T Str) (z : Str) : Prop where
  rx : Rx B n t z
  pc : ∃ ps b, z = cat ps ∧ Gd false ps b ∧ Rd [] t (nb ps)
theorem Sh.rp {bs B : List Str} {n : Nat} {t : HF.T Str} (h : Sh bs B 0 t) (hh : HF.ht t ≤ n) (hn : HF.nd t ≤ 20000) (f : fnl (HF.hs t)) (l : (HF.hs t).length ≤ 100000) (b : 2 * n ≤ 700) : Rp B n t (cat (pcs bs 0 t)) := by
  obtain ⟨r, b2, g⟩ := rd_pcs h.w 0 t h.g h.c h.p h.b
  have e0 : fws bs 0 = [] := by unfold fws; rw [List.take_zero]; rfl
  exact ⟨h.rx hh hn f l b, _, b2, rfl, g, by rw [← e0]; exact r⟩
theorem rp_of {B : List Str} {n : Nat} {t : HF.T Str} {ps : List Str} {b : Bool} (g : Gd false ps b) (r : Rd [] t (nb ps)) (hl : (cat ps).length ≤ 1000000) (hh : HF.ht t ≤ n) (hg : gt B t) (hn : HF.nd t ≤ 1000000) (f : fnl (HF.hs t)) (l : (HF.hs t).length ≤ 100000) (hb : 2 * n ≤ 700) : Rp B n t (cat ps) := by
  have el := lexs_cat g
  exact ⟨⟨g.okc, fun u hu => by rw [el] at hu; exact g.len u hu, hl, by rw [el]; exact r, hh, hg, hn, f, l, hb⟩, ps, b, rfl, g, r⟩

end HW
end
section
set_option Elab.async false
set_option linter.all false
set_option maxRecDepth 100000
set_option maxHeartbeats 4000000
namespace HW
open PySem PySem.Spec PyProof.Rows L2 NdefX LamX
/-! ### _law_pair -/
open TL
section
variable {P : Program} {w : World} {K : PySem.W.Frag} {mg : Str → Option Value} {base : Heap}
/-- the texts of a pair -/
structure Pr (W : List Str) (hl : List (Str × Nat)) (n : Nat) (za zb : Str) (a b : HF.T Str) : Prop where
  sa : Sd W hl a
  sb : Sd W hl b
  ra : Rp (BW W) n a za
  rb : Rp (BW W) n b zb
  lena : za.length ≤ 400000
  lenb : zb.length ≤ 400000
def spPr (T : List NTab) (n : Nat) : Sp := fun vs H Q _ => ∃ (lc lw lh : Addr) (seed : Int) (cs : List Int) (W : List Str) (hl : List (Str × Nat)) (hv : List V), vs = [.ref lc, .int seed, .ref lw, .ref lh] ∧ H lc = some (.lst (cs.map V.int)) ∧ cs.length ≤ 100 ∧ H lw = some (.lst (W.map V.str)) ∧ H lh = some (.lst hv) ∧ AtI HlAt H hl hv ∧ Wh W hl ∧ hl.length = 3 ∧ (hl.map (·.1)).Nodup ∧ (∀ u ∈ W, Wd u) ∧ TabsN T H ∧
  ∀ H' p za zb a b, Gr T [] H H' → H' p = some (.tup [.str za, .str zb]) → Pr W hl n za zb a b → Q (.ref p) H'
theorem sc_law_pair : FnScope ["_law_cells", "_law_seed", "_law_words_here", "_law_holes", "_law_scope", "_law_one", "_law_other", "_law_given", "_law_k", "_law_word", "_law_many"] ["_law_cells", "_law_seed", "_law_words_here", "_law_holes"] (defScope s_law_pair) := ⟨rfl, rfl, rfl, by decide +kernel, rfl, by decide +kernel, by decide +kernel⟩
theorem ok_pr (S : Cn K mg base) (n : Nat) (hn4 : 4 ≤ n) (hn300 : n ≤ 300) (hM : Has P w K mg base "_law_mix" 1 ["_law_cell", "_law_place"] [] spMix) (hS : ∀ d, Has P w K mg base "_law_straight" (d + 4) ["_law_cells", "_law_scope", "_law_words_here", "_law_holes", "_law_deep"] [] (spStr8 (TT K) d))
    (hF : Has P w K mg base "_law_few" 3 ["_law_term", "_law_most"] [] (spFew (TT K) 3)) (hFl : Has P w K mg base "filled" (5 + n + n + 1) ["filling", "term"] [] (spFilled (TT K) n n)) (hSh : Has P w K mg base "shown" (2 * n + 3) ["term", "scope"] [.int 0] (spShown (TT K) n)) :
    Has P w K mg base "_law_pair" (2 * n + 7) ["_law_cells", "_law_seed", "_law_words_here", "_law_holes"] [] (spPr (TT K) n) := by
  refine has_of (d := d_law_pair) S 68 48 rfl rfl rfl rfl rfl sc_law_pair (fun vs H Q E h => ?_) (fun _ _ _ _ _ _ us hl => match us, hl with | [_, _, _, _], _ => rfl) (fun f cdv A outer s H vs Q E hr h => ?_)
  · obtain ⟨lc, lw, lh, seed, cs, W, hl, hv, rfl, _⟩ := h
    rfl
  refine ⟨_, (pss_cons (ps_set (i := 4) sc_law_pair.nd rfl (Or.inl rfl) (pe_op op_mod (pe_hs hM hr (by omega) rfl (pa_cons (pv 1) (pa_cons pe_int pa_nil))) pe_int)) (pss_cons (ps_set (i := 5) sc_law_pair.nd rfl (Or.inl rfl) (ixT (pe_hs hF hr (by omega) rfl (pa_cons (ixT (pe_hs (hS 2) hr (by omega) rfl (pa_cons (pe_slice sl_list (pv 0) po_none (po_some pe_int)) (pa_cons (pv 4) (pa_cons (pv 2) (pa_cons (pv 3) (pa_cons pe_int pa_nil))))))) (pa_cons pe_int pa_nil))))) (pss_cons (ps_set (i := 6) sc_law_pair.nd rfl (Or.inl rfl) (ixT (pe_hs hF hr (by omega) rfl (pa_cons (ixT (pe_hs (hS 2) hr (by omega) rfl (pa_cons (pe_op op_cat (pe_slice sl_list (pv 0) (po_some pe_int) (po_some pe_int)) (pe_slice sl_list (pv 0) po_none (po_some pe_int))) (pa_cons (pv 4) (pa_cons (pv 2) (pa_cons (pv 3) (pa_cons pe_int pa_nil))))))) (pa_cons pe_int pa_nil))))) (pss_cons (ps_if (pt_cmpR op_gt (pe_op op_mod (pe_hs hM hr (by omega) rfl (pa_cons (pv 1) (pa_cons pe_int pa_nil))) pe_int) pe_int (nomark _)) (pss_cons (ps_set (i := 7) sc_law_pair.nd rfl (Or.inl rfl) pe_dnewK) (pss_cons (ps_for PassesOwn.never rfl (pi_range1 (by rfl) (S.free 62) (pa_cons pe_int pa_nil)) (pg_name (i := 8) sc_law_pair.nd rfl (Or.inl rfl)) (pss_cons (ps_asg (pe_ix ix_list (pv 3) (pv 8) (fun _ _ => rfl)) (pg_tup rfl (pgs_cons (pg_name (i := 9) sc_law_pair.nd rfl (Or.inl rfl)) (pgs_cons (pg_name (i := 10) sc_law_pair.nd rfl (Or.inl rfl)) pgs_nil)))) (pss_one (ps_if (pt_cmpR op_eq (pe_op op_mod (pe_hs hM hr (by omega) rfl (pa_cons (pv 1) (pa_cons (pe_op op_add pe_int (pv 8)) pa_nil))) pe_int) pe_int (nomark _)) (pss_one (ps_dput (hu_of hr) (pv 7) (pv 9) (pe_tup (pa_cons (pv 10) (pa_cons (ixT (pe_hs hF hr (by omega) rfl (pa_cons (ixT (pe_hs (hS 1) hr (by omega) rfl (pa_cons (pe_slice sl_list (pv 0) (po_some (pv 8)) (po_some (pe_op op_add (pv 8) pe_int))) (pa_cons (pv 10) (pa_cons (pv 2) (pa_cons (pv 3) (pa_cons pe_int pa_nil))))))) (pa_cons pe_int pa_nil)))) pa_nil))) rfl)) pss_nil)))) (pss_one (ps_set (i := 6) sc_law_pair.nd rfl (Or.inl rfl) (pe_hs hFl hr (by omega) rfl (pa_cons (pv 7) (pa_cons (pv 5) pa_nil))))))) pss_nil) (pss_one (ps_ret (pe_tup (pa_cons (pe_hs hSh hr (by omega) rfl (pa_cons (pe_tup (pa_cons pe_str (pa_cons pe_str (pa_cons (pe_tup (pa_cons (pe_tup (pa_cons (pv 4) (pa_cons (pv 5) pa_nil))) pa_nil)) pa_nil)))) pa_nil)) (pa_cons (pe_hs hSh hr (by omega) rfl (pa_cons (pe_tup (pa_cons pe_str (pa_cons pe_str (pa_cons (pe_tup (pa_cons (pe_tup (pa_cons (pv 4) (pa_cons (pv 6) pa_nil))) pa_nil)) pa_nil)))) pa_nil)) pa_nil))))))))), ?_⟩
  obtain ⟨lc, lw, lh, seed, cs, W, hl, hv, rfl, ec, hcs, ew, eh, ah, wh, hl3, hnd, hWd, hT, q⟩ := h
  have hmod : ∀ (x : Int) (m : Int), 0 < m → ∃ k : Nat, x % m = (k : Int) ∧ (k : Int) < m := fun x m hm => ⟨(x % m).toNat, by have := Int.emod_nonneg x (by omega : m ≠ 0); omega, by have := Int.emod_nonneg x (by omega : m ≠ 0); have := Int.emod_lt_of_pos x hm; omega⟩
  obtain ⟨sc, esc, hsc⟩ := hmod (mixF seed 60) 3 (by decide)
  refine ⟨_, rfl, seed, 60, rfl, by decide, _, _, rfl, rfl, (by show (0 : Int) < 3; decide), ?_⟩
  simp only [esc]
  obtain ⟨m1, em1, lm1⟩ := cut_ints cs none (some 5)
  refine ⟨_, rfl, _, rfl, lc, _, rfl, SqL.of ec, fun a1 h1 => ?_⟩
  rw [em1]
  have g1 := Gr.new0 (X := []) (o := .lst (m1.map V.int)) hT h1
  refine ⟨_, rfl, _, rfl, _, rfl, a1, lw, lh, m1, sc, W, hl, hv, rfl, upd_same, g1.lst ew, g1.lst eh, ⟨ah.len, fun j y hy => (let ⟨z, a, b⟩ := ah.get j y hy; ⟨z, a, b.mono g1⟩)⟩, wh, by omega, by omega, g1.tab, fun H2 p2 v2 l2 t2 cs2 g2 ep2 at2 _ _ _ gn2 => ?_⟩
  have gh2 := gn2.ht
  have gd2 : HF.nd t2 ≤ 13 := gn2.nd
  refine ⟨p2, _, 0, _, rfl, rfl, SqT.of ep2, rfl, t2, v2, 2, BW W, rfl, at2, g2.tab, by omega, by omega, BW_r W, fun H3 p3 v3 t3 m3 g3 ep3 at3 fw3 hm3 => ?_⟩
  refine ⟨p3, _, 0, _, rfl, rfl, SqT.of ep3, rfl, ?_⟩
  obtain ⟨in3, nd3⟩ := gn_few gn2 fw3 (by omega)
  have gA := (g1.trans g2).trans g3
  clear ep2 ep3
  obtain ⟨m4, em4, lm4⟩ := cut_ints cs (some 1) (some 5)
  refine ⟨_, rfl, _, rfl, _, rfl, lc, _, rfl, SqL.of (gA.lst ec), fun a4 h4 => ?_⟩
  rw [em4]
  have g4 := Gr.new0 (X := []) (o := .lst (m4.map V.int)) gA.tab h4
  obtain ⟨m5, em5, lm5⟩ := cut_ints cs none (some 1)
  refine ⟨_, rfl, _, rfl, lc, _, rfl, SqL.of (g4.lst (gA.lst ec)), fun a5 h5 => ?_⟩
  rw [em5]
  have g5 := Gr.new0 (X := []) (o := .lst (m5.map V.int)) g4.tab h5
  refine ⟨a4, a5, _, _, rfl, rfl, g5.lst upd_same, upd_same, szl (by rw [List.length_map, List.length_map]; omega), fun a6 h6 => ?_⟩
  rw [← List.map_append]
  have g6 := Gr.new0 (X := []) (o := .lst ((m4 ++ m5).map V.int)) g5.tab h6
  have gB := ((gA.trans g4).trans g5).trans g6
  have gB3 := (g4.trans g5).trans g6
  refine ⟨_, rfl, _, rfl, _, rfl, a6, lw, lh, m4 ++ m5, sc, W, hl, hv, rfl, upd_same, gB.lst ew, gB.lst eh, ⟨ah.len, fun j y hy => (let ⟨z, a, b⟩ := ah.get j y hy; ⟨z, a, b.mono gB⟩)⟩, wh, by rw [List.length_append]; omega, by omega, g6.tab, fun H7 p7 v7 l7 t7 cs7 g7 ep7 at7 _ _ _ gn7 => ?_⟩
  have gh7 := gn7.ht
  have gd7 : HF.nd t7 ≤ 13 := gn7.nd
  refine ⟨p7, _, 0, _, rfl, rfl, SqT.of ep7, rfl, t7, v7, 2, BW W, rfl, at7, g7.tab, by omega, by omega, BW_r W, fun H8 p8 v8 t8 m8 g8 ep8 at8 fw8 hm8 => ?_⟩
  refine ⟨p8, _, 0, _, rfl, rfl, SqT.of ep8, rfl, ?_⟩
  obtain ⟨in8, nd8⟩ := gn_few gn7 fw8 (by omega)
  have gC := (gB.trans g7).trans g8
  have at3 := at3.mono ((gB3.trans g7).trans g8)
  clear ep7 ep8
  have hB : ∀ u ∈ BW W, Wd u := BW_wd hWd
  have hB60 : (BW W).length ≤ 60 := by
    have := wh.lw
    unfold BW
    rw [List.length_append]
    show W.length + 4 ≤ 60
    omega
  refine ⟨_, rfl, seed, 61, rfl, by decide, _, _, rfl, rfl, (by show (0 : Int) < 4; decide), _, _, rfl, rfl, _, rfl, ite2 (fun hc => ?_) (fun hc => ?_)⟩
  case' refine_1 =>
    refine fun d hd => ?_
    have gd := Gr.new0 (X := []) (o := .dK []) gC.tab hd
    refine ⟨_, rfl, by decide, by decide, ?_⟩
    refine for_it (walk_range (lo := 0) (n := 3)) (fun i σ H' => ∃ (o8 o9 o10 : Option V) (kvs : List (Key × V)) (θ : HF.Fl Str), σ = [some (.ref lc), some (.int seed), some (.ref lw), some (.ref lh), some (.int (sc : Int)), some v3, some v8, some (.ref d), o8, o9, o10] ∧ Gr (TT K) [] H8 H' ∧ H' d = some (.dK kvs) ∧ kvs.length ≤ i ∧ AtF H' kvs θ ∧ Fi W hl θ ∧ ∀ x, θ x ≠ Option.none → x ∈ (hl.take i).map (·.1))
      ⟨_, _, _, [], fun _ => Option.none, rfl, gd, upd_same, Nat.le_refl _, ⟨fun z hz => (by cases hz), fun u x hx => (by cases hx)⟩, ⟨fun x k v h => (by cases h)⟩, fun x h => absurd rfl h⟩ (fun _ _ _ _ _ => True.intro) ?_ ?_
    · rintro i x σ H1 H9 hi ⟨o8, o9, o10, kvs, θ, rfl, g9, ed, hkl, af, fi, dom⟩ ⟨rfl, rfl⟩
      have gD := gC.trans g9
      have hlen := ah.len
      have hil : i < hl.length := by omega
      obtain ⟨y, ey⟩ : ∃ y, hv[i]? = some y := ⟨_, List.getElem?_eq_getElem (by omega)⟩
      obtain ⟨z, ez, az, rfl, eaz⟩ := ah.get i y ey
      have eaz := gD.tup _ _ eaz
      have hz := List.mem_of_getElem? ez
      obtain ⟨wz, wz2⟩ := wh.hw z hz
      refine ⟨_, rfl, _, rfl, lh, _, _, _, rfl, rfl, SqL.of (gD.lst eh), at_of (j := i) (by omega) ey, ?_⟩
      refine ⟨az, _, rfl, SqT.of eaz, rfl, _, _, rfl, _, _, rfl, rfl, ?_⟩
      have hfresh : θ z.1 = Option.none := Classical.byContradiction fun hne => by
        obtain ⟨z2, hz2, e2⟩ := List.mem_map.mp (dom z.1 hne)
        obtain ⟨j, hj⟩ := List.mem_iff_getElem?.mp hz2
        have hji : j < i := by
          have := (List.getElem?_eq_some_iff.mp hj).1
          rw [List.length_take] at this
          omega
        rw [List.getElem?_take, if_pos hji] at hj
        have e3 : (hl.map (·.1))[j]? = some z.1 := by rw [List.getElem?_map, hj, ← e2]; rfl
        have e4 : (hl.map (·.1))[i]? = some z.1 := by rw [List.getElem?_map, ez]; rfl
        obtain ⟨b1, b2⟩ := List.getElem?_eq_some_iff.mp e3
        obtain ⟨b3, b4⟩ := List.getElem?_eq_some_iff.mp e4
        have := (List.getElem_inj hnd).mp (b2.trans b4.symm)
        omega
      have htk : ∀ u ∈ (hl.take i).map (·.1), u ∈ (hl.take (i + 1)).map (·.1) := fun u hu => by
        rw [take_snoc ez, List.map_append]
        exact List.mem_append_left _ hu
      refine ⟨_, rfl, _, rfl, _, _, rfl, rfl, seed, 63 + i, by simp, by omega, _, _, rfl, rfl, (by show (0 : Int) < 2; decide), rfl, _, rfl, ite2 (fun hc2 => ?_) (fun hc2 => ?_)⟩
      · refine ⟨_, rfl, ?_⟩
        obtain ⟨m9, em9, lm9⟩ := cut_ints cs (some (0 + (i : Int))) (some (0 + (i : Int) + 2))
        refine ⟨_, rfl, _, rfl, _, rfl, _, rfl, _, _, rfl, rfl, _, rfl, lc, _, rfl, SqL.of (gD.lst ec), fun a9 h9 => ?_⟩
        rw [em9]
        have gE := Gr.new0 (X := []) (o := .lst (m9.map V.int)) g9.tab h9
        have gF := gD.trans gE
        refine ⟨_, rfl, _, rfl, _, rfl, a9, lw, lh, m9, z.2, W, hl, hv, rfl, upd_same, gF.lst ew, gF.lst eh, ⟨ah.len, fun j y hy => (let ⟨z, a, b⟩ := ah.get j y hy; ⟨z, a, b.mono gF⟩)⟩, wh, by omega, by omega, gE.tab, fun Ha pa va la ta ca ga epa ata _ _ _ gna => ?_⟩
        have gha := gna.ht
        have gda : HF.nd ta ≤ 4 := gna.nd
        refine ⟨pa, _, 0, _, rfl, rfl, SqT.of epa, rfl, ta, va, 1, BW W, rfl, ata, ga.tab, by omega, by omega, BW_r W, fun Hb pb vb tb mb gb epb atb fwb hmb => ?_⟩
        refine ⟨pb, _, 0, _, rfl, rfl, SqT.of epb, rfl, szl (by show 2 ≤ 10000000; decide), fun pt hpt => ?_⟩
        have gc := Gr.new0 (X := []) (o := .tup [.int (z.2 : Int), vb]) gb.tab hpt
        have gG := ((gE.trans ga).trans gb).trans gc
        have edG := gG.dK ed
        refine ⟨_, rfl, _, rfl, d, _, rfl, DPut.k (k := Sum.inr z.1) edG (szl' (by omega)), ?_⟩
        have gm : Gr (TT K) [d] _ (upd (upd Hb pt (.tup [.int (z.2 : Int), vb])) d (.dK (putK kvs (.inr z.1) (.ref pt)))) := (Gr.refl gc.tab).mutD (.inr (by simp)) edG
        have f1 := fwb.ht
        have f2 := fwb.nd
        refine ⟨_, _, _, putK kvs (.inr z.1) (.ref pt), fun x => if x = z.1 then some (z.2, tb) else θ x, rfl, (g9.trans gG).mutD (.inl hd) edG, upd_same, Nat.le_trans (length_putK _ _ _) (by omega), ?_, ⟨fun x k v hx => ?_⟩, fun x hx => ?_⟩
        · exact ((af.mono gG).put hfresh upd_same (atb.mono gc)).mono gm
        · by_cases qx : x = z.1
          · rw [if_pos qx] at hx
            have hx := Option.some.inj hx
            have hx1 : z.2 = k := congrArg Prod.fst hx
            have hx2 : tb = v := congrArg Prod.snd hx
            rw [← hx1, ← hx2, qx]
            refine ⟨hz, fwb.c _ gna.c, fwb.st gna.st, fwb.g (gt_up (fun u hu => List.mem_append_left _ hu) gna.g), fun p hp => gna.hs p (fwb.hs p hp), by omega, by omega, by omega⟩
          · rw [if_neg qx] at hx
            exact fi.ok x k v hx
        · by_cases qx : x = z.1
          · rw [take_snoc ez, List.map_append, qx]
            exact List.mem_append_right _ (List.mem_singleton.mpr rfl)
          · simp only [if_neg qx] at hx
            exact htk x (dom x hx)
      · exact ⟨_, _, _, kvs, θ, rfl, g9, ed, by omega, af, fi, fun x hx => htk x (dom x hx)⟩
    · rintro σ H1 ⟨o8, o9, o10, kvs, θ, rfl, g9, ed, hkl, af, fi, dom⟩
      have ft : fit n θ (HF.hs t3) := fun u k hk m t hu => by
        obtain ⟨h1, h2, _, _, _, h6, h7, _⟩ := fi.ok u m t hu
        exact ⟨fn_hl hnd h1 (in3.hs _ hk), h2, by omega, by omega⟩
      have h33 := in3.ht
      refine ⟨_, rfl, _, rfl, d, kvs, θ, t3, v3, rfl, ed, af, at3.mono g9, g9.tab, by omega, by omega, ft, fun v' Hc gc atc => ?_⟩
      have at3 := (at3.mono g9).mono gc
      have in8 := in3.fill hnd nd3 fi
      have gC := (gC.trans g9).trans gc
      have at8 := atc
      have sd3 := in3.sd (by omega : sc ≤ 2)
      have sd8 := in8.sd (by omega : sc ≤ 2)
      have e1 := sd3.nd
      have e2 := sd3.ht
      have e3 := sd8.nd
      have e4 := sd8.ht
      have e5 := sd3.few
      have e6 := sd8.few
      refine ⟨_, rfl, _, rfl, szl (by show 2 ≤ 10000000; decide), fun p1 hp1 => ⟨szl (by show 1 ≤ 10000000; decide), fun p2 hp2 => ⟨szl (by show 3 ≤ 10000000; decide), fun p4 hp4 => ?_⟩⟩⟩
      have k1 := Gr.new0 (X := []) (o := .tup [.int (sc : Int), v3]) gC.tab hp1
      have k2 := Gr.new0 (X := []) (o := .tup [.ref p1]) k1.tab hp2
      have k3 := Gr.new0 (X := []) (o := .tup [.str "sign", .str "s", .ref p2]) k2.tab hp4
      have kk := (k1.trans k2).trans k3
      have atS : At _ (.sign "s" (.cons sc t3 .nil)) (.ref p4) := ⟨p4, p2, [.ref p1], rfl, upd_same, k3.tup _ _ upd_same, p1, v3, [], rfl, k3.tup _ _ (k2.tup _ _ upd_same), at3.mono kk, rfl⟩
      refine ⟨_, _, BW W, rfl, atS, k3.tab, hB, hB60, sd3.g, sd3.c, by omega, by omega, fun Hs bs1 gs sh1 => ?_⟩
      have at8 := (at8.mono kk).mono gs
      refine ⟨_, rfl, _, rfl, szl (by show 2 ≤ 10000000; decide), fun p5 hp5 => ⟨szl (by show 1 ≤ 10000000; decide), fun p6 hp6 => ⟨szl (by show 3 ≤ 10000000; decide), fun p7 hp7 => ?_⟩⟩⟩
      have k5 := Gr.new0 (X := []) (o := .tup [.int (sc : Int), v']) gs.tab hp5
      have k6 := Gr.new0 (X := []) (o := .tup [.ref p5]) k5.tab hp6
      have k7 := Gr.new0 (X := []) (o := .tup [.str "sign", .str "s", .ref p6]) k6.tab hp7
      have kq := (k5.trans k6).trans k7
      have atS2 : At _ (.sign "s" (.cons sc (HF.fil (HF.sg θ) t3) .nil)) (.ref p7) := ⟨p7, p6, [.ref p5], rfl, upd_same, k7.tup _ _ upd_same, p5, v', [], rfl, k7.tup _ _ (k6.tup _ _ upd_same), at8.mono kq, rfl⟩
      refine ⟨_, _, BW W, rfl, atS2, k7.tab, hB, hB60, sd8.g, sd8.c, by omega, by omega, fun Ht bs2 gt2 sh2 => ?_⟩
      refine ⟨szl (by show 2 ≤ 10000000; decide), fun p9 hp9 => ?_⟩
      have gz := Gr.new0 (X := []) (o := .tup [.str (cat (pcs bs1 0 (.sign "s" (.cons sc t3 .nil)))), .str (cat (pcs bs2 0 (.sign "s" (.cons sc (HF.fil (HF.sg θ) t3) .nil))))]) gt2.tab hp9
      refine q _ p9 _ _ _ _ (((((gC.trans kk).trans gs).trans kq).trans gt2).trans gz) upd_same ⟨sd3, sd8, sh1.rp (by omega) (by omega) (sd3.fn hnd) (by omega) (by omega), sh2.rp (by omega) (by omega) (sd8.fn hnd) (by omega) (by omega), by have := len_pcs sh1.w 0 _ sh1.g sh1.c sh1.b; omega, by have := len_pcs sh2.w 0 _ sh2.g sh2.c sh2.b; omega⟩
  have sd3 := in3.sd (by omega : sc ≤ 2)
  have sd8 := in8.sd (by omega : sc ≤ 2)
  have e1 := sd3.nd
  have e2 := sd3.ht
  have e3 := sd8.nd
  have e4 := sd8.ht
  have e5 := sd3.few
  have e6 := sd8.few
  refine ⟨_, rfl, _, rfl, szl (by show 2 ≤ 10000000; decide), fun p1 hp1 => ⟨szl (by show 1 ≤ 10000000; decide), fun p2 hp2 => ⟨szl (by show 3 ≤ 10000000; decide), fun p4 hp4 => ?_⟩⟩⟩
  have k1 := Gr.new0 (X := []) (o := .tup [.int (sc : Int), v3]) gC.tab hp1
  have k2 := Gr.new0 (X := []) (o := .tup [.ref p1]) k1.tab hp2
  have k3 := Gr.new0 (X := []) (o := .tup [.str "sign", .str "s", .ref p2]) k2.tab hp4
  have kk := (k1.trans k2).trans k3
  have atS : At _ (.sign "s" (.cons sc t3 .nil)) (.ref p4) := ⟨p4, p2, [.ref p1], rfl, upd_same, k3.tup _ _ upd_same, p1, v3, [], rfl, k3.tup _ _ (k2.tup _ _ upd_same), at3.mono kk, rfl⟩
  refine ⟨_, _, BW W, rfl, atS, k3.tab, hB, hB60, sd3.g, sd3.c, by omega, by omega, fun Hs bs1 gs sh1 => ?_⟩
  have at8 := (at8.mono kk).mono gs
  refine ⟨_, rfl, _, rfl, szl (by show 2 ≤ 10000000; decide), fun p5 hp5 => ⟨szl (by show 1 ≤ 10000000; decide), fun p6 hp6 => ⟨szl (by show 3 ≤ 10000000; decide), fun p7 hp7 => ?_⟩⟩⟩
  have k5 := Gr.new0 (X := []) (o := .tup [.int (sc : Int), v8]) gs.tab hp5
  have k6 := Gr.new0 (X := []) (o := .tup [.ref p5]) k5.tab hp6
  have k7 := Gr.new0 (X := []) (o := .tup [.str "sign", .str "s", .ref p6]) k6.tab hp7
  have kq := (k5.trans k6).trans k7
  have atS2 : At _ (.sign "s" (.cons sc t8 .nil)) (.ref p7) := ⟨p7, p6, [.ref p5], rfl, upd_same, k7.tup _ _ upd_same, p5, v8, [], rfl, k7.tup _ _ (k6.tup _ _ upd_same), at8.mono kq, rfl⟩
  refine ⟨_, _, BW W, rfl, atS2, k7.tab, hB, hB60, sd8.g, sd8.c, by omega, by omega, fun Ht bs2 gt2 sh2 => ?_⟩
  refine ⟨szl (by show 2 ≤ 10000000; decide), fun p9 hp9 => ?_⟩
  have gz := Gr.new0 (X := []) (o := .tup [.str (cat (pcs bs1 0 (.sign "s" (.cons sc t3 .nil)))), .str (cat (pcs bs2 0 (.sign "s" (.cons sc t8 .nil))))]) gt2.tab hp9
  refine q _ p9 _ _ _ _ (((((gC.trans kk).trans gs).trans kq).trans gt2).trans gz) upd_same ⟨sd3, sd8, sh1.rp (by omega) (by omega) (sd3.fn hnd) (by omega) (by omega), sh2.rp (by omega) (by omega) (sd8.fn hnd) (by omega) (by omega), by have := len_pcs sh1.w 0 _ sh1.g sh1.c sh1.b; omega, by have := len_pcs sh2.w 0 _ sh2.g sh2.c sh2.b; omega⟩
end

end HW
end
section
set_option Elab.async false
set_option linter.all false
set_option maxRecDepth 100000
set_option maxHeartbeats 4000000
namespace HW
open PySem PySem.Spec PyProof.Rows L2 NdefX LamX
/-! ### boards of the law -/
open TL
/-- a side of any pair told here -/
structure Sx (B : List Str) (hl : List (Str × Nat)) (t : HF.T Str) : Prop where
  c : HF.cls 0 t
  st : HF.strt t
  g : gt B t
  hs : ∀ p ∈ HF.hs t, p ∈ hl
  ht : HF.ht t ≤ 4
  nd : HF.nd t ≤ 28
  few : (HF.hs t).length ≤ 2
structure Sp8 (B : List Str) (hl : List (Str × Nat)) (x : HF.Side Str) : Prop where
  z : x.1 = 0
  a : Sx B hl x.2.1
  b : Sx B hl x.2.2
theorem Sd.sx {W : List Str} {hl : List (Str × Nat)} {t : HF.T Str} (h : Sd W hl t) : Sx (BW W) hl t := ⟨h.c, h.st, h.g, h.hs, h.ht, h.nd, h.few⟩
theorem Sx.up {B : List Str} {hl hl' : List (Str × Nat)} (s : ∀ p ∈ hl, p ∈ hl') {t : HF.T Str} (h : Sx B hl t) : Sx B hl' t := ⟨h.c, h.st, h.g, fun p hp => s p (h.hs p hp), h.ht, h.nd, h.few⟩
theorem Sp8.up {B : List Str} {hl hl' : List (Str × Nat)} (s : ∀ p ∈ hl, p ∈ hl') {x : HF.Side Str} (h : Sp8 B hl x) : Sp8 B hl' x := ⟨h.z, h.a.up s, h.b.up s⟩
def ownOf (hl : List (Str × Nat)) (sides : List (HF.Side Str)) : List (Str × Nat) := hl.filter fun p => decide (p ∈ sdsH sides)
theorem mem_own {hl : List (Str × Nat)} {sides : List (HF.Side Str)} {B : List Str} (h : ∀ x ∈ sides, Sp8 B hl x) (p : Str × Nat) : p ∈ ownOf hl sides ↔ p ∈ sdsH sides := by
  unfold ownOf
  rw [List.mem_filter]
  constructor
  · rintro ⟨_, q⟩; exact of_decide_eq_true q
  · intro q
    refine ⟨?_, decide_eq_true q⟩
    obtain ⟨x, hx, hp⟩ := List.mem_flatMap.mp q
    rcases List.mem_append.mp hp with hp | hp
    · exact (h x hx).a.hs p hp
    · exact (h x hx).b.hs p hp
/-- the holes that may stand -/
structure Hl (hl : List (Str × Nat)) (l0 : Nat) : Prop where
  nd : (hl.map (·.1)).Nodup
  le : hl.length ≤ l0
  two : ∀ p ∈ hl, p.2 ≤ 2
theorem mu_le : ∀ {l : List (Str × Nat)}, (∀ p ∈ l, p.2 ≤ 2) → HF.mu l ≤ 3 * l.length
  | [], _ => Nat.le_refl _
  | (w, m) :: r, h => by
    have h1 : m ≤ 2 := h (w, m) List.mem_cons_self
    have h2 := mu_le (l := r) fun p hp => h p (List.mem_cons_of_mem _ hp)
    rw [List.length_cons]
    have e : HF.mu ((w, m) :: r) ≤ 1 + m + HF.mu r := by simp only [HF.mu]; omega
    omega
theorem sds_len {B : List Str} {hl : List (Str × Nat)} : ∀ {l : List (HF.Side Str)}, (∀ x ∈ l, Sp8 B hl x) → (sdsH l).length ≤ 4 * l.length
  | [], _ => Nat.le_refl _
  | x :: r, h => by
    have h1 := h x List.mem_cons_self
    have h2 := sds_len (l := r) fun y hy => h y (List.mem_cons_of_mem _ hy)
    have e : (sdsH (x :: r)).length = (HF.hs x.2.1).length + (HF.hs x.2.2).length + (sdsH r).length := by
      unfold sdsH
      rw [List.flatMap_cons, List.length_append]
      show (HF.hs x.2.1 ++ HF.hs x.2.2).length + _ = _
      rw [List.length_append]
    have h3 := h1.a.few
    have h4 := h1.b.few
    rw [e, List.length_cons]
    omega
theorem prs_of {n l0 : Nat} {B : List Str} {hl : List (Str × Nat)} {sides : List (HF.Side Str)} (H : Hl hl l0) (hl4 : l0 ≤ 4) (h : ∀ x ∈ sides, Sp8 B hl x) (hn : sides.length ≤ 20) : Prs n B 4 28 l0 sides (ownOf hl sides) where
  gs := fun x hx => ⟨(h x hx).a.g, (h x hx).b.g⟩
  bd := fun x hx => ⟨⟨(h x hx).a.ht, (h x hx).a.few, (h x hx).a.nd⟩, ⟨(h x hx).b.ht, (h x hx).b.few, (h x hx).b.nd⟩⟩
  sd := fun x hx => ⟨(h x hx).a.st, (h x hx).b.st, by rw [(h x hx).z]; exact (h x hx).a.c, by rw [(h x hx).z]; exact (h x hx).b.c,
    fun p hp => (mem_own h p).mpr (List.mem_flatMap.mpr ⟨x, hx, List.mem_append_left _ hp⟩), fun p hp => (mem_own h p).mpr (List.mem_flatMap.mpr ⟨x, hx, List.mem_append_right _ hp⟩)⟩
  nd := List.Nodup.sublist (List.filter_sublist.map _) H.nd
  mem := mem_own h
  le := Nat.le_trans (List.length_filter_le _ _) H.le
  few := by have := sds_len h; omega
  num := by omega
  mu := by
    have h1 := mu_le (l := ownOf hl sides) fun p hp => H.two p (List.mem_filter.mp hp).1
    have h2 : (ownOf hl sides).length ≤ hl.length := List.length_filter_le _ _
    have h3 := H.le
    omega
/-- the pairs can all be made the same -/
def Un (sides : List (HF.Side Str)) : Prop := HF.Unif sides (sdsH sides)
theorem un_own {B : List Str} {hl : List (Str × Nat)} {sides : List (HF.Side Str)} (h : ∀ x ∈ sides, Sp8 B hl x) : HF.Unif sides (ownOf hl sides) ↔ Un sides :=
  ⟨fun u => u.mono (fun _ h => h) fun p hp => (mem_own h p).mpr hp, fun u => u.mono (fun _ h => h) fun p hp => (mem_own h p).mp hp⟩
theorem un_sub {s s' : List (HF.Side Str)} (h : Un s) (hs : ∀ x ∈ s', x ∈ s) : Un s' := HF.Unif.mono h hs fun p hp => (let ⟨x, hx, q⟩ := List.mem_flatMap.mp hp; List.mem_flatMap.mpr ⟨x, hs x hx, q⟩)
theorem sds_snoc (l : List (HF.Side Str)) (x : HF.Side Str) : sdsH (l ++ [x]) = sdsH l ++ (HF.hs x.2.1 ++ HF.hs x.2.2) := by simp [sdsH, sdH]
/-- one pair more, whose new hole can be filled -/
theorem un_ext {sides : List (HF.Side Str)} {x : HF.Side Str} {w : Str} {m : Nat} (hU : Un sides) (fr : ∀ c, (w, c) ∉ sdsH sides) (F : (Str → Option (HF.T Str)) → HF.T Str)
    (hF : ∀ θ, HF.gd θ (sdsH sides) → HF.hs (F θ) = [] ∧ HF.cls m (F θ)) (hsub : ∀ p ∈ HF.hs x.2.1 ++ HF.hs x.2.2, p = (w, m) ∨ p ∈ sdsH sides)
    (hx : ∀ θ θ', HF.gd θ (sdsH sides) → (∀ y, y ≠ w → θ' y = θ y) → θ' w = some (F θ) → HF.fil θ' x.2.1 = HF.fil θ' x.2.2) : Un (sides ++ [x]) := by
  obtain ⟨θ, g, e⟩ := hU
  let θ' : Str → Option (HF.T Str) := fun y => if y = w then some (F θ) else θ y
  have h1 : ∀ y, y ≠ w → θ' y = θ y := fun y hy => if_neg hy
  have h2 : θ' w = some (F θ) := if_pos rfl
  have hne : ∀ p ∈ sdsH sides, p.1 ≠ w := fun p hp z => fr p.2 (by rw [← z]; exact hp)
  refine ⟨θ', fun y k hk => ?_, fun s hs => ?_⟩
  · rw [sds_snoc] at hk
    have alt : (y, k) = (w, m) ∨ (y, k) ∈ sdsH sides := (List.mem_append.mp hk).elim .inr fun q => hsub _ q
    rcases alt with q | q
    · obtain ⟨a, b⟩ := hF θ g
      have q1 : y = w := congrArg Prod.fst q
      have q2 : k = m := congrArg Prod.snd q
      subst q1 q2
      exact ⟨F θ, h2, a, b⟩
    · obtain ⟨u, a, b⟩ := g y k q
      exact ⟨u, by rw [h1 y (hne _ q)]; exact a, b⟩
  · rcases List.mem_append.mp hs with q | q
    · have c1 : HF.fil θ' s.2.1 = HF.fil θ s.2.1 := HF.fil_congr _ fun y k hk => h1 y (hne (y, k) (List.mem_flatMap.mpr ⟨s, q, List.mem_append_left _ hk⟩))
      have c2 : HF.fil θ' s.2.2 = HF.fil θ s.2.2 := HF.fil_congr _ fun y k hk => h1 y (hne (y, k) (List.mem_flatMap.mpr ⟨s, q, List.mem_append_right _ hk⟩))
      rw [c1, c2]; exact e s q
    · rw [List.mem_singleton.mp q]
      exact hx θ θ' g h1 h2
theorem no_head {sides : List (HF.Side Str)} {x : HF.Side Str} {u v : Str} {ps qs : HF.Ts Str} (h1 : x.2.1 = .sign u ps) (h2 : x.2.2 = .sign v qs) (ne : u ≠ v) : ¬ Un (sides ++ [x]) := by
  rintro ⟨θ, _, e⟩
  have := e x (List.mem_append_right _ (List.mem_singleton.mpr rfl))
  rw [h1, h2] at this
  simp only [HF.fil] at this
  exact ne (HF.T.sign.inj this).1

end HW
end
section
set_option Elab.async false
set_option linter.all false
set_option maxRecDepth 100000
set_option maxHeartbeats 4000000
namespace HW
open PySem PySem.Spec PyProof.Rows L2 NdefX LamX
/-! ### _law_told -/
open TL
abbrev PrR := Str × Str × HF.Side Str
def PrAt (H : Hp) (y : PrR) (v : V) : Prop := ∃ a, v = .ref a ∧ H a = some (.tup [.str y.1, .str y.2.1])
theorem PrAt.mono {T : List NTab} {X : List Addr} {H H1 : Hp} (g : Gr T X H H1) {y : PrR} {v : V} (h : PrAt H y v) : PrAt H1 y v := (let ⟨a, e, h1⟩ := h; ⟨a, e, g.tup _ _ h1⟩)
def sdOf (prs : List PrR) : List (HF.Side Str) := prs.map (·.2.2)
/-- a told pair is good -/
structure Gp (W : List Str) (hl : List (Str × Nat)) (n : Nat) (y : PrR) : Prop where
  z : y.2.2.1 = 0
  p : Pr W hl n y.1 y.2.1 y.2.2.2.1 y.2.2.2.2
theorem Gp.sp {W : List Str} {hl : List (Str × Nat)} {n : Nat} {y : PrR} (h : Gp W hl n y) : Sp8 (BW W) hl y.2.2 := ⟨h.z, h.p.sa.sx, h.p.sb.sx⟩
theorem sp_all {W : List Str} {hl : List (Str × Nat)} {n : Nat} {prs : List PrR} (h : ∀ y ∈ prs, Gp W hl n y) : ∀ x ∈ sdOf prs, Sp8 (BW W) hl x := fun x hx => (let ⟨y, hy, e⟩ := List.mem_map.mp hx; e ▸ (h y hy).sp)
theorem sp_take {W : List Str} {hl : List (Str × Nat)} {n : Nat} {prs : List PrR} (h : ∀ y ∈ prs, Gp W hl n y) (i : Nat) : ∀ x ∈ (sdOf prs).take i, Sp8 (BW W) hl x := fun x hx => sp_all h x (List.mem_of_mem_take hx)
theorem row_pair (za zb : Str) : ("pair " : Str) ++ za ++ " = " ++ zb = "pair" ++ " " ++ (za ++ " = " ++ zb) := by
  have e : ("pair " : Str) = "pair" ++ " " := by decide +kernel
  rw [e]
  exact ext_tl (by simp only [tl_append, List.append_assoc])
theorem row_stands (za zb : Str) : ("stands " : Str) ++ za ++ " = " ++ zb = "stands" ++ " " ++ (za ++ " = " ++ zb) := by
  have e : ("stands " : Str) = "stands" ++ " " := by decide +kernel
  rw [e]
  exact ext_tl (by simp only [tl_append, List.append_assoc])
theorem row_fill (za : Str) : ("fill " : Str) ++ za = "fill" ++ " " ++ za := by
  have e : ("fill " : Str) = "fill" ++ " " := by decide +kernel
  rw [e]
section
variable {P : Program} {w : World} {K : PySem.W.Frag} {mg : Str → Option Value} {base : Heap}
structure Ans (sides : List (HF.Side Str)) (as : List Str) : Prop where
  len : as.length = sides.length
  yes : ∀ (i : Nat) (u : Str), as[i]? = some u → (u = "filled" ∧ Un (sides.take (i + 1))) ∨ (u = "clash" ∧ ¬ Un (sides.take (i + 1)))
def spTold8 (K : PySem.W.Frag) (T : List NTab) (n : Nat) (W : List Str) (hl : List (Str × Nat)) : Sp := fun vs H Q _ => ∃ (k kdx b dx l r lp : Addr) (prs : List PrR) (pv : List V), vs = [.ref k, .ref lp] ∧ DkAt K H k kdx b dx l r [] [] ∧ H lp = some (.lst pv) ∧ AtI PrAt H prs pv ∧ lp ≠ l ∧ Hl hl 4 ∧ (∀ y ∈ prs, Gp W hl n y) ∧ prs.length ≤ 10 ∧ TabsN T H ∧
  ∀ H' p as sxs, Gr T [l] H H' → H p = Option.none → H' p = some (.lst (as.map V.str)) → Ans (sdOf prs) as → DkAt K H' k kdx b dx l r sxs (sdOf prs) → Q (.ref p) H'
theorem sc_law_told : FnScope ["_law_desk", "_law_pairs", "_law_answers", "_law_one", "_law_other"] ["_law_desk", "_law_pairs"] (defScope s_law_told) := ⟨rfl, rfl, rfl, by decide +kernel, rfl, by decide +kernel, by decide +kernel⟩
theorem ok_told8 (S : Cn K mg base) (n : Nat) (W : List Str) (hl : List (Str × Nat)) (hn : n ≤ 300) (hS : C8.Met P w K mg base (3 * n + 21) (He.ga K "Desk") "say" (spSPair K (TT K) n (BW W) 4 28 4) []) :
    Has P w K mg base "_law_told" (3 * n + 22) ["_law_desk", "_law_pairs"] [] (spTold8 K (TT K) n W hl) := by
  refine has_of (d := d_law_told) S 69 49 rfl rfl rfl rfl rfl sc_law_told (fun vs H Q E h => ?_) (fun _ _ _ _ _ _ us hl => match us, hl with | [_, _], _ => rfl) (fun f cdv A outer s H vs Q E hr h => ?_)
  · obtain ⟨k, kdx, b, dx, l, r, lp, prs, pv, rfl, _⟩ := h
    rfl
  refine ⟨_, (pss_cons (ps_set (i := 2) sc_law_told.nd rfl (Or.inl rfl) (pe_lst pa_nil)) (pss_cons (ps_for PassesOwn.never rfl (pi_list (pv 1)) (pg_tup rfl (pgs_cons (pg_name (i := 3) sc_law_told.nd rfl (Or.inl rfl)) (pgs_cons (pg_name (i := 4) sc_law_told.nd rfl (Or.inl rfl)) pgs_nil))) (pss_one (ps_expr (pe_bm PySem.F.plainAttrs_list PySem.F.slot_list_append PySem.F.type_list_append mt_append (pv 2) (pa_cons (C8.pe_mt hS hr (by omega) (pv 0) (pa_cons (pe_op op_add_str (pe_op op_add_str (pe_op op_add_str pe_str (pv 3)) pe_str) (pv 4)) pa_nil)) pa_nil))))) (pss_one (ps_ret (pv 2))))), ?_⟩
  obtain ⟨k, kdx, b, dx, l, r, lp, prs, pv, rfl, dk, el, api, nlp, hH, hg, hlen, hT, q⟩ := h
  refine ⟨szl (by decide), fun la hla => ?_⟩
  have g0 := Gr.new0 (X := []) (o := .lst []) hT hla
  have nla : la ≠ l := fun z => by rw [z, dk.bd.lst] at hla; cases hla
  have hpl := api.len
  refine ⟨_, rfl, lp, rfl, ⟨_, SqL.of (g0.lst el)⟩, ?_⟩
  refine for_list (K := K) (a := lp) (xs := pv) (fun i σ H' => ∃ (o1 o2 : Option V) (as : List Str) (sxs : List V), σ = [some (.ref k), some (.ref lp), some (.ref la), o1, o2] ∧ Gr (TT K) [l] H H' ∧ H' la = some (.lst (as.map V.str)) ∧ as.length = i ∧ (∀ (j : Nat) (u : Str), as[j]? = some u → (u = "filled" ∧ Un ((sdOf prs).take (j + 1))) ∨ (u = "clash" ∧ ¬ Un ((sdOf prs).take (j + 1)))) ∧ DkAt K H' k kdx b dx l r sxs ((sdOf prs).take i))
    ⟨_, _, [], [], rfl, g0.wide, upd_same, rfl, fun j u h => by simp at h, dk.mono g0⟩ (fun i σ H' _ ⟨_, _, _, _, _, g, _⟩ => SqL.of (g.lst el (by simp; exact nlp))) ?_ ?_
  · rintro i x σ H1 hx ⟨o1, o2, as, sxs, rfl, g, ela, hal, has, dk1⟩
    obtain ⟨y, ey, a, rfl, ea⟩ := api.get i x hx
    have ea := g.tup _ _ ea
    have hy := hg y (List.mem_of_getElem? ey)
    have eyt : (sdOf prs)[i]? = some y.2.2 := by unfold sdOf; rw [List.getElem?_map, ey] <;> rfl
    have etk : (sdOf prs).take (i + 1) = (sdOf prs).take i ++ [y.2.2] := take_snoc eyt
    have hil : i < prs.length := (List.getElem?_eq_some_iff.mp ey).1
    have sl : (sdOf prs).length = prs.length := List.length_map _
    have l1 := hy.p.ra.rx.sz
    have l2 := hy.p.rb.rx.sz
    have l3 : (" = " : Str).length = 3 := by decide +kernel
    have l4 : ("pair " : Str).length = 5 := by decide +kernel
    refine ⟨a, _, rfl, SqT.of ea, rfl, _, _, rfl, _, _, rfl, rfl, ?_⟩
    refine ⟨_, rfl, .inl ⟨rfl, _, SqL.of ela⟩, ?_⟩
    refine ⟨_, rfl, k, _, _, rfl, dk1.ins, rfl, _, rfl, _, _, rfl, rfl, szl (by omega), _, _, rfl, rfl, szl (by rw [len_app]; omega), _, rfl, _, _, rfl, rfl, szl (by rw [len_app, len_app]; omega), ?_⟩
    have h1 := sp_take hg (i := i)
    have h2 := sp_take hg (i := i + 1)
    rw [etk] at h2
    have p1 := prs_of (n := n) hH (Nat.le_refl 4) h1 (by rw [List.length_take]; omega)
    have p2 := prs_of (n := n) hH (Nat.le_refl 4) h2 (by rw [List.length_append, List.length_take, List.length_singleton]; omega)
    refine ⟨k, _, y.1 ++ " = " ++ y.2.1, rfl, row_pair _ _, by rw [len_app, len_app]; omega, g.tab, ?_⟩
    refine ⟨k, kdx, b, dx, l, r, sxs, _, _, _, y.2.2, y.1, y.2.1, rfl, dk1, ⟨hy.z, hy.p.ra.rx, hy.p.rb.rx⟩, g.tab, p1, p2, fun H2 v g2 dk2 => ?_⟩
    rw [un_own h2]
    have gx := g.trans g2
    have ela2 := g2.lst ela (by simp; exact nla)
    have hal2 : (as.map V.str).length < sizeLine := szl' (by rw [List.length_map]; omega)
    have fin : ∀ u : Str, ((u = "filled" ∧ Un ((sdOf prs).take (i + 1))) ∨ (u = "clash" ∧ ¬ Un ((sdOf prs).take (i + 1)))) → ∀ (j : Nat) (u' : Str), (as ++ [u])[j]? = some u' → (u' = "filled" ∧ Un ((sdOf prs).take (j + 1))) ∨ (u' = "clash" ∧ ¬ Un ((sdOf prs).take (j + 1))) := fun u hu j u' hj => by
      by_cases q : j < as.length
      · rw [List.getElem?_append_left q] at hj
        exact has j u' hj
      · rw [List.getElem?_append_right (by omega)] at hj
        have ej : j = i := by
          have := (List.getElem?_eq_some_iff.mp hj).1
          simp at this
          omega
        rw [show j - as.length = 0 by omega] at hj
        have hj : u = u' := Option.some.inj hj
        rw [← hj, ej]
        exact hu
    refine ⟨fun hno => ?_, fun hyes => ?_⟩
    · refine ⟨la, _, _, rfl, rfl, ela2, hal2, ?_⟩
      have g9 := gx.mutL (o := .lst (as.map V.str ++ [.str "clash"])) (.inl hla) ela2
      have gm : Gr (TT K) [la] H2 (upd H2 la (.lst (as.map V.str ++ [.str "clash"]))) := (Gr.refl g2.tab).mutL (.inr (by simp)) ela2
      refine ⟨_, _, as ++ [("clash" : Str)], sxs ++ [v], rfl, g9, by rw [upd_same, List.map_append] <;> rfl, by rw [List.length_append, hal]; rfl, fin "clash" (.inr ⟨rfl, by rw [etk]; exact hno⟩), ?_⟩
      rw [etk]
      refine ⟨?_, ?_, ?_, dk2.bd.sds.mono gm⟩
      · rw [upd_ne (ne_of dk2.ins ela2 fun z => by cases z)]; exact dk2.ins
      · rw [upd_ne (ne_of dk2.bd.ins ela2 fun z => by cases z)]; exact dk2.bd.ins
      · rw [upd_ne nla.symm]; exact dk2.bd.lst
    · refine ⟨la, _, _, rfl, rfl, ela2, hal2, ?_⟩
      have g9 := gx.mutL (o := .lst (as.map V.str ++ [.str "filled"])) (.inl hla) ela2
      have gm : Gr (TT K) [la] H2 (upd H2 la (.lst (as.map V.str ++ [.str "filled"]))) := (Gr.refl g2.tab).mutL (.inr (by simp)) ela2
      refine ⟨_, _, as ++ [("filled" : Str)], sxs ++ [v], rfl, g9, by rw [upd_same, List.map_append] <;> rfl, by rw [List.length_append, hal]; rfl, fin "filled" (.inl ⟨rfl, by rw [etk]; exact hyes⟩), ?_⟩
      rw [etk]
      refine ⟨?_, ?_, ?_, dk2.bd.sds.mono gm⟩
      · rw [upd_ne (ne_of dk2.ins ela2 fun z => by cases z)]; exact dk2.ins
      · rw [upd_ne (ne_of dk2.bd.ins ela2 fun z => by cases z)]; exact dk2.bd.ins
      · rw [upd_ne nla.symm]; exact dk2.bd.lst
  · rintro σ H1 ⟨o1, o2, as, sxs, rfl, g, ela, hal, has, dk1⟩
    have sl : (sdOf prs).length = prs.length := List.length_map _
    rw [hpl, ← sl, List.take_length] at dk1
    exact ⟨_, rfl, q H1 la as sxs g hla ela ⟨by omega, has⟩ dk1⟩
end

end HW
end
section
set_option Elab.async false
set_option linter.all false
set_option maxRecDepth 100000
set_option maxHeartbeats 4000000
namespace HW
open PySem PySem.Spec PyProof.Rows L2 NdefX LamX
/-! ### _law_shut -/
open TL
section
variable {P : Program} {w : World} {K : PySem.W.Frag} {mg : Str → Option Value} {base : Heap}
def spShut (K : PySem.W.Frag) (T : List NTab) (n : Nat) (B : List Str) : Sp := fun vs H Q _ => ∃ (k kdx b dx l r : Addr) (sxs : List V) (sides : List (HF.Side Str)) (own : List (Str × Nat)) (t : Tm) (z : Str), vs = [.ref k, .str z] ∧ DkAt K H k kdx b dx l r sxs sides ∧ Rx B n t z ∧ TabsN T H ∧ Prs n B 4 28 4 sides own ∧ ¬ HF.Unif sides own ∧ fnl (sdsH sides ++ HF.hs t) ∧ (HF.hs t).length ≤ 400 ∧
  ∀ H', Gr T [] H H' → Q (.bl true) H'
theorem sc_law_shut : FnScope ["_law_desk", "_law_one", "_law_shut_here"] ["_law_desk", "_law_one"] (defScope s_law_shut) := ⟨rfl, rfl, rfl, by decide +kernel, rfl, by decide +kernel, by decide +kernel⟩
theorem ok_shut (S : Cn K mg base) (n : Nat) (B : List Str) (hS : MetX P w K mg base (3 * n + 21) (He.ga K "Desk") "say" (spSFillX K (TT K) n B 4 28 4)) :
    Has P w K mg base "_law_shut" (3 * n + 22) ["_law_desk", "_law_one"] [] (spShut K (TT K) n B) := by
  refine has_of (d := d_law_shut) S 71 51 rfl rfl rfl rfl rfl sc_law_shut (fun vs H Q E h => ?_) (fun _ _ _ _ _ _ us hl => match us, hl with | [_, _], _ => rfl) (fun f cdv A outer s H vs Q E hr h => ?_)
  · obtain ⟨k, kdx, b, dx, l, r, sxs, sides, own, t, z, rfl, _⟩ := h
    rfl
  refine ⟨_, (pss_cons (ps_set (i := 2) sc_law_shut.nd rfl (Or.inl rfl) pe_bl) (pss_cons (ps_try_only (c := .ref (He.ga K "Clash")) rfl rfl ⟨rfl, by decide, .inl (S.glo 56)⟩ L2.takes0 (fun W pn xe tk _ => pss_one (ps_expr (pe_mtS (E := WE W) hS hr (by omega) (fun σ => passAt tk σ) (pv 0) (pa_cons (pe_op op_add_str pe_str (pv 1)) pa_nil)))) (fun a oe cls d pn _ _ => pss_one (ps_set (i := 2) sc_law_shut.nd rfl (Or.inl rfl) pe_bl))) (pss_one (ps_ret (pv 2))))), ?_⟩
  obtain ⟨k, kdx, b, dx, l, r, sxs, sides, own, t, z, rfl, dk, rx, hT, pr, hu, fn2, few, q⟩ := h
  have l4 : ("fill " : Str).length = 5 := by decide +kernel
  have l1 := rx.sz
  refine ⟨_, rfl, k, _, _, rfl, dk.ins, rfl, _, rfl, _, _, rfl, rfl, szl (by omega), ?_⟩
  refine ⟨k, _, z, rfl, row_fill z, by omega, hT, ?_⟩
  refine ⟨k, kdx, b, dx, l, r, sxs, sides, own, t, z, rfl, dk, rx, hT, pr, hu, fn2, few, fun H1 g1 => ?_⟩
  refine ⟨true, S.exmClash, fun _ a ha => ?_, fun q => Bool.noConfusion q⟩
  exact ⟨_, rfl, q H1 g1⟩
end

end HW
end
section
set_option Elab.async false
set_option linter.all false
set_option maxRecDepth 100000
set_option maxHeartbeats 4000000
namespace HW
open PySem PySem.Spec PyProof.Rows L2 NdefX LamX
/-! ### _law_filled_alike -/
open TL
theorem Gd.one {u : Str} (h : Wd u) : Gd false [u] true := .inl ⟨h, rfl, rfl⟩
theorem rp_plain {B : List Str} {n : Nat} {u : Str} (h : Wd u) (hB : u ∈ B) (hn : 1 ≤ n) (hb : 2 * n ≤ 700) : Rp B n (.sign u .nil) u := by
  have e : u = cat [u] := (cat_one u).symm
  have := rp_of (B := B) (n := n) (t := .sign u .nil) (ps := [u]) (Gd.one h) ⟨h, .inl ⟨rfl, nb_cons_w h, by simp⟩⟩ (by rw [cat_one]; have := h.few; omega) (by show 1 + 0 ≤ n; omega) ⟨hB, ⟨by show 0 ≤ 3; omega, fun z hz => (by cases hz)⟩, trivial⟩ (by show 1 + 0 ≤ 1000000; decide) (fun x c d hx => by cases hx) (by show 0 ≤ 100000; decide) hb
  rw [cat_one] at this
  exact this
theorem rp_hole {B : List Str} {n : Nat} {u : Str} (h : Wd u) (hn : 2 ≤ n) (hb : 2 * n ≤ 700) : Rp B n (.hole u []) ("?" ++ u) := by
  have e : "?" ++ u = cat [mQ, u] := by show _ = mQ ++ cat [u]; rw [cat_one]
  rw [e]
  refine rp_of (b := true) (.inr ⟨sn7, .inl ⟨h, rfl, rfl⟩⟩) ⟨h, .inl ⟨rfl, by rw [nb_mark mQ_ne, nb_cons_w h] <;> rfl⟩⟩ ?_ (by show 2 ≤ n; omega) h (by show 1 + 0 ≤ 1000000; decide) (fun x c d h1 h2 => ?_) (by show 1 ≤ 100000; decide) hb
  · rw [← e, len_app]
    have := h.few
    have : ("?" : Str).length = 1 := by decide +kernel
    omega
  · have h1 := congrArg Prod.snd (List.mem_singleton.mp h1)
    have h2 := congrArg Prod.snd (List.mem_singleton.mp h2)
    exact h1.trans h2.symm
/-- two terms behind t( .. ) -/
theorem rp_t {B : List Str} {n : Nat} {a b : HF.T Str} {za zb : Str} (ra : Rp B n a za) (rb : Rp B n b zb) (ht : ("t" : Str) ∈ B) (h1 : HF.ht a + 1 ≤ n) (h2 : HF.ht b + 1 ≤ n) (n1 : HF.nd a ≤ 400000) (n2 : HF.nd b ≤ 400000) (s1 : za.length ≤ 400000) (s2 : zb.length ≤ 400000)
    (f : fnl (HF.hs a ++ HF.hs b)) (l1 : (HF.hs a).length ≤ 40000) (l2 : (HF.hs b).length ≤ 40000) : Rp B n (.sign "t" (.cons 0 a (.cons 0 b .nil))) ("t(" ++ za ++ ", " ++ zb ++ ")") := by
  obtain ⟨pa, b1, ea, ga, da⟩ := ra.pc
  obtain ⟨pb, b2, eb, gb, db⟩ := rb.pc
  have ez : ("t(" : Str) ++ za ++ ", " ++ zb ++ ")" = cat ([("t" : Str), mO] ++ pa ++ [mK, mB] ++ pb ++ [mC]) := by
    rw [cat_app, cat_app, cat_app, cat_app, cat_one, cat_KB, ea, eb]
    have e2 : cat [("t" : Str), mO] = "t(" := by decide +kernel
    rw [e2]
  have g1 : Gd false [("t" : Str), mO] false := .inl ⟨wd_t, rfl, .inr ⟨sn1, rfl⟩⟩
  have g2 : Gd b1 [mK, mB] false := .inr ⟨sn5, .inr ⟨sn8, rfl⟩⟩
  have g3 : Gd b2 [mC] false := .inr ⟨sn2, rfl⟩
  have gg := ((((g1.app ga).app g2).app gb).app g3)
  have hsz : (("t(" : Str) ++ za ++ ", " ++ zb ++ ")").length ≤ 1000000 := by
    rw [len_app, len_app, len_app, len_app]
    have e1 : ("t(" : Str).length = 2 := by decide +kernel
    have e2 : (", " : Str).length = 2 := by decide +kernel
    have e3 : (")" : Str).length = 1 := by decide +kernel
    omega
  have ehs : HF.hs (.sign "t" (.cons 0 a (.cons 0 b .nil)) : HF.T Str) = HF.hs a ++ HF.hs b := by show HF.hs a ++ (HF.hs b ++ []) = _; rw [List.append_nil]
  have rbn : RdB [] [] 0 := ⟨rfl, fun u hu => (by cases hu), List.nodup_nil⟩
  rw [ez] at hsz ⊢
  refine rp_of gg ⟨wd_t, .inr ⟨nb pa ++ mK :: nb pb, ?_, [], nb pa, rbn, da, .inr ⟨nb pb, rfl, [], nb pb, rbn, db, .inl ⟨rfl, rfl⟩⟩⟩⟩ hsz ?_ ⟨ht, ⟨by show 2 ≤ 3; decide, fun z hz => ?_⟩, ra.rx.g, rb.rx.g, trivial⟩ ?_ (by rw [ehs]; exact f) (by rw [ehs, List.length_append]; omega) ra.rx.b
  · rw [nb_app, nb_app, nb_app, nb_app, nb_cons_w wd_t, nb_mark mO_ne, nb_mark mK_ne, nb_mark mC_ne, nb_blank]
    simp [nb]
  · show 1 + Nat.max (HF.ht a) (Nat.max (HF.ht b) 0) ≤ n
    have : Nat.max (HF.ht a) (Nat.max (HF.ht b) 0) ≤ n - 1 := Nat.max_le.mpr ⟨by omega, Nat.max_le.mpr ⟨by omega, by omega⟩⟩
    omega
  · rcases List.mem_cons.mp (show z ∈ [(0, a), (0, b)] from hz) with e | e
    · rw [e]; exact Nat.zero_le _
    · rw [List.mem_singleton.mp e]; exact Nat.zero_le _
  · show 1 + (HF.nd a + (HF.nd b + 0)) ≤ 1000000
    omega
theorem rp_ta {B : List Str} {n : Nat} (ht : ("t" : Str) ∈ B) (ha : ("a" : Str) ∈ B) (hn : 2 ≤ n) (hb : 2 * n ≤ 700) : Rp B n (.sign "t" (.cons 0 (.sign "a" .nil) .nil)) "t(a)" := by
  have e : ("t(a)" : Str) = cat [("t" : Str), mO, "a", mC] := by decide +kernel
  rw [e]
  have rbn : RdB [] [] 0 := ⟨rfl, fun u hu => (by cases hu), List.nodup_nil⟩
  refine rp_of (b := false) (.inl ⟨wd_t, rfl, .inr ⟨sn1, .inl ⟨wd_a, rfl, .inr ⟨sn2, rfl⟩⟩⟩⟩) ⟨wd_t, .inr ⟨["a"], ?_, [], ["a"], rbn, ⟨wd_a, .inl ⟨rfl, rfl, by simp⟩⟩, .inl ⟨rfl, rfl⟩⟩⟩ (by decide +kernel) (by show 1 + Nat.max (1 + 0) 0 ≤ n; exact hn) ⟨ht, ⟨by show 1 ≤ 3; decide, fun z hz => ?_⟩, ⟨ha, ⟨by show 0 ≤ 3; decide, fun z hz => (by cases hz)⟩, trivial⟩, trivial⟩ (by show 1 + (1 + 0 + 0) ≤ 1000000; decide) (fun x c d hx => by cases hx) (by show 0 ≤ 100000; decide) hb
  · decide +kernel
  · rw [List.mem_singleton.mp (show z ∈ [(0, (.sign "a" .nil : HF.T Str))] from hz)]; exact Nat.zero_le _
/-- what a filling of the desk's pairs does to a side -/
structure Fd (B : List Str) (n e : Nat) (A : HF.T Str) : Prop where
  c : HF.cls 0 A
  ht : HF.ht A ≤ HF.hB 4 e
  nd : HF.nd A ≤ HF.nB 28 e
  hs : (HF.hs A).length ≤ HF.oB e
theorem fld_side {n l0 : Nat} {B : List Str} {hl : List (Str × Nat)} {sides : List (HF.Side Str)} {own : List (Str × Nat)} {σ : HF.Fl Str} (sp : ∀ x ∈ sides, Sp8 B hl x) (mo : ∀ p, p ∈ sdsH sides → p ∈ own) (fld : Fld n B 4 28 l0 sides own σ) {x : HF.Side Str} (hx : x ∈ sides) :
    ∃ (e : Nat) (L : List (Str × Nat)), e ≤ l0 ∧ (L.map (·.1)).Nodup ∧ (Fd B n e (HF.fil (HF.sg σ) x.2.1) ∧ ∀ p ∈ HF.hs (HF.fil (HF.sg σ) x.2.1), p ∈ L) ∧ Fd B n e (HF.fil (HF.sg σ) x.2.2) ∧ ∀ p ∈ HF.hs (HF.fil (HF.sg σ) x.2.2), p ∈ L := by
  obtain ⟨_, _, _, made, L, e, I⟩ := fld
  obtain ⟨b1, b2⟩ := I.bd x hx
  have s := sp x hx
  have h1 : ∀ p ∈ HF.hs x.2.1, p ∈ own := fun p hp => mo p (List.mem_flatMap.mpr ⟨x, hx, List.mem_append_left _ hp⟩)
  have h2 : ∀ p ∈ HF.hs x.2.2, p ∈ own := fun p hp => mo p (List.mem_flatMap.mpr ⟨x, hx, List.mem_append_right _ hp⟩)
  have hle := I.le
  exact ⟨e, L, by omega, I.lf, ⟨⟨I.cls s.a.c h1, b1.ht, b1.nd, b1.oc⟩, I.holes h1⟩, ⟨I.cls s.b.c h2, b2.ht, b2.nd, b2.oc⟩, I.holes h2⟩
theorem hB_vals : HF.hB 4 3 = 32 ∧ HF.hB 4 4 = 64 ∧ HF.nB 28 3 = 7140 ∧ HF.nB 28 4 = 1834980 ∧ HF.oB 3 = 256 := by decide +kernel
theorem oB_le {e l : Nat} (h : e ≤ l) : HF.oB e ≤ HF.oB l := by
  induction h with
  | refl => exact Nat.le_refl _
  | step _ ih => exact Nat.le_trans ih (by show HF.oB _ ≤ HF.oB _ * HF.oB _; exact Nat.le_mul_of_pos_right _ (HF.oB_pos _))

end HW
end
section
set_option Elab.async false
set_option linter.all false
set_option maxRecDepth 100000
set_option maxHeartbeats 4000000
namespace HW
open PySem PySem.Spec PyProof.Rows L2 NdefX LamX
/-! ### _law_filled_alike, the walk -/
open TL
section
variable {P : Program} {w : World} {K : PySem.W.Frag} {mg : Str → Option Value} {base : Heap}
def spFA (K : PySem.W.Frag) (T : List NTab) (n : Nat) (W : List Str) (hl : List (Str × Nat)) : Sp := fun vs H Q _ => ∃ (k kdx b dx l r : Addr) (sxs : List V) (sides : List (HF.Side Str)) (y : PrR), vs = [.ref k, .str y.1, .str y.2.1] ∧ DkAt K H k kdx b dx l r sxs sides ∧ Gp W hl n y ∧ y.2.2 ∈ sides ∧ (∀ x ∈ sides, Sp8 (BW W) hl x) ∧ sides.length ≤ 10 ∧ Un sides ∧ Hl hl 3 ∧ (∀ p ∈ hl, p.1 ≠ "z") ∧ (∀ u ∈ W, Wd u) ∧ W.length ≤ 50 ∧ TabsN T H ∧
  ∀ H', Gr T [] H H' → Q (.bl true) H'
theorem Hl.snoc {hl : List (Str × Nat)} {l0 : Nat} (h : Hl hl l0) {u : Str} {m : Nat} (hu : ∀ p ∈ hl, p.1 ≠ u) (hm : m ≤ 2) : Hl (hl ++ [(u, m)]) (l0 + 1) := by
  refine ⟨?_, by rw [List.length_append, List.length_singleton]; have := h.le; omega, fun p hp => ?_⟩
  · rw [List.map_append]
    refine List.nodup_append.mpr ⟨h.nd, by simp, fun a ha b hb => ?_⟩
    obtain ⟨p, hp, e⟩ := List.mem_map.mp ha
    have hb : b = u := List.mem_singleton.mp hb
    rw [← e, hb]
    exact hu p hp
  · rcases List.mem_append.mp hp with q | q
    · exact h.two p q
    · rw [List.mem_singleton.mp q]; exact hm
theorem Hl.up {hl : List (Str × Nat)} {l0 l1 : Nat} (h : Hl hl l0) (e : l0 ≤ l1) : Hl hl l1 := ⟨h.nd, Nat.le_trans h.le e, h.two⟩
theorem sx_plain {B : List Str} {hl : List (Str × Nat)} {u : Str} (h : u ∈ B) : Sx B hl (.sign u .nil) := ⟨fun x hx => hx.elim, trivial, ⟨h, ⟨by show 0 ≤ 3; omega, fun z hz => (by cases hz)⟩, trivial⟩, fun p hp => (by cases hp), by show 1 + 0 ≤ 4; omega, by show 1 + 0 ≤ 28; omega, by show 0 ≤ 2; omega⟩
theorem sx_hole {B : List Str} {hl : List (Str × Nat)} {u : Str} (hw : Wd u) (h : (u, 0) ∈ hl) : Sx B hl (.hole u []) := ⟨fun x hx => (by cases hx), List.nodup_nil, hw, fun p hp => by rw [List.mem_singleton.mp hp]; exact h, by show 2 ≤ 4; omega, by show 1 + 0 ≤ 28; omega, by show 1 ≤ 2; omega⟩
theorem sx_ta {B : List Str} {hl : List (Str × Nat)} (ht : ("t" : Str) ∈ B) (ha : ("a" : Str) ∈ B) : Sx B hl (.sign "t" (.cons 0 (.sign "a" .nil) .nil)) := by
  refine ⟨fun x hx => ?_, ⟨trivial, trivial⟩, ⟨ht, ⟨by show 1 ≤ 3; decide, fun z hz => ?_⟩, ⟨ha, ⟨by show 0 ≤ 3; decide, fun z hz => (by cases hz)⟩, trivial⟩, trivial⟩, fun p hp => (by cases hp), by show 1 + Nat.max (1 + 0) 0 ≤ 4; decide, by show 1 + (1 + 0 + 0) ≤ 28; decide, by show 0 ≤ 2; decide⟩
  · rcases hx with hx | hx
    · exact hx.elim
    · exact hx.elim
  · rw [List.mem_singleton.mp (show z ∈ [(0, (.sign "a" .nil : HF.T Str))] from hz)]; exact Nat.zero_le _
theorem snoc_all {B : List Str} {hl : List (Str × Nat)} {sides : List (HF.Side Str)} {x : HF.Side Str} (h : ∀ y ∈ sides, Sp8 B hl y) (hx : Sp8 B hl x) : ∀ y ∈ sides ++ [x], Sp8 B hl y := fun y hy => (List.mem_append.mp hy).elim (h y) fun q => by rw [List.mem_singleton.mp q]; exact hx
theorem fil_some {σ : Str → Option (HF.T Str)} {u : Str} {ns : List Nat} {v : HF.T Str} (h : σ u = some v) : HF.fil σ (.hole u ns) = HF.ren (HF.sel ns) 0 v := by simp only [HF.fil, h]
theorem gd_hs {θ : Str → Option (HF.T Str)} {t : HF.T Str} (g : HF.gd θ (HF.hs t)) : HF.hs (HF.fil θ t) = [] := by
  cases q : HF.hs (HF.fil θ t) with
  | nil => rfl
  | cons p r =>
    exfalso
    have hp : p ∈ HF.hs (HF.fil θ t) := by rw [q]; exact List.mem_cons_self
    rcases HF.mem_hs_fil hp with ⟨h1, h2⟩ | ⟨u, m, v, h1, h2, h3⟩
    · obtain ⟨x, a, _⟩ := g p.1 p.2 h1
      rw [h2] at a; cases a
    · obtain ⟨x, a, b, _⟩ := g u m h1
      rw [h2] at a
      cases a
      rw [b] at h3; cases h3
theorem gt_wOk {B : List Str} (h : ∀ u ∈ B, Wd u) : ∀ u ∈ B, wOk u := fun u hu => (h u hu).ok
theorem sc_law_filled_alike : FnScope ["_law_desk", "_law_one", "_law_other", "_law_both"] ["_law_desk", "_law_one", "_law_other"] (defScope s_law_filled_alike) := ⟨rfl, rfl, rfl, by decide +kernel, rfl, by decide +kernel, by decide +kernel⟩
theorem ok_fa (S : Cn K mg base) (n : Nat) (W : List Str) (hl : List (Str × Nat)) (hn : 64 ≤ n) (hn2 : n ≤ 300) (hS : C8.Met P w K mg base (3 * n + 21) (He.ga K "Desk") "say" (spSStands K (TT K) n (BW W) 4 28 4) []) (hF : C8.Met P w K mg base (3 * n + 21) (He.ga K "Desk") "say" (spSFill K (TT K) n (BW W) 4 28 3) [])
    (hR : Has P w K mg base "read" (3 * n + 4) ["text", "names"] [.non] (spRead (TT K) (BW W) n)) :
    Has P w K mg base "_law_filled_alike" (3 * n + 22) ["_law_desk", "_law_one", "_law_other"] [] (spFA K (TT K) n W hl) := by
  refine has_of (d := d_law_filled_alike) S 70 50 rfl rfl rfl rfl rfl sc_law_filled_alike (fun vs H Q E h => ?_) (fun _ _ _ _ _ _ us hl => match us, hl with | [_, _, _], _ => rfl) (fun f cdv A outer s H vs Q E hr h => ?_)
  · obtain ⟨k, kdx, b, dx, l, r, sxs, sides, y, rfl, _⟩ := h
    rfl
  refine ⟨_, (pss_cons (ps_if (ptNe (C8.pe_mt hS hr (by omega) (pv 0) (pa_cons (pe_op op_add_str (pe_op op_add_str (pe_op op_add_str pe_str (pv 1)) pe_str) (pv 2)) pa_nil))) (pss_one (ps_ret pe_bl)) pss_nil) (pss_cons (ps_set (i := 3) sc_law_filled_alike.nd rfl (Or.inl rfl) (pe_hs hR hr (by omega) rfl (pa_cons (C8.pe_mt hF hr (by omega) (pv 0) (pa_cons (pe_op op_add_str (pe_op op_add_str (pe_op op_add_str (pe_op op_add_str pe_str (pv 1)) pe_str) (pv 2)) pe_str) pa_nil)) pa_nil))) (pss_cons (ps_if (PW.pt (pw_or (pt_cmpR (op_neB (D := 3) (Room.un hr (by omega))) (pe_slice sl_tup (pv 3) po_none (po_some pe_int)) (pe_tup (pa_cons pe_str (pa_cons pe_str pa_nil))) (nomark _)) (pw_or (pt_cmpR (op_neB (D := 3 * n + 8) (Room.un hr (by omega))) (ixT (ixT (pv 3))) (ixT (ixT (pv 3))) (nomark _)) (pw_or1 (pt_cmpR (op_neB (D := 3) (Room.un hr (by omega))) (pe_slice sl_tup (ixT (ixT (ixT (pv 3)))) po_none (po_some pe_int)) (pe_tup (pa_cons pe_str (pa_cons pe_str pa_nil))) (nomark _)))))) (pss_one (ps_ret pe_bl)) pss_nil) (pss_cons (ps_if (ptNe (C8.pe_mt hS hr (by omega) (pv 0) (pa_cons (pe_op op_add_str (pe_op op_add_str pe_str (pv 1)) pe_str) pa_nil))) (pss_one (ps_ret pe_bl)) pss_nil) (pss_one (ps_ret (pe_cmpR op_eq (C8.pe_mt hS hr (by omega) (pv 0) (pa_cons (pe_op op_add_str (pe_op op_add_str pe_str (pv 1)) pe_str) pa_nil)) pe_str (nomark _)))))))), ?_⟩
  obtain ⟨k, kdx, b, dx, l, r, sxs, sides, y, rfl, dk, gp, hy, sp, hlen, hun, hH, hz, hW, hW50, hT, q⟩ := h
  have l1 := gp.p.ra.rx.sz
  have l2 := gp.p.rb.rx.sz
  have l3 : (" = " : Str).length = 3 := by decide +kernel
  have l4 : ("stands " : Str).length = 7 := by decide +kernel
  have hB := BW_wd hW
  have H4 := hH.up (by omega : 3 ≤ 4)
  have p1 := prs_of (n := n) H4 (Nat.le_refl 4) sp (by omega)
  have p3 := prs_of (n := n) hH (by omega) sp (by omega)
  have p1x := prs_of (n := n) H4 (Nat.le_refl 4) (snoc_all sp gp.sp) (by rw [List.length_append, List.length_singleton]; omega)
  have hu1 := (un_own sp).mpr hun
  have hfld : ∀ σ, Fld n (BW W) 4 28 4 sides (ownOf hl sides) σ → HF.ht (HF.fil (HF.sg σ) y.2.2.2.1) ≤ n := fun σ fld => by
    obtain ⟨e, L, he, _, ⟨f, _⟩, _⟩ := fld_side sp (fun p hp => (mem_own sp p).mpr hp) fld hy
    have h1 := f.ht
    have h2 := hB_le (h0 := 4) he
    have h3 := hB_vals.2.1
    omega
  obtain ⟨m1, x1, ea⟩ := gp.p.sa.s
  -- the pair itself stands the same
  refine ⟨_, rfl, k, _, _, rfl, dk.ins, rfl, _, rfl, _, _, rfl, rfl, szl (by omega), _, _, rfl, rfl, szl (by rw [len_app]; omega), _, rfl, _, _, rfl, rfl, szl (by rw [len_app, len_app]; omega), ?_⟩
  refine ⟨k, kdx, b, dx, l, r, _, y.1, y.2.1, sxs, sides, _, _, y.2.2, rfl, row_stands _ _, dk, ⟨gp.z, gp.p.ra.rx, gp.p.rb.rx⟩, hT, p1, hu1, p1x, hfld, fun H1 σ g1 fld ee => ?_, fun H1 σ g1 fld ne _ => absurd (fld.2.1 _ hy) ne, fun H1 σ g1 fld ne _ => absurd (fld.2.1 _ hy) ne⟩
  refine ⟨rfl, _, rfl, iff' (by decide +kernel) ?_⟩
  -- filled in one term
  have dk1 := dk.mono g1
  have ez : ("fill t(" : Str) ++ y.1 ++ ", " ++ y.2.1 ++ ")" = "fill" ++ " " ++ ("t(" ++ y.1 ++ ", " ++ y.2.1 ++ ")") := by
    have e : ("fill t(" : Str) = "fill" ++ " " ++ "t(" := by decide +kernel
    rw [e]
    exact ext_tl (by simp only [tl_append, List.append_assoc])
  have l5 : ("fill t(" : Str).length = 7 := by decide +kernel
  have l6 : (", " : Str).length = 2 := by decide +kernel
  have l7 : (")" : Str).length = 1 := by decide +kernel
  have l8 : ("t(" : Str).length = 2 := by decide +kernel
  obtain ⟨t1, t2⟩ := (⟨gp.p.sa.few, gp.p.sb.few⟩ : (HF.hs y.2.2.2.1).length ≤ 2 ∧ (HF.hs y.2.2.2.2).length ≤ 2)
  have fab : fnl (HF.hs y.2.2.2.1 ++ HF.hs y.2.2.2.2) := fun u c d h1 h2 => fn_hl hH.nd ((List.mem_append.mp h1).elim (gp.p.sa.hs _) (gp.p.sb.hs _)) ((List.mem_append.mp h2).elim (gp.p.sa.hs _) (gp.p.sb.hs _))
  have hnda := gp.p.sa.nd
  have hndb := gp.p.sb.nd
  have hha := gp.p.sa.ht
  have hhb := gp.p.sb.ht
  have sza : y.1.length ≤ 400000 := gp.p.lena
  have szb : y.2.1.length ≤ 400000 := gp.p.lenb
  have rpt := rp_t gp.p.ra gp.p.rb (BW_t W) (by omega) (by omega) (by omega) (by omega) sza szb fab (by omega) (by omega)
  refine ⟨_, rfl, k, _, _, rfl, dk1.ins, rfl, _, rfl, _, _, rfl, rfl, szl (by omega), _, _, rfl, rfl, szl (by rw [len_app]; omega), _, rfl, _, _, rfl, rfl, szl (by rw [len_app, len_app]; omega), _, _, rfl, rfl, szl (by rw [len_app, len_app, len_app]; omega), ?_⟩
  have hu3 := (un_own sp).mpr hun
  have hB60 : (BW W).length ≤ 60 := by
    unfold BW
    rw [List.length_append]
    show W.length + 4 ≤ 60
    omega
  have ehst : HF.hs (.sign "t" (.cons 0 y.2.2.2.1 (.cons 0 y.2.2.2.2 .nil)) : HF.T Str) = HF.hs y.2.2.2.1 ++ HF.hs y.2.2.2.2 := by show HF.hs _ ++ (HF.hs _ ++ []) = _; rw [List.append_nil]
  have fall : fnl (sdsH sides ++ HF.hs (.sign "t" (.cons 0 y.2.2.2.1 (.cons 0 y.2.2.2.2 .nil)) : HF.T Str)) := fun u c d h1 h2 => by
    have key : ∀ c, (u, c) ∈ sdsH sides ++ HF.hs (.sign "t" (.cons 0 y.2.2.2.1 (.cons 0 y.2.2.2.2 .nil)) : HF.T Str) → (u, c) ∈ hl := fun c h => by
      rcases List.mem_append.mp h with q | q
      · exact (List.mem_filter.mp ((mem_own sp _).mpr q)).1
      · rw [ehst] at q
        rcases List.mem_append.mp q with q | q
        · exact gp.p.sa.hs _ q
        · exact gp.p.sb.hs _ q
    exact fn_hl hH.nd (key c h1) (key d h2)
  have filt : ∀ σ : HF.Fl Str, HF.fil (HF.sg σ) (.sign "t" (.cons 0 y.2.2.2.1 (.cons 0 y.2.2.2.2 .nil)) : HF.T Str) = .sign "t" (.cons 0 (HF.fil (HF.sg σ) y.2.2.2.1) (.cons 0 (HF.fil (HF.sg σ) y.2.2.2.2) .nil)) := fun σ => rfl
  have hbig : ∀ σ, Fld n (BW W) 4 28 3 sides (ownOf hl sides) σ → HF.cls 0 (HF.fil (HF.sg σ) (.sign "t" (.cons 0 y.2.2.2.1 (.cons 0 y.2.2.2.2 .nil)) : HF.T Str)) ∧ HF.nd (HF.fil (HF.sg σ) (.sign "t" (.cons 0 y.2.2.2.1 (.cons 0 y.2.2.2.2 .nil)) : HF.T Str)) ≤ 20000 ∧ HF.ht (HF.fil (HF.sg σ) (.sign "t" (.cons 0 y.2.2.2.1 (.cons 0 y.2.2.2.2 .nil)) : HF.T Str)) ≤ n ∧
      fnl (HF.hs (HF.fil (HF.sg σ) (.sign "t" (.cons 0 y.2.2.2.1 (.cons 0 y.2.2.2.2 .nil)) : HF.T Str))) ∧ (HF.hs (HF.fil (HF.sg σ) (.sign "t" (.cons 0 y.2.2.2.1 (.cons 0 y.2.2.2.2 .nil)) : HF.T Str))).length ≤ 100000 := fun σ fld => by
    obtain ⟨e, L, he, hL, ⟨f1, i1⟩, f2, i2⟩ := fld_side sp (fun p hp => (mem_own sp p).mpr hp) fld hy
    obtain ⟨v1, _, v3, _, v5⟩ := hB_vals
    have a1 := hB_le (h0 := 4) he
    have a2 := nB_le (n0 := 28) he
    have a3 := oB_le he
    have b1 := f1.ht
    have b2 := f2.ht
    have c1 := f1.nd
    have c2 := f2.nd
    have d1 := f1.hs
    have d2 := f2.hs
    rw [filt]
    have eh : HF.hs (.sign "t" (.cons 0 (HF.fil (HF.sg σ) y.2.2.2.1) (.cons 0 (HF.fil (HF.sg σ) y.2.2.2.2) .nil)) : HF.T Str) = HF.hs (HF.fil (HF.sg σ) y.2.2.2.1) ++ HF.hs (HF.fil (HF.sg σ) y.2.2.2.2) := by show HF.hs _ ++ (HF.hs _ ++ []) = _; rw [List.append_nil]
    refine ⟨?_, ?_, ?_, ?_, ?_⟩
    · rintro x hx
      rcases hx with hx | hx | hx
      · exact f1.c x (by simpa using hx)
      · exact f2.c x (by simpa using hx)
      · exact hx.elim
    · show 1 + (HF.nd _ + (HF.nd _ + 0)) ≤ 20000
      omega
    · show 1 + Nat.max (HF.ht _) (Nat.max (HF.ht _) 0) ≤ n
      have : Nat.max (HF.ht (HF.fil (HF.sg σ) y.2.2.2.1)) (Nat.max (HF.ht (HF.fil (HF.sg σ) y.2.2.2.2)) 0) ≤ 32 := Nat.max_le.mpr ⟨by omega, Nat.max_le.mpr ⟨by omega, by omega⟩⟩
      omega
    · rw [eh]
      exact fun u c d h1 h2 => HF.fun_of hL ((List.mem_append.mp h1).elim (i1 _) (i2 _)) ((List.mem_append.mp h2).elim (i1 _) (i2 _))
    · rw [eh, List.length_append]; omega
  refine ⟨k, _, "t(" ++ y.1 ++ ", " ++ y.2.1 ++ ")", rfl, ez, by rw [len_app, len_app, len_app, len_app]; omega, g1.tab, ?_⟩
  refine ⟨k, kdx, b, dx, l, r, sxs, sides, _, _, _, rfl, dk1, rpt.rx, g1.tab, p3, hu3, hB, hB60, fall, by rw [ehst, List.length_append]; omega, fun σ fld => ?_, fun H2 σ bs g2 fld2 sh => ?_⟩
  · obtain ⟨h1, h2, h3, _⟩ := hbig σ fld
    exact ⟨h1, by omega, h3⟩
  obtain ⟨h1, h2, h3, h4, h5⟩ := hbig σ fld2
  refine ⟨_, _, .non, rfl, .inl rfl, g2.tab, sh.rx h3 h2 h4 h5 (by omega), fun H3 v g3 at3 => ?_⟩
  rw [filt] at at3
  have eeq : HF.fil (HF.sg σ) y.2.2.2.1 = HF.fil (HF.sg σ) y.2.2.2.2 := fld2.2.1 _ hy
  obtain ⟨aF, bF, vF, rfl, eF, eF2, c0, tv0, vF', rfl, ec0, at0, c1, tv1, vF'', rfl, ec1, at1, rfl⟩ := at3
  have eA : HF.fil (HF.sg σ) y.2.2.2.1 = .sign "s" (.cons m1 (HF.fil (HF.sg σ) x1) .nil) := by rw [ea]; rfl
  have w1 : wg wOk (HF.fil (HF.sg σ) y.2.2.2.1) := gt.wg (gt_wOk hB) (gt_fld fld2 gp.p.ra.rx.g)
  have w2 : wg wOk (HF.fil (HF.sg σ) y.2.2.2.2) := gt.wg (gt_wOk hB) (gt_fld fld2 gp.p.rb.rx.g)
  have hdep := toD_depth (HF.fil (HF.sg σ) y.2.2.2.1)
  have hle : HF.ht (HF.fil (HF.sg σ) y.2.2.2.1) ≤ n := by
    have q : 1 + Nat.max (HF.ht (HF.fil (HF.sg σ) y.2.2.2.1)) (Nat.max (HF.ht (HF.fil (HF.sg σ) y.2.2.2.2)) 0) ≤ n := h3
    have := Nat.le_max_left (HF.ht (HF.fil (HF.sg σ) y.2.2.2.1)) (Nat.max (HF.ht (HF.fil (HF.sg σ) y.2.2.2.2)) 0)
    have e : Nat.max (HF.ht (HF.fil (HF.sg σ) y.2.2.2.1)) (Nat.max (HF.ht (HF.fil (HF.sg σ) y.2.2.2.2)) 0) = max (HF.ht (HF.fil (HF.sg σ) y.2.2.2.1)) (Nat.max (HF.ht (HF.fil (HF.sg σ) y.2.2.2.2)) 0) := rfl
    omega
  have at0s := at0
  rw [eA] at at0s
  obtain ⟨a0, b0, v0, rfl, ea0, _, _⟩ := at0s
  have st1 : PyData.canLay0 (.tuple [.str "sign", .str "t"]) = true := by decide +kernel
  have st2 : PyData.canLay0 (.tuple [.str "sign", .str "s"]) = true := by decide +kernel
  dsimp only [tSeq, tIfS]
  have nw : ¬ (HT.sIx 3 0 none = 0 ∧ HT.sIx 3 3 (some 2) = 3) := by decide
  refine ⟨_, rfl, _, rfl, aF, _, rfl, SqT.of eF, nw, fun p5 h5 => ?_⟩
  rw [show cutV [V.str "sign", V.str "t", V.ref bF] none (some 2) = [V.str "sign", V.str "t"] from rfl]
  have g5 := Gr.new0 (X := []) (o := .tup [.str "sign", .str "t"]) g3.tab h5
  refine ⟨szl (by show 2 ≤ 10000000; decide), fun p6 h6 => ?_⟩
  have g6 := Gr.new0 (X := []) (o := .tup [.str "sign", .str "t"]) g5.tab h6
  refine ⟨.tuple [.str "sign", .str "t"], .tuple [.str "sign", .str "t"], .tup (SqT.of (g6.tup _ _ upd_same)) (.cons (.str _) (.cons (.str _) .nil)), .tup (SqT.of upd_same) (.cons (.str _) (.cons (.str _) .nil)), st1, st1, by decide, _, rfl, iff' (by decide +kernel) ?_⟩
  have eF5 := (g5.trans g6).tup _ _ eF
  have eF25 := (g5.trans g6).tup _ _ eF2
  have ec05 := (g5.trans g6).tup _ _ ec0
  have ec15 := (g5.trans g6).tup _ _ ec1
  have at05 := at0.mono (g5.trans g6)
  have at15 := at1.mono (g5.trans g6)
  have ea05 := (g5.trans g6).tup _ _ ea0
  have gall := ((g1.trans g2).trans g3).trans (g5.trans g6)
  have gtab := (g5.trans g6).tab
  generalize upd (upd H3 p5 _) p6 _ = H6 at eF5 eF25 ec05 ec15 at05 at15 ea05 gall gtab ⊢
  refine ⟨_, rfl, aF, _, 2, _, rfl, rfl, SqT.of eF5, rfl, bF, _, 0, _, rfl, rfl, SqT.of eF25, rfl, ?_⟩
  refine ⟨_, rfl, aF, _, 2, _, rfl, rfl, SqT.of eF5, rfl, bF, _, 1, _, rfl, rfl, SqT.of eF25, rfl, ?_⟩
  refine ⟨.tuple [.int ((0 : Nat) : Int), toD (HF.fil (HF.sg σ) y.2.2.2.1)], .tuple [.int ((0 : Nat) : Int), toD (HF.fil (HF.sg σ) y.2.2.2.2)], .tup (SqT.of ec05) (.cons (.int _) (.cons (dp_of at05) .nil)), .tup (SqT.of ec15) (.cons (.int _) (.cons (dp_of at15) .nil)), ?_, ?_, ?_, _, rfl, iff' ?_ ?_⟩
  · simp only [PyData.canLay0, PyData.canLayAll0, toD_ok w1]; rfl
  · simp only [PyData.canLay0, PyData.canLayAll0, toD_ok w2]; rfl
  · simp only [PyData.depth, PyData.depthAll]; omega
  · rw [eqv2, eqv_toD.mpr eeq]
    rfl
  refine ⟨_, rfl, aF, _, 2, _, rfl, rfl, SqT.of eF5, rfl, bF, _, 0, _, rfl, rfl, SqT.of eF25, rfl, c0, _, 1, _, rfl, rfl, SqT.of ec05, rfl, _, rfl, a0, _, rfl, SqT.of ea05, nw, fun p7 h7 => ?_⟩
  rw [show cutV [V.str "sign", V.str "s", V.ref b0] none (some 2) = [V.str "sign", V.str "s"] from rfl]
  have g7 := Gr.new0 (X := []) (o := .tup [.str "sign", .str "s"]) gtab h7
  refine ⟨szl (by show 2 ≤ 10000000; decide), fun p8 h8 => ?_⟩
  have g8 := Gr.new0 (X := []) (o := .tup [.str "sign", .str "s"]) g7.tab h8
  refine ⟨.tuple [.str "sign", .str "s"], .tuple [.str "sign", .str "s"], .tup (SqT.of (g8.tup _ _ upd_same)) (.cons (.str _) (.cons (.str _) .nil)), .tup (SqT.of upd_same) (.cons (.str _) (.cons (.str _) .nil)), st2, st2, by decide, _, rfl, iff' (by decide +kernel) ?_⟩
  have gall := gall.trans (g7.trans g8)
  generalize upd (upd H6 p7 _) p8 _ = H8 at gall ⊢
  -- a sign of another word
  have dk8 := dk.mono gall
  have er1 : ("stands " : Str) ++ y.1 ++ " = t(a)" = "stands" ++ " " ++ (y.1 ++ " = " ++ "t(a)") := by
    rw [← row_stands]
    have e : (" = t(a)" : Str) = " = " ++ "t(a)" := by decide +kernel
    rw [e]
    exact ext_tl (by simp only [tl_append, List.append_assoc])
  have l9 : (" = t(a)" : Str).length = 7 := by decide +kernel
  have l10 : (" = ?z" : Str).length = 5 := by decide +kernel
  have s2 : Sp8 (BW W) hl ((0, y.2.2.2.1, .sign "t" (.cons 0 (.sign "a" .nil) .nil)) : HF.Side Str) := ⟨rfl, gp.p.sa.sx, sx_ta (BW_t W) (BW_a W)⟩
  have p2x := prs_of (n := n) H4 (Nat.le_refl 4) (snoc_all sp s2) (by rw [List.length_append, List.length_singleton]; omega)
  have nst : ("s" : Str) ≠ "t" := by decide +kernel
  refine ⟨_, rfl, k, _, _, rfl, dk8.ins, rfl, _, rfl, _, _, rfl, rfl, szl (by omega), _, _, rfl, rfl, szl (by rw [len_app]; omega), ?_⟩
  refine ⟨k, kdx, b, dx, l, r, _, y.1, "t(a)", sxs, sides, _, _, ((0, y.2.2.2.1, .sign "t" (.cons 0 (.sign "a" .nil) .nil)) : HF.Side Str), rfl, er1, dk8, ⟨rfl, gp.p.ra.rx, (rp_ta (BW_t W) (BW_a W) (by omega) (by omega)).rx⟩, gall.tab, p1, hu1, p2x, hfld, fun H9 σ9 g9 fld9 ee9 => ?_, fun H9 σ9 g9 fld9 ne9 no9 => ?_, fun H9 σ9 g9 fld9 ne9 yes9 => absurd ((un_own (snoc_all sp s2)).mp yes9) (no_head ea rfl nst)⟩
  · exfalso
    have q : HF.fil (HF.sg σ9) y.2.2.2.1 = HF.fil (HF.sg σ9) (.sign "t" (.cons 0 (.sign "a" .nil) .nil) : HF.T Str) := ee9
    rw [ea] at q
    simp only [HF.fil] at q
    exact nst (HF.T.sign.inj q).1
  refine ⟨rfl, _, rfl, iff' (by decide +kernel) ?_⟩
  -- a hole that none has
  have gall := gall.trans g9
  have dk9 := dk.mono gall
  have er2 : ("stands " : Str) ++ y.1 ++ " = ?z" = "stands" ++ " " ++ (y.1 ++ " = " ++ ("?" ++ "z")) := by
    rw [← row_stands]
    have e : (" = ?z" : Str) = " = " ++ ("?" ++ "z") := by decide +kernel
    rw [e]
    exact ext_tl (by simp only [tl_append, List.append_assoc])
  have H5 := hH.snoc (m := 0) hz (by omega)
  have sp5 : ∀ x ∈ sides, Sp8 (BW W) (hl ++ [(("z" : Str), 0)]) x := fun x hx => (sp x hx).up fun p hp => List.mem_append_left _ hp
  have s3 : Sp8 (BW W) (hl ++ [(("z" : Str), 0)]) ((0, y.2.2.2.1, .hole "z" []) : HF.Side Str) := ⟨rfl, gp.p.sa.sx.up fun p hp => List.mem_append_left _ hp, sx_hole wd_z (List.mem_append_right _ (List.mem_singleton.mpr rfl))⟩
  have p3x := prs_of (n := n) H5 (Nat.le_refl 4) (snoc_all sp5 s3) (by rw [List.length_append, List.length_singleton]; omega)
  have zno : ∀ c, (("z" : Str), c) ∉ sdsH sides := fun c hc => hz _ (List.mem_filter.mp ((mem_own sp _).mpr hc)).1 rfl
  have hsa : ∀ p ∈ HF.hs y.2.2.2.1, p ∈ sdsH sides := fun p hp => List.mem_flatMap.mpr ⟨_, hy, List.mem_append_left _ hp⟩
  have hun3 : Un (sides ++ [((0, y.2.2.2.1, .hole "z" []) : HF.Side Str)]) := un_ext (w := "z") (m := 0) hun zno (fun θ => HF.fil θ y.2.2.2.1) (fun θ g => ⟨gd_hs (g.mono hsa), HF.cls_fil (g.mono hsa).ok gp.p.sa.c⟩) (fun p hp => (List.mem_append.mp hp).elim (fun q => .inr (hsa p q)) fun q => .inl (List.mem_singleton.mp q)) fun θ θ' g h1 h2 => by
    have c1 : HF.fil θ' y.2.2.2.1 = HF.fil θ y.2.2.2.1 := HF.fil_congr _ fun u c hc => h1 u fun e => zno c (hsa _ (by rw [← e]; exact hc))
    show HF.fil θ' y.2.2.2.1 = HF.fil θ' (.hole "z" [])
    have c2 : HF.fil θ' (.hole "z" [] : HF.T Str) = HF.ren (HF.sel []) 0 (HF.fil θ y.2.2.2.1) := fil_some h2
    rw [c1, c2, HF.ren_id]
    intro x hx
    have := HF.cls_fil (g.mono hsa).ok gp.p.sa.c x hx
    omega
  refine ⟨_, rfl, k, _, _, rfl, dk9.ins, rfl, _, rfl, _, _, rfl, rfl, szl (by omega), _, _, rfl, rfl, szl (by rw [len_app]; omega), ?_⟩
  have nz : ∀ σ : HF.Fl Str, Fld n (BW W) 4 28 4 sides (ownOf hl sides) σ → HF.fil (HF.sg σ) y.2.2.2.1 ≠ HF.fil (HF.sg σ) (.hole "z" [] : HF.T Str) := fun σ fld e => by
    have hs : σ "z" = none := by
      cases q : σ "z" with
      | none => rfl
      | some v =>
        obtain ⟨_, _, _, made, L, ee, I⟩ := fld
        obtain ⟨i1, _⟩ := I.so "z" v.1 v.2 q
        exact absurd rfl (hz _ (List.mem_filter.mp i1).1)
    rw [ea, fil_hole, hs] at e
    simp only [HF.fil] at e
    cases e
  refine ⟨k, kdx, b, dx, l, r, _, y.1, "?" ++ "z", sxs, sides, _, _, ((0, y.2.2.2.1, .hole "z" []) : HF.Side Str), rfl, er2, dk9, ⟨rfl, gp.p.ra.rx, (rp_hole wd_z (by omega) (by omega)).rx⟩, gall.tab, p1, hu1, p3x, hfld, fun Ha σa ga flda eea => absurd eea (nz σa flda), fun Ha σa ga flda nea noa => absurd ((un_own (snoc_all sp5 s3)).mpr hun3) noa, fun Ha σa ga flda nea yesa => ?_⟩
  refine ⟨rfl, ?_⟩
  exact q Ha (gall.trans ga)
end

end HW
end
section
set_option Elab.async false
set_option linter.all false
set_option maxRecDepth 100000
set_option maxHeartbeats 1000000
/-! list(reversed(x)), x a list: a list anew -/
namespace HWl
open PySem PySem.Spec PyProof.Rows L2
section
variable {prog : Program} {w : World} {A : Around} {E : Value → Shared → Prop} {s : Shared}
theorem grow_rev {R : Result → Shared → Prop} {it l : Addr} {items : Array Value} (hh : A.handled = none) (hit : s.heap.IsRevIter it l ((items.size : Int) - 1)) (hl : s.heap.IsList l items) (hne : l ≠ it) (hn : items.size ≤ sizeLine)
    (S : Addr) (res : Value) (c₀ : Nat) (hSi : S ≠ it) (hSl : S ≠ l) (hS : s.heap.get? S = some { cls := .type "list", data := .seq #[] c₀ })
    (hR : ∀ h' tk acc' c', (∀ b o, b ≠ S → b ≠ it → s.heap.get? b = some o → h'.get? b = some o) → h'.get? S = some { cls := .type "list", dict := none, data := .seq acc' c', slots := #[] } →
      ItemsOf (fun i v => items[items.size - 1 - i]? = some v) acc' items.size → R (.ok (.ret res)) { s with heap := h', toks := tk }) :
    wpAny (model prog w) A.in1 (Builtin.List.listExtendWith (.ref S) (.ref it) res)
      (fun fin s' => match fin with | .done f => R (.ok f) s' | .again c' => c'.quiet = true ∧ codeAny (model prog w) A c' R s') (fun e s' => R (.error e) s') s := by
  have W := (Walks.listRev (prog := prog) (w := w) (A := A.in1) hh it l hne items).toS
  have hSf : S ∉ [it, l] := by simp only [List.mem_cons, List.not_mem_nil, or_false, not_or]; exact ⟨hSi, hSl⟩
  have hT : s.TypeIs (.ref it) "list_reverseiterator" := hit.typeIs
  have h1 : Builtin.List.listSameRef (.ref S) (.ref it) = false := by simp [Builtin.List.listSameRef, hSi]
  unfold Builtin.List.listExtendWith
  refine wpAny_bind (wpAny_typeOf hT ?_)
  rw [if_neg (by rw [h1]; decide)]
  refine wpAny_bind (wpAny_pyIter_revIter hit ?_)
  refine wpAny_bind (wpAny_holding ?_)
  unfold Builtin.List.listLengthHint
  refine wpAny_bind (wpAny_specialOf hT RT.nolen_lri ?_)
  show wpAny _ A.in1 (specialOf (Value.ref it) (Str.ofString "__length_hint__") >>= _) _ _ _
  refine wpAny_bind (wpAny_specialOf hT RT.hint_lri ?_)
  generalize hid : ("list_reverseiterator.__length_hint__" : String) = id0
  wp_delta
  rw [show splitId id0 = some ("list_reverseiterator", "__length_hint__") from by subst hid; decide +kernel]
  subst hid
  refine wpAny_bind (wpAny_isInstance (b := true) hT (by rw [isSubtype_type]; kernel_rfl) ?_)
  refine wpAny_pure ?_
  rw [if_neg (by decide)]
  have e0 : ((items.size : Nat) : Int) - 1 - ((0 : Nat) : Int) = (items.size : Int) - 1 := by omega
  refine wpAny_pure ⟨plainId_quiet F.plain_extend_loop _, codeAny_extend_loopS W hn S hSf res items.size 0 _ #[] c₀ rfl (Nat.zero_le _) ⟨Nat.zero_le _, by rw [e0]; exact hit, hl⟩ hS (ItemsOf.nil _) fun s' acc' c' hm hS' hacc => ?_⟩
  rw [Moved.eq_with hm]
  refine hR s'.heap s'.toks acc' c' (fun b o hb hb2 e => hm.heap b o (fun hmem => ?_) e) hS' hacc
  rcases List.mem_cons.mp hmem with e' | hmem
  · exact hb e'
  · exact hb2 (List.mem_singleton.mp hmem)
theorem init_rev {R : Result → Shared → Prop} {it l : Addr} {items : Array Value} (hh : A.handled = none) (hit : s.heap.IsRevIter it l ((items.size : Int) - 1)) (hl : s.heap.IsList l items) (hne : l ≠ it) (hn : items.size ≤ sizeLine)
    (S : Addr) (hSi : S ≠ it) (hSl : S ≠ l) (hS : s.heap.get? S = some { cls := .type "list", data := .seq #[] })
    (hR : ∀ h' tk acc' c', (∀ b o, b ≠ S → b ≠ it → s.heap.get? b = some o → h'.get? b = some o) → h'.get? S = some { cls := .type "list", dict := none, data := .seq acc' c', slots := #[] } →
      ItemsOf (fun i v => items[items.size - 1 - i]? = some v) acc' items.size → R (.ok (.ret .none)) { s with heap := h', toks := tk }) :
    wpAny (model prog w) A.in1 (Builtin.«list.__init__» ⟨[.ref S, .ref it], []⟩)
      (fun fin s' => match fin with | .done f => R (.ok f) s' | .again c' => c'.quiet = true ∧ codeAny (model prog w) A c' R s') (fun e s' => R (.error e) s') s := by
  show wpAny _ _ (do let old ← Builtin.List.listItems (.ref S); Builtin.List.listUpdate (.ref S) (fun _ => #[]); letGo old.toList.reverse; Builtin.List.listExtendWith (.ref S) (.ref it) .none) _ _ s
  refine wpAny_bind ?_
  unfold Builtin.List.listItems
  refine wpAny_bind (wpAny_seqItems hS rfl (wpAny_pure ?_))
  show wpAny _ _ (updateSeq S (fun _ => #[]) >>= fun _ => letGo (#[] : Array Value).toList.reverse >>= fun _ => Builtin.List.listExtendWith (.ref S) (.ref it) .none) _ _ s
  refine wpAny_bind (wpAny_updateSeq hS rfl ?_)
  have hS₂ := Heap.get?_update_self (Obj.mapSeq (fun _ => (#[] : Array Value))) hS rfl
  have oth : ∀ b o, b ≠ S → s.heap.get? b = some o → (s.heap.update S (Obj.mapSeq (fun _ => (#[] : Array Value)))).get? b = some o :=
    fun b o hb e => (Heap.get?_update_other _ _ (Ne.symm hb)).trans e
  refine wpAny_bind (wpAny_letGo ?_)
  refine grow_rev hh (hit.at fun o e => oth it o (Ne.symm hSi) e) (show Heap.IsList _ l items from let ⟨o, e, r⟩ := hl; ⟨o, oth l o (Ne.symm hSl) e, r⟩) hne hn S .none _ hSi hSl hS₂ fun h' tk acc' c' hk hS' hacc => ?_
  exact hR h' tk acc' c' (fun b o hb hb2 e => hk b o hb hb2 (oth b o hb e)) hS' hacc
theorem call_list_rev {Q : Value → Shared → Prop} {it l : Addr} {items : Array Value} (hh : A.handled = none) (hit : s.heap.IsRevIter it l ((items.size : Int) - 1)) (hl : s.heap.IsList l items) (hne : l ≠ it) (hn : items.size ≤ sizeLine)
    (hQ : ∀ h' tk acc' c', (∀ b o, b ≠ it → s.heap.get? b = some o → h'.get? b = some o) →
      h'.get? s.heap.objs.size = some { cls := .type "list", dict := none, data := .seq acc' c', slots := #[] } → ItemsOf (fun i v => items[items.size - 1 - i]? = some v) acc' items.size → Q (.ref s.heap.objs.size) { s with heap := h', toks := tk }) :
    wpAny (model prog w) A (call (.type "list") [.ref it]) Q E s := by
  refine callType_codes (Q₁ := fun obj s₁ => obj = .ref s.heap.objs.size ∧ s₁ = { s with heap := s.heap.push { cls := .type "list", data := .seq #[] } }) F.called_list (F.typeCall_list_1 _) F.entry_list_init
    (code_list_new _ ⟨rfl, rfl⟩) fun obj s₁ h₁ => ?_
  obtain ⟨rfl, rfl⟩ := h₁
  have hS : (s.heap.push { cls := .type "list", data := .seq #[] }).get? s.heap.objs.size = some { cls := .type "list", data := .seq #[] } := Heap.get?_push_size _ rfl
  obtain ⟨oi, hoi, _⟩ := id hit
  obtain ⟨ol, hol, _⟩ := id hl
  refine ⟨⟨_, hS, rfl⟩, F.args_list_init_2 _ _, init_rev (A := A.in1) hh (hit.at fun o e => Heap.get?_push_of_some _ e) (hl.push _) hne hn _ (Nat.ne_of_gt (Heap.lt_size hoi)) (Nat.ne_of_gt (Heap.lt_size hol)) hS fun h' tk acc' c' hk hS' hacc => ?_⟩
  exact ⟨rfl, hQ h' tk acc' c' (fun b o hb e => hk b o (Nat.ne_of_lt (Heap.lt_size e)) hb (Heap.get?_push_of_some _ e)) hS' hacc⟩
end
/-- list(reversed(x)), x a list: a new list -/
def tListRev (K : PySem.W.Frag) (te : TE) : TE := fun σ H Q => te σ H fun v H1 => ∃ (a : Addr) (xs : List V), v = .ref a ∧ SqL K H1 a xs ∧ ∀ q, H1 q = none → Q (.ref q) (upd H1 q (.lst xs.reverse))
section
variable {X : Cx}
theorem pe_listRev {e : Expr} {te : TE} {p p2 pos pos2 : Pos} (hc : X.calm = true) (hg : Gl X "list") (hm : X.mg "list" = none) (hg2 : Gl X "reversed") (hm2 : X.mg "reversed" = none) (he : PE X e te)
    (hs : starEach [e] X.env = (false, eval e X.env) :: starEach [] X.env := by rfl)
    (hs2 : starEach [.Call (.Name "reversed" p2) [e] [] pos2] X.env = (false, eval (.Call (.Name "reversed" p2) [e] [] pos2) X.env) :: starEach [] X.env := by rfl) :
    PE X (.Call (.Name "list" p) [.Call (.Name "reversed" p2) [e] [] pos2] [] pos) (tListRev X.K te) := by
  refine ⟨fun pins s σ H Q I h => ?_⟩
  refine Call_ (ld_blt I hg hm boot_list (PyProof.Rows.callWith_type1 (args_cons (Call_ (ld_blt I hg2 hm2 PyProof.Rows.boot_reversed (PyProof.Rows.callWith_type1 (args_cons (thn (he.run pins s σ H _ I h) fun u s1 ⟨v, H1, I1, r1, q1⟩ => args_nil ?_) hs) hs rfl))) hs2) hs2 rfl))
  obtain ⟨a, xs, ev, hq, q⟩ := q1
  subst ev
  obtain rfl : u = Value.ref a := r1
  obtain ⟨its, rv, p', hz⟩ := I1.list hq
  refine call_reversed_list p'.isList (args_nil ?_)
  have hl := p'.isList
  obtain ⟨ol, hol, _⟩ := id hl
  have hne : a ≠ s1.heap.objs.size := Nat.ne_of_lt (Heap.lt_size hol)
  have hn : its.toArray.size ≤ sizeLine := by rw [List.size_toArray, ← rv.length]; exact hz
  refine call_list_rev (s := { s1 with heap := s1.heap.push (revObj a ((its.toArray.size : Int) - 1)) }) (I1.ok.hd hc) ⟨_, Heap.get?_push_size _ rfl, rfl, rfl⟩ (hl.push _) hne hn fun h' tk acc c' hk hS' hi => ?_
  have hsz : s1.heap.objs.size ≤ (s1.heap.push (revObj a ((its.toArray.size : Int) - 1))).objs.size := by simp [Heap.push]
  have k : ∀ b o, s1.heap.get? b = some o → h'.get? b = some o := fun b o e => hk b o (Nat.ne_of_lt (Heap.lt_size e)) (Heap.get?_push_of_some _ e)
  exact ⟨.ref (s1.heap.push (revObj a ((its.toArray.size : Int) - 1))).objs.size, upd H1 (s1.heap.push (revObj a ((its.toArray.size : Int) - 1))).objs.size (.lst xs.reverse),
    I1.laid (t' := tk) k hsz (show ObjOk X.prog X.w _ _ _ (.lst xs.reverse) from ⟨by rw [List.length_reverse]; exact hz, acc.toList, c', RT.vals_rev rv hi, by rw [Array.toArray_toList]; exact hS'⟩), rfl, q _ (I1.hok.fresh hsz)⟩
end
end HWl
end
section
set_option Elab.async false
set_option linter.all false
set_option maxRecDepth 100000
set_option maxHeartbeats 4000000
namespace HW
open PySem PySem.Spec PyProof.Rows L2 NdefX LamX
/-! ### maths of the law's end -/
open TL
theorem ixLK {X : Cx} {K : PySem.W.Frag} {a b : Expr} {ta tb : TE} {pos : Pos} (hk : X.K = K) (ha : PE X a ta) (hb : PE X b tb) (hs : PlainIx b) : PE X (.Subscript a b pos) (tOp (rIxL K) ta tb) := by
  subst hk
  exact pe_ix ix_list ha hb hs
theorem slLK {X : Cx} {K : PySem.W.Frag} (hk : X.K = K) : SlR X (rSlL K) := by
  subst hk
  exact sl_list
theorem cr_sumK {X : Cx} {K : PySem.W.Frag} (hk : X.K = K) (hc : X.calm = true) : CallR X (.builtin "sum") (rSum K) := by
  subst hk
  exact cr_sum hc
def offF (c : Int) : Nat := [5, 0, 2].getD (mixF c 59 % 3).toNat 0
def hlF (c : Int) : List (Str × Nat) := (List.range 3).map fun k => (wordF c (offF c + k), k)
theorem offF_at (c : Int) : atI [V.int 5, V.int 0, V.int 2] (mixF c 59 % 3) = some (.int (offF c : Int)) ∧ offF c ≤ 5 := by
  have h1 := Int.emod_nonneg (mixF c 59) (by decide : (3 : Int) ≠ 0)
  have h2 := Int.emod_lt_of_pos (mixF c 59) (by decide : (0 : Int) < 3)
  unfold offF
  generalize mixF c 59 % 3 = x at h1 h2
  have : x = 0 ∨ x = 1 ∨ x = 2 := by omega
  rcases this with rfl | rfl | rfl <;> exact ⟨rfl, by decide⟩
theorem wordsF_len (c : Int) : (wordsF c 9).length = 9 := by simp [wordsF]
theorem wordsF_get (c : Int) (i : Nat) (h : i < 9) : (wordsF c 9)[i]? = some (wordF c i) := by simp [wordsF, h]
theorem wordsV_at (c : Int) (i : Nat) (h : i < 9) : atI ((wordsF c 9).map V.str) ((i : Nat) : Int) = some (.str (wordF c i)) := at_of (j := i) rfl (by rw [List.getElem?_map, wordsF_get c i h]; rfl)
theorem wordsF_wd (c : Int) : ∀ u ∈ wordsF c 9, Wd u := fun u hu => by
  obtain ⟨k, _, e⟩ := List.mem_map.mp hu
  rw [← e]; exact wordF_wd c k
theorem wordsF_mem (c : Int) (i : Nat) (h : i < 9) : wordF c i ∈ wordsF c 9 := List.mem_map.mpr ⟨i, List.mem_range.mpr h, rfl⟩
theorem hlF_mem {c : Int} {p : Str × Nat} (h : p ∈ hlF c) : ∃ k, k < 3 ∧ p = (wordF c (offF c + k), k) := by
  obtain ⟨k, hk, e⟩ := List.mem_map.mp h
  exact ⟨k, List.mem_range.mp hk, e.symm⟩
theorem hlF_nd (c : Int) : ((hlF c).map (·.1)).Nodup := by
  have h5 := (offF_at c).2
  have key : ∀ i j : Nat, i < 3 → j < 3 → wordF c (offF c + i) = wordF c (offF c + j) → i = j := fun i j hi hj e => by
    have := wordF_inj (by omega) (by omega) e
    omega
  have n01 : wordF c (offF c + 0) ≠ wordF c (offF c + 1) := fun e => by have := key 0 1 (by omega) (by omega) e; omega
  have n02 : wordF c (offF c + 0) ≠ wordF c (offF c + 2) := fun e => by have := key 0 2 (by omega) (by omega) e; omega
  have n12 : wordF c (offF c + 1) ≠ wordF c (offF c + 2) := fun e => by have := key 1 2 (by omega) (by omega) e; omega
  show [wordF c (offF c + 0), wordF c (offF c + 1), wordF c (offF c + 2)].Nodup
  refine List.nodup_cons.mpr ⟨fun h => ?_, List.nodup_cons.mpr ⟨fun h => ?_, by simp⟩⟩
  · rcases List.mem_cons.mp h with e | e
    · exact n01 e
    · exact n02 (List.mem_singleton.mp e)
  · exact n12 (List.mem_singleton.mp h)
theorem hlF_hl (c : Int) : Hl (hlF c) 3 := ⟨hlF_nd c, Nat.le_refl _, fun p hp => by
  obtain ⟨k, hk, rfl⟩ := hlF_mem hp
  show k ≤ 2
  omega⟩
theorem hlF_wh (c : Int) : Wh (wordsF c 9) (hlF c) := ⟨by rw [wordsF_len]; decide, by rw [wordsF_len]; decide, fun p hp => by
  obtain ⟨k, hk, rfl⟩ := hlF_mem hp
  exact ⟨wordF_wd c _, by show k ≤ 2; omega⟩, by show 3 ≤ 10; decide⟩
theorem hlF_z (c : Int) : ∀ p ∈ hlF c, p.1 ≠ "z" := fun p hp => by
  obtain ⟨k, hk, rfl⟩ := hlF_mem hp
  exact wordF_two c _ (by decide +kernel)
theorem hlF_8 (c : Int) : ∀ p ∈ hlF c, p.1 ≠ wordF c 8 := fun p hp e => by
  obtain ⟨k, hk, rfl⟩ := hlF_mem hp
  have h5 := (offF_at c).2
  have := wordF_inj (i := offF c + k) (j := 8) (by omega) (by omega) e
  omega
/-! what the answers are -/
theorem ans_form (P : Nat → Prop) (f c : Str) (hfc : f ≠ c) : ∀ (as : List Str) (P : Nat → Prop) (_ : ∀ i, P (i + 1) → P i) (_ : ∀ (i : Nat) (u : Str), as[i]? = some u → (u = f ∧ P i) ∨ (u = c ∧ ¬ P i)),
    ∃ k m, as = List.replicate k f ++ List.replicate m c ∧ k + m = as.length ∧ (∀ i, i < k → P i) ∧ ∀ i, k ≤ i → i < k + m → ¬ P i
  | [], P, _, _ => ⟨0, 0, rfl, rfl, fun i h => absurd h (by omega), fun i h h2 => absurd h2 (by omega)⟩
  | u :: r, P, mono, h => by
    obtain ⟨k, m, e, el, h1, h2⟩ := ans_form P f c hfc r (fun i => P (i + 1)) (fun i => mono (i + 1)) (fun i v hv => h (i + 1) v (by simpa using hv))
    rcases h 0 u rfl with ⟨rfl, p0⟩ | ⟨rfl, p0⟩
    · refine ⟨k + 1, m, by rw [e]; rfl, by rw [List.length_cons]; omega, fun i hi => ?_, fun i hi hi2 => ?_⟩
      · cases i with
        | zero => exact p0
        | succ j => exact h1 j (by omega)
      · cases i with
        | zero => omega
        | succ j => exact h2 j (by omega) (by omega)
    · have all : ∀ i, ¬ P i := fun i => by
        induction i with
        | zero => exact p0
        | succ j ih => exact fun z => ih (mono j z)
      have k0 : k = 0 := by
        cases k with
        | zero => rfl
        | succ k => exact absurd (h1 0 (by omega)) (all _)
      subst k0
      refine ⟨0, m + 1, by rw [e]; rfl, by rw [List.length_cons]; omega, fun i hi => absurd hi (by omega), fun i _ _ => all i⟩
theorem un_nil : Un [] := ⟨fun _ => Option.none, fun _ _ h => absurd h List.not_mem_nil, fun _ h => absurd h List.not_mem_nil⟩
theorem ans_of {sides : List (HF.Side Str)} {as : List Str} (h : Ans sides as) : ∃ k m, as = List.replicate k ("filled" : Str) ++ List.replicate m ("clash" : Str) ∧ k + m = sides.length ∧ Un (sides.take k) ∧ (0 < m → ¬ Un sides) := by
  obtain ⟨k, m, e, el, h1, h2⟩ := ans_form (fun _ => True) "filled" "clash" (by decide +kernel) as (fun i => Un (sides.take (i + 1))) (fun i z => un_sub z fun x hx => by
    have e2 : sides.take (i + 1) = (sides.take (i + 1 + 1)).take (i + 1) := by rw [List.take_take, Nat.min_eq_left (by omega)]
    rw [e2] at hx
    exact List.mem_of_mem_take hx) h.yes
  have hl := h.len
  refine ⟨k, m, e, by omega, ?_, fun hm => ?_⟩
  · cases k with
    | zero => exact un_nil
    | succ k => exact h1 k (by omega)
  · have := h2 (k + m - 1) (by omega) (by omega)
    rw [show k + m - 1 + 1 = sides.length by omega, List.take_length] at this
    exact this
theorem ans_last {sides : List (HF.Side Str)} {as : List Str} (h : Ans sides as) (hne : 0 < sides.length) : ∃ u, atI (as.map V.str) (-1) = some (.str u) ∧ ((u = "filled" ∧ Un sides) ∨ (u = "clash" ∧ ¬ Un sides)) := by
  have hl := h.len
  obtain ⟨u, eu⟩ : ∃ u, as[as.length - 1]? = some u := ⟨_, List.getElem?_eq_getElem (by omega)⟩
  refine ⟨u, ?_, ?_⟩
  · unfold atI ixN
    rw [List.length_map, if_neg (by decide), if_pos (by omega)]
    show (as.map V.str)[_]? = _
    rw [show ((-1 : Int) + (as.length : Int)).toNat = as.length - 1 by omega, List.getElem?_map, eu]
    rfl
  · have := h.yes _ u eu
    rw [show as.length - 1 + 1 = sides.length by omega, List.take_length] at this
    exact this
theorem clash_num (k m : Nat) : ((List.replicate k ("filled" : Str) ++ List.replicate m ("clash" : Str)).filter fun u => decide (u = ("clash" : Str))).length = m := by
  have h : ¬ (("filled" : Str) = ("clash" : Str)) := by decide +kernel
  rw [List.filter_append, List.filter_replicate, List.filter_replicate]
  simp [h]
theorem AtSds.split {H : Hp} : ∀ {l : List (HF.Side Str)} {x : HF.Side Str} {vs : List V}, AtSds H (l ++ [x]) vs → ∃ vs' v, vs = vs' ++ [v] ∧ AtSds H l vs' ∧ AtSd H x v
  | [], x, vs, ⟨v, vs', e, h1, h2⟩ => ⟨[], v, by rw [e, show vs' = [] from h2]; rfl, rfl, h1⟩
  | z :: r, x, vs, ⟨v, vs', e, h1, h2⟩ => by
    obtain ⟨ws, u, e2, h3, h4⟩ := AtSds.split (l := r) (x := x) h2
    exact ⟨v :: ws, u, by rw [e, e2]; rfl, ⟨v, ws, rfl, h1, h3⟩, h4⟩

theorem no8 {c : Int} {sides : List (HF.Side Str)} {B : List Str} (sp : ∀ x ∈ sides, Sp8 B (hlF c) x) : ∀ d, (wordF c 8, d) ∉ sdsH sides := fun d hd => hlF_8 c _ (List.mem_filter.mp ((mem_own sp _).mpr hd)).1 rfl
def x1 (c : Int) (u : Str) : HF.Side Str := (0, .hole (wordF c 8) [], .sign u .nil)
def x3a (c : Int) : HF.T Str := .sign "s" (.cons 1 (.hole (wordF c 8) [0]) .nil)
def x3b : HF.T Str := .sign "s" (.cons 1 (.name 0) .nil)
def x3 (c : Int) : HF.Side Str := (0, x3a c, x3b)
theorem un_x1 {c : Int} {sides : List (HF.Side Str)} {B : List Str} (sp : ∀ x ∈ sides, Sp8 B (hlF c) x) (hu : Un sides) (u : Str) : Un (sides ++ [x1 c u]) :=
  un_ext (w := wordF c 8) (m := 0) hu (no8 sp) (fun _ => .sign u .nil) (fun θ g => ⟨rfl, fun x hx => hx.elim⟩) (fun p hp => .inl (List.mem_singleton.mp hp)) fun θ θ' g h1 h2 => (fil_some h2).trans rfl
theorem un_x3 {c : Int} {sides : List (HF.Side Str)} {B : List Str} (sp : ∀ x ∈ sides, Sp8 B (hlF c) x) (hu : Un sides) : Un (sides ++ [x3 c]) :=
  un_ext (w := wordF c 8) (m := 1) hu (no8 sp) (fun _ => .name 0) (fun θ g => ⟨rfl, fun x hx => by
    simp only [HF.fr] at hx
    omega⟩) (fun p hp => .inl (List.mem_singleton.mp hp)) fun θ θ' g h1 h2 => by
    have e : HF.fil θ' (.hole (wordF c 8) [0] : HF.T Str) = .name 0 := (fil_some h2).trans rfl
    show (.sign ("s" : Str) (.cons 1 (HF.fil θ' (.hole (wordF c 8) [0])) .nil) : HF.T Str) = .sign ("s" : Str) (.cons 1 (.name 0) .nil)
    rw [e]
theorem sx_3a (c : Int) {hl : List (Str × Nat)} (h : (wordF c 8, 1) ∈ hl) : Sx (BW (wordsF c 9)) hl (x3a c) := by
  refine ⟨fun x hx => ?_, ⟨?_, trivial⟩, ⟨BW_s _, ⟨by show 1 ≤ 3; decide, fun z hz => ?_⟩, wordF_wd c 8, trivial⟩, fun p hp => ?_, by show 1 + Nat.max 2 0 ≤ 4; decide, by show 1 + (2 + 0) ≤ 28; decide, by show 1 ≤ 2; decide⟩
  · simp [x3a, HF.fr, HF.frL] at hx
  · exact List.nodup_cons.mpr ⟨List.not_mem_nil, List.nodup_nil⟩
  · rw [List.mem_singleton.mp (show z ∈ [(1, (.hole (wordF c 8) [0] : HF.T Str))] from hz)]; show 1 ≤ 2; decide
  · rw [List.mem_singleton.mp (show p ∈ [(wordF c 8, 1)] from hp)]; exact h
theorem sx_3b (c : Int) {hl : List (Str × Nat)} : Sx (BW (wordsF c 9)) hl x3b := by
  refine ⟨fun x hx => ?_, ⟨trivial, trivial⟩, ⟨BW_s _, ⟨by show 1 ≤ 3; decide, fun z hz => ?_⟩, trivial, trivial⟩, fun p hp => (by cases hp), by show 1 + Nat.max 1 0 ≤ 4; decide, by show 1 + (1 + 0) ≤ 28; decide, by show 0 ≤ 2; decide⟩
  · simp [x3b, HF.fr, HF.frL] at hx
  · rw [List.mem_singleton.mp (show z ∈ [(1, (.name 0 : HF.T Str))] from hz)]; decide

end HW
end
section
set_option Elab.async false
set_option linter.all false
set_option maxRecDepth 100000
set_option maxHeartbeats 4000000
namespace HW
open PySem PySem.Spec PyProof.Rows L2 NdefX LamX
/-! ### law, the walk -/
open TL
theorem AtI.rev {α : Type} {AI : Hp → α → V → Prop} {H : Hp} {xs : List α} {vs : List V} (h : AtI AI H xs vs) : AtI AI H xs.reverse vs.reverse := by
  refine ⟨by simp [h.len], fun j v hv => ?_⟩
  have hl := h.len
  have hj : j < vs.length := by have := (List.getElem?_eq_some_iff.mp hv).1; simpa using this
  rw [List.getElem?_reverse hj] at hv
  rw [List.getElem?_reverse (by omega), ← hl]
  exact h.get _ v hv
theorem ints_of : ∀ {ys : List V}, (∀ (j : Nat) (y : V), ys[j]? = some y → ∃ v : Int, y = .int v) → ∃ cs : List Int, ys = cs.map V.int
  | [], _ => ⟨[], rfl⟩
  | y :: r, h => by
    obtain ⟨v, rfl⟩ := h 0 y rfl
    obtain ⟨cs, e⟩ := ints_of (ys := r) fun j z hz => h (j + 1) z (by simpa using hz)
    exact ⟨v :: cs, by rw [e]; rfl⟩
theorem rg13 : ∀ m : Fin 64, 1 ≤ m.val → Builtin.Range.small 0 (m.val : Int) 13 = true ∧ Builtin.Range.rangeSize 0 (m.val : Int) 13 = ((Builtin.Range.rangeSize 0 (m.val : Int) 13).toNat : Int) ∧ 1 ≤ (Builtin.Range.rangeSize 0 (m.val : Int) 13).toNat ∧ (Builtin.Range.rangeSize 0 (m.val : Int) 13).toNat ≤ 5 := by decide +kernel
section
variable {P : Program} {w : World} {K : PySem.W.Frag} {mg : Str → Option Value} {base : Heap}
def spLaw (K : PySem.W.Frag) (T : List NTab) : Sp := fun vs H Q _ => ∃ (a : Addr) (ns : List Int), vs = [.ref a] ∧ SqL K H a (ns.map V.int) ∧ ns.length ≤ 63 ∧ TabsN T H ∧ ∀ H', Q (.bl true) H'
theorem sc_law : FnScope ["_law_script", "_law_seed", "_law_words_here", "_law_off", "_law_k", "_law_holes", "_law_pairs", "_law_cells", "_law_desk", "_law_answers", "_law_many", "_law_one", "_law_other", "_law_hole", "_law_wide", "_law_j", "_law_word"] ["_law_script"] (defScope s_law) := ⟨rfl, rfl, rfl, by decide +kernel, rfl, by decide +kernel, by decide +kernel⟩
theorem fn_by {d : He.DefD} {N ps : List Str} {k : Nat} {sp : Sp} {dv : List V} {kw : List (Str × V)} {f : Addr} {fd : FuncData} (F : FunD K d.name d.qual d.params d.body d.scope dv kw f fd)
    (Sc : FnScope N ps d.scope) (len : ∀ vs H Q E, sp vs H Q E → vs.length = ps.length)
    (hbody : ∀ (f : Addr) (cdv : Value) (A : Around) (outer : List Env) (s : Shared) (H : Hp) (vs : List V) (Q : VK) (E : XK), Room k (A.deeper (envOfC d.qual d.scope s.heap.objs.size f cdv)) → sp vs H Q E →
      ∃ t, PSs (cxOf CX0 P w K mg base N d.qual d.scope f cdv A outer s H E).nox d.body t ∧ t { nx := fun _ H' => Q .non H', rt := Q } (start N vs) H) : FnOk P w K mg base CX0 (k + 1) f fd ps sp :=
  F.ok Sc len fun cdv A outer s H vs Q E hr h => (let ⟨t, h1, h2⟩ := hbody _ cdv A outer s H vs Q E hr h; ⟨t, h1.nox, h2⟩)
theorem ok_law (S : Cn K mg base) (n : Nat) (hn : 64 ≤ n) (hn2 : n ≤ 300)
    (hCe : Has P w K mg base "_law_cell_at" 1 ["_law_script", "_law_k"] [] (spCellAt K))
    (hWo : Has P w K mg base "_law_words" 2 ["_law_cell", "_law_many"] [] (spWordsL (TT K)))
    (hM : Has P w K mg base "_law_mix" 1 ["_law_cell", "_law_place"] [] spMix)
    (hPr : Has P w K mg base "_law_pair" (2 * n + 7) ["_law_cells", "_law_seed", "_law_words_here", "_law_holes"] [] (spPr (TT K) n))
    (hD : C8.Mak P w K mg base 3 "Desk" (He.ga K "Desk") (spDInit K (TT K)) [])
    (hTo : ∀ c, Has P w K mg base "_law_told" (3 * n + 22) ["_law_desk", "_law_pairs"] [] (spTold8 K (TT K) n (wordsF c 9) (hlF c)))
    (hSu : ∀ c, Has P w K mg base "_law_shut" (3 * n + 22) ["_law_desk", "_law_one"] [] (spShut K (TT K) n (BW (wordsF c 9))))
    (hFA : ∀ c, Has P w K mg base "_law_filled_alike" (3 * n + 22) ["_law_desk", "_law_one", "_law_other"] [] (spFA K (TT K) n (wordsF c 9) (hlF c)))
    (hBk : C8.Met P w K mg base (3 * n + 21) (He.ga K "Desk") "say" (spDBack K (TT K) n) [])
    (hSt : ∀ c, C8.Met P w K mg base (3 * n + 21) (He.ga K "Desk") "say" (spSStands K (TT K) n (BW (wordsF c 9)) 4 28 4) [])
    (hPa : ∀ c, C8.Met P w K mg base (3 * n + 21) (He.ga K "Desk") "say" (spSPair K (TT K) n (BW (wordsF c 9)) 4 28 4) [])
    (hSh : Has P w K mg base "shown" (2 * n + 3) ["term", "scope"] [.int 0] (spShown (TT K) n))
    {dv0 : List V} {kw0 : List (Str × V)} {f0 : Addr} {fd0 : FuncData} (F0 : FunD K d_law.name d_law.qual d_law.params d_law.body d_law.scope dv0 kw0 f0 fd0) :
    FnOk P w K mg base CX0 (3 * n + 23) f0 fd0 ["_law_script"] (spLaw K (TT K)) := by
  refine fn_by (d := d_law) F0 sc_law (fun vs H Q E h => ?_) (fun f cdv A outer s H vs Q E hr h => ?_)
  · obtain ⟨a, ns, rfl, _⟩ := h
    rfl
  obtain ⟨a, ns, rfl, hq, hlen, hT, q⟩ := h
  refine ⟨_, (pss_cons (ps_set (i := 1) sc_law.nd rfl (Or.inl rfl) (pe_hs hCe hr (by omega) rfl (pa_cons (pv 0) (pa_cons pe_int pa_nil)))) (pss_cons (ps_set (i := 2) sc_law.nd rfl (Or.inr rfl) (pe_hs hWo hr (by omega) rfl (pa_cons (pv 1) (pa_cons pe_int pa_nil)))) (pss_cons (ps_set (i := 3) sc_law.nd rfl (Or.inr rfl) (pe_ix ix_list (pe_lst (pa_cons pe_int (pa_cons pe_int (pa_cons pe_int pa_nil)))) (pe_op op_mod (pe_hs hM hr (by omega) rfl (pa_cons (pv 1) (pa_cons pe_int pa_nil))) pe_int) (fun _ _ => rfl))) (pss_cons (ps_setLc (i := 5) (own := [("_law_k", 4)]) (g := (gName 4)) (by rfl) sc_law.nd rfl rfl (sw_true rfl rfl rfl (by decide +kernel)) (pi_range1 (by rfl) (S.free 62) (pa_cons pe_int pa_nil)) (blkOk_by (N := ["_law_script", "_law_seed", "_law_words_here", "_law_off", "_law_k", "_law_holes", "_law_pairs", "_law_cells", "_law_desk", "_law_answers", "_law_many", "_law_one", "_law_other", "_law_hole", "_law_wide", "_law_j", "_law_word"]) (sc := defScope s_law) (by decide +kernel)) (fun _ _ _ _ _ => (pg_name (i := 4) sc_law.nd rfl (Or.inl rfl))) (fun _ _ _ _ _ => pts_nil) (fun _ _ _ _ _ => (pe_tup (pa_cons (ixLK (K := K) rfl (pv 2) (pe_op op_add (pv 3) (pv 4)) (fun _ _ => rfl)) (pa_cons (pv 4) pa_nil))))) (pss_cons (ps_set (i := 6) sc_law.nd rfl (Or.inl rfl) (pe_lst pa_nil)) (pss_cons (ps_for PassesOwn.never rfl (pi_range3 (by rfl) (S.free 62) (pa_cons pe_int (pa_cons (pe_callB (call_max2 rfl) (by rfl) (S.free 69) (by decide +kernel) (pa_cons pe_int (pa_cons (pe_callB (call_min2 rfl) (by rfl) (S.free 68) (by decide +kernel) (pa_cons (pe_callB call_len_seq (by rfl) (S.free 58) (by decide +kernel) (pa_cons (pv 0) pa_nil)) (pa_cons pe_int pa_nil))) pa_nil))) (pa_cons pe_int pa_nil)))) (pg_name (i := 4) sc_law.nd rfl (Or.inl rfl)) (pss_cons (ps_setLc (i := 7) (own := [("_law_j", 15)]) (g := (gName 15)) (by rfl) sc_law.nd rfl rfl (sw_true rfl rfl rfl (by decide +kernel)) (pi_range2 (by rfl) (S.free 62) (pa_cons (pv 4) (pa_cons (pe_callB (call_min2 rfl) (by rfl) (S.free 68) (by decide +kernel) (pa_cons (pe_op op_add (pv 4) pe_int) (pa_cons (pe_callB call_len_seq (by rfl) (S.free 58) (by decide +kernel) (pa_cons (pv 0) pa_nil)) pa_nil))) pa_nil))) (blkOk_by (N := ["_law_script", "_law_seed", "_law_words_here", "_law_off", "_law_k", "_law_holes", "_law_pairs", "_law_cells", "_law_desk", "_law_answers", "_law_many", "_law_one", "_law_other", "_law_hole", "_law_wide", "_law_j", "_law_word"]) (sc := defScope s_law) (by decide +kernel)) (fun _ _ _ _ _ => (pg_name (i := 15) sc_law.nd rfl (Or.inl rfl))) (fun _ _ _ _ _ => pts_nil) (fun _ _ _ _ _ => (pe_op op_add (ixLK (K := K) rfl (pv 0) (pv 15) (fun _ _ => rfl)) (pe_op op_mul pe_int (pe_callB (cr_sumK (K := K) rfl rfl) (by rfl) (S.free 67) (by decide +kernel) (pa_cons (pe_slice (slLK (K := K) rfl) (pv 0) (po_some (pe_op op_add (pv 15) pe_int)) (po_some (pe_op op_add (pv 15) pe_int))) pa_nil)))))) (pss_one (ps_expr (pe_bm PySem.F.plainAttrs_list PySem.F.slot_list_append PySem.F.type_list_append mt_append (pv 6) (pa_cons (pe_hs hPr hr (by omega) rfl (pa_cons (pv 7) (pa_cons (pe_callB (cr_sum rfl) (by rfl) (S.free 67) (by decide +kernel) (pa_cons (pe_slice sl_list (pv 7) po_none (po_some pe_int)) pa_nil)) (pa_cons (pv 2) (pa_cons (pv 5) pa_nil))))) pa_nil)))))) (pss_cons (ps_set (i := 8) sc_law.nd rfl (Or.inl rfl) (pe_mk0 hD hr (by omega) rfl)) (pss_cons (ps_set (i := 9) sc_law.nd rfl (Or.inl rfl) (pe_hs (hTo (ns.getD 0 0)) hr (by omega) rfl (pa_cons (pv 8) (pa_cons (pv 6) pa_nil)))) (pss_cons (ps_if (pt_cmpR op_ne (pe_ix ix_list (pe_hs (hTo (ns.getD 0 0)) hr (by omega) rfl (pa_cons (pe_mk0 hD hr (by omega) rfl) (pa_cons (HWl.pe_listRev rfl (by rfl) (S.free 60) (by rfl) (S.free 73) (pv 6)) pa_nil))) (pe_un un_neg pe_int) (fun _ _ => rfl)) (pe_ix ix_list (pv 9) (pe_un un_neg pe_int) (fun _ _ => rfl)) (nomark _)) (pss_one (ps_ret pe_bl)) pss_nil) (pss_cons (ps_set (i := 10) sc_law.nd rfl (Or.inl rfl) (pe_callB call_len_seq (by rfl) (S.free 58) (by decide +kernel) (pa_cons (pe_lc (own := [("_law_word", 16)]) (g := (gName 16)) (by rfl) sc_law.nd (pi_list (pv 9)) (blkOk_by (N := ["_law_script", "_law_seed", "_law_words_here", "_law_off", "_law_k", "_law_holes", "_law_pairs", "_law_cells", "_law_desk", "_law_answers", "_law_many", "_law_one", "_law_other", "_law_hole", "_law_wide", "_law_j", "_law_word"]) (sc := defScope s_law) (by decide +kernel)) (fun _ _ _ _ _ => (pg_name (i := 16) sc_law.nd rfl (Or.inl rfl))) (fun _ _ _ _ _ => (pts_one (ptEq (pv 16)))) (fun _ _ _ _ _ => (pv 16))) pa_nil))) (pss_cons (ps_if (pt_cmpR (op_neB (D := 3) (Room.un hr (by omega))) (pv 9) (pe_op op_cat (pe_op op_rep (pe_lst (pa_cons pe_str pa_nil)) (pe_op op_sub (pe_callB call_len_seq (by rfl) (S.free 58) (by decide +kernel) (pa_cons (pv 6) pa_nil)) (pv 10))) (pe_op op_rep (pe_lst (pa_cons pe_str pa_nil)) (pv 10))) (nomark _)) (pss_one (ps_ret pe_bl)) pss_nil) (pss_cons (ps_if (PW.pt (pw_and (pt_cmpR op_gt (pv 10) pe_int (nomark _)) (pw_and1 (pt_not (pt_val (pe_hs (hSu (ns.getD 0 0)) hr (by omega) rfl (pa_cons (pv 8) (pa_cons (ixT (pe_ix ix_list (pv 6) pe_int (fun _ _ => rfl))) pa_nil)))))))) (pss_one (ps_ret pe_bl)) pss_nil) (pss_cons (ps_for PassesOwn.never rfl (pi_range1 (by rfl) (S.free 62) (pa_cons (pv 10) pa_nil)) (pg_name (i := 4) sc_law.nd rfl (Or.inl rfl)) (pss_one (ps_if (ptNe (C8.pe_mt hBk hr (by omega) (pv 8) (pa_cons pe_str pa_nil))) (pss_one (ps_ret pe_bl)) pss_nil))) (pss_cons (ps_for PassesOwn.never rfl (pi_list (pe_slice sl_list (pv 6) po_none (po_some (pe_op op_sub (pe_callB call_len_seq (by rfl) (S.free 58) (by decide +kernel) (pa_cons (pv 6) pa_nil)) (pv 10))))) (pg_tup rfl (pgs_cons (pg_name (i := 11) sc_law.nd rfl (Or.inl rfl)) (pgs_cons (pg_name (i := 12) sc_law.nd rfl (Or.inl rfl)) pgs_nil))) (pss_one (ps_if (pt_not (pt_val (pe_hs (hFA (ns.getD 0 0)) hr (by omega) rfl (pa_cons (pv 8) (pa_cons (pv 11) (pa_cons (pv 12) pa_nil)))))) (pss_one (ps_ret pe_bl)) pss_nil))) (pss_cons (ps_set (i := 13) sc_law.nd rfl (Or.inl rfl) (pe_op op_add_str pe_str (pe_ix ix_list (pv 2) pe_int (fun _ _ => rfl)))) (pss_cons (ps_if (ptNe (C8.pe_mt (hSt (ns.getD 0 0)) hr (by omega) (pv 8) (pa_cons (pe_op op_add_str (pe_op op_add_str pe_str (pv 13)) pe_str) pa_nil))) (pss_one (ps_ret pe_bl)) pss_nil) (pss_cons (ps_if (PW.pt (pw_or (ptNe (C8.pe_mt (hPa (ns.getD 0 0)) hr (by omega) (pv 8) (pa_cons (pe_op op_add_str (pe_op op_add_str (pe_op op_add_str pe_str (pv 13)) pe_str) (pe_ix ix_list (pv 2) pe_int (fun _ _ => rfl))) pa_nil))) (pw_or1 (ptNe (C8.pe_mt hBk hr (by omega) (pv 8) (pa_cons pe_str pa_nil)))))) (pss_one (ps_ret pe_bl)) pss_nil) (pss_cons (ps_set (i := 14) sc_law.nd rfl (Or.inl rfl) (pe_tup (pa_cons pe_str (pa_cons pe_str (pa_cons (pe_tup (pa_cons (pe_tup (pa_cons pe_int (pa_cons (pe_tup (pa_cons pe_str (pa_cons (pe_ix ix_list (pv 2) pe_int (fun _ _ => rfl)) (pa_cons (pe_tup (pa_cons (pe_tup (pa_cons pe_str (pa_cons pe_int pa_nil))) pa_nil)) pa_nil)))) pa_nil))) pa_nil)) pa_nil))))) (pss_one (ps_ret (pe_cmpR op_eq (C8.pe_mt (hPa (ns.getD 0 0)) hr (by omega) (pv 8) (pa_cons (pe_op op_add_str (pe_op op_add_str (pe_op op_add_str pe_str (pe_hs hSh hr (by omega) rfl (pa_cons (pv 14) pa_nil))) pe_str) (pe_hs hSh hr (by omega) rfl (pa_cons (pe_tup (pa_cons pe_str (pa_cons pe_str (pa_cons (pe_tup (pa_cons (pe_tup (pa_cons pe_int (pa_cons (pe_tup (pa_cons pe_str (pa_cons pe_int pa_nil))) pa_nil))) pa_nil)) pa_nil)))) pa_nil))) pa_nil)) pe_str (nomark _)))))))))))))))))))))), ?_⟩
  obtain ⟨c, hc⟩ : ∃ c, c = ns.getD 0 0 := ⟨_, rfl⟩
  simp only [← hc]
  have ho := offF_at c
  refine ⟨_, rfl, a, ns, 0, rfl, hq, ?_⟩
  simp only [← hc]
  refine ⟨_, rfl, c, 9, rfl, by decide, hT, fun H1 lw g1 ew => ?_⟩
  refine ⟨szl (by decide), fun p2 h2 => ?_⟩
  have g2 := Gr.new0 (X := []) (o := .lst [.int 5, .int 0, .int 2]) g1.tab h2
  refine ⟨_, rfl, c, 59, rfl, by decide, _, _, rfl, rfl, (by show (0 : Int) < 3; decide), ?_⟩
  refine ⟨_, _, _, _, rfl, rfl, SqL.of upd_same, ho.1, ?_⟩
  have gA := g1.trans g2
  refine ⟨_, rfl, by decide, by decide, fun lh hlh => ?_⟩
  refine lc_mapR (T := TT K) (lo := 0) (n := 3) (fun H i y => HlAt H (wordF c (offF c + i), i) y) g2.tab hlh (szl (by decide)) (fun H H' i y g z => z.mono g) (fun H i y acc e z l => z.upd e) (fun i H' Q' Pz hi g3 hq3 => ?_) fun H3 hv g3 eh hlen3 hr3 => ?_
  · refine ⟨rfl, yesT ?_⟩
    refine ⟨_, rfl, _, rfl, _, rfl, _, _, rfl, rfl, lw, _, _, _, rfl, rfl, SqL.of ((g2.trans g3).lst ew), (show atI _ ((offF c : Int) + (0 + (i : Int))) = _ by rw [show ((offF c : Int) + (0 + (i : Int))) = ((offF c + i : Nat) : Int) by omega]; exact wordsV_at c _ (by omega)), ?_⟩
    refine ⟨_, rfl, szl (by show 2 ≤ 10000000; decide), fun p hp => ?_⟩
    refine hq3 _ _ (Gr.new0 g3.tab hp) ⟨p, rfl, ?_⟩
    rw [upd_same, show (0 + (i : Int)) = (i : Int) by omega]
  have ah : AtI HlAt H3 (hlF c) hv := ⟨by rw [hlen3]; rfl, fun j y hy => by
    have hj : j < 3 := by have := (List.getElem?_eq_some_iff.mp hy).1; omega
    exact ⟨_, by unfold hlF; rw [List.getElem?_map, List.getElem?_range hj] <;> rfl, hr3 j y hy⟩⟩
  have gB := gA.trans g3
  have ew := (g2.trans g3).lst ew
  refine ⟨szl (by decide), fun lp hlp => ?_⟩
  have g4 := Gr.new0 (X := []) (o := .lst []) g3.tab hlp
  have gC := gB.trans g4
  refine ⟨_, rfl, a, _, rfl, .inl (gC.sqL hq), _, _, rfl, _, _, rfl, ?_⟩
  obtain ⟨M, eM, hM1, hM2⟩ : ∃ M : Nat, (if (if (63 : Int) < ((ns.map V.int).length : Int) then 63 else ((ns.map V.int).length : Int)) > 1 then (if (63 : Int) < ((ns.map V.int).length : Int) then 63 else ((ns.map V.int).length : Int)) else 1) = (M : Int) ∧ 1 ≤ M ∧ M ≤ 63 := by
    rw [List.length_map, if_neg (show ¬ (63 : Int) < (ns.length : Int) by omega)]
    by_cases h0 : 1 < ns.length
    · exact ⟨ns.length, by rw [if_pos (by omega)], by omega, hlen⟩
    · exact ⟨1, by rw [if_neg (by omega)]; rfl, by omega, by omega⟩
  obtain ⟨N, r1, r2, r3, r4⟩ : ∃ N : Nat, Builtin.Range.small 0 (M : Int) 13 = true ∧ Builtin.Range.rangeSize 0 (M : Int) 13 = (N : Int) ∧ 1 ≤ N ∧ N ≤ 5 := ⟨_, rg13 ⟨M, by omega⟩ hM1⟩
  refine ⟨0, _, 13, N, rfl, ⟨by decide, by decide, by rw [eM]; exact r1, by rw [eM]; exact r2⟩, ?_⟩
  refine for_rangeC (lo := 0) (c := 13) (n := N) (fun i σ H' => ∃ (o4 o7 : Option V) (prs : List PrR) (pv : List V), σ = [some (.ref a), some (.int c), some (.ref lw), some (.int (offF c : Int)), o4, some (.ref lh), some (.ref lp), o7, none, none, none, none, none, none, none, none, none] ∧ Gr (TT K) [] H3 H' ∧ H' lp = some (.lst pv) ∧ AtI PrAt H' prs pv ∧ (∀ y ∈ prs, Gp (wordsF c 9) (hlF c) n y) ∧ prs.length = i)
    ⟨_, _, [], [], rfl, g4, upd_same, ⟨rfl, fun j y h => by simp at h⟩, fun y hy => absurd hy List.not_mem_nil, rfl⟩ ?_ ?_
  · rintro i σ H5 hi ⟨o4, o7, prs, pv, rfl, g5, elp, api, hg, hpl⟩
    have gD := gB.trans g5
    have sq := gD.sqL hq
    refine ⟨_, rfl, _, rfl, _, _, rfl, rfl, _, rfl, a, _, rfl, .inl sq, _, _, rfl, ?_⟩
    obtain ⟨j, ej, hj1, hj2⟩ : ∃ j : Int, (if ((ns.map V.int).length : Int) < 0 + (i : Int) * 13 + 7 then ((ns.map V.int).length : Int) else 0 + (i : Int) * 13 + 7) = j ∧ j ≤ (ns.length : Int) ∧ 0 ≤ j := by
      rw [List.length_map]
      by_cases h0 : (ns.length : Int) < 0 + (i : Int) * 13 + 7
      · exact ⟨_, if_pos h0, by omega, by omega⟩
      · exact ⟨_, if_neg h0, by omega, by omega⟩
    simp only [ej]
    refine ⟨_, _, rfl, ⟨by omega, by omega, by omega, by omega⟩, fun lc hlc => ?_⟩
    refine lc_mapR (T := TT K) (lo := 0 + (i : Int) * 13) (fun H k y => ∃ v : Int, y = .int v) g5.tab hlc (szl (by omega)) (fun H H' k y g z => z) (fun H k y acc e z l => z) (fun t H' Q' Pz ht g6 hq6 => ?_) fun H6 cv g6 ec hlen6 hr6 => ?_
    · refine ⟨rfl, yesT ?_⟩
      obtain ⟨z, ez⟩ : ∃ z, ns[i * 13 + t]? = some z := ⟨_, List.getElem?_eq_getElem (by omega)⟩
      refine ⟨_, rfl, _, rfl, a, _, _, .int z, rfl, rfl, g6.sqL sq, at_of (j := i * 13 + t) (by omega) (by rw [List.getElem?_map, ez]; rfl), ?_⟩
      obtain ⟨ms, ems, lms⟩ := cut_ints ns (some (0 + (i : Int) * 13 + (t : Int) + 7)) (some (0 + (i : Int) * 13 + (t : Int) + 8))
      refine ⟨_, rfl, _, rfl, _, _, rfl, rfl, _, rfl, _, rfl, _, _, rfl, rfl, _, rfl, a, _, rfl, g6.sqL sq, fun ps hps => ?_⟩
      rw [ems]
      refine ⟨ps, ms, rfl, SqL.of upd_same, _, _, rfl, rfl, .inl ⟨by decide, by decide⟩, _, _, rfl, rfl, ?_⟩
      exact hq6 _ _ (Gr.new0 g6.tab hps) ⟨_, rfl⟩
    obtain ⟨cs, rfl⟩ := ints_of hr6
    obtain ⟨m7, em7, lm7⟩ := cut_ints cs none (some 1)
    have gE := g5.trans g6
    rw [List.length_map] at hlen6
    have hlc3 : H3 lc = none := g5.back _ hlc
    refine ⟨_, rfl, .inl ⟨rfl, _, SqL.of (g6.lst elp)⟩, ?_⟩
    refine ⟨_, rfl, _, rfl, _, rfl, lc, _, rfl, SqL.of ec, fun pm hpm => ?_⟩
    rw [em7]
    have g7 := Gr.new0 (X := []) (o := .lst (m7.map V.int)) g6.tab hpm
    refine ⟨pm, m7, rfl, SqL.of upd_same, _, rfl, _, rfl, ?_⟩
    have gF := gE.trans g7
    refine ⟨lc, lw, lh, _, cs, wordsF c 9, hlF c, hv, rfl, g7.lst ec, by omega, gF.lst ew, gF.lst eh, ⟨ah.len, fun j y hy => (let ⟨z, a, b⟩ := ah.get j y hy; ⟨z, a, b.mono gF⟩)⟩, hlF_wh c, rfl, hlF_nd c, wordsF_wd c, g7.tab, fun H8 p8 za zb ta tb g8 ep8 pr8 => ?_⟩
    have gG := (g6.trans g7).trans g8
    have hpl2 := api.len
    refine ⟨lp, _, _, rfl, rfl, gG.lst elp, szl' (by omega), ?_⟩
    have el8 := gG.lst elp
    refine ⟨_, _, prs ++ [(za, zb, (0, ta, tb))], pv ++ [.ref p8], rfl, ?_, upd_same, ?_, ?_, by rw [List.length_append, hpl]; rfl⟩
    · exact ((g5.trans gG).mutL (.inl hlp) el8)
    · refine AtI.snoc ⟨api.len, fun j y hy => ?_⟩ ⟨p8, rfl, tup_of_upd el8 ep8⟩
      obtain ⟨z, ez, b, e1, e2⟩ := api.get j y hy
      exact ⟨z, ez, b, e1, tup_of_upd el8 (gG.tup _ _ e2)⟩
    · intro y hy
      rcases List.mem_append.mp hy with hy | hy
      · exact hg y hy
      · rw [List.mem_singleton.mp hy]; exact ⟨rfl, pr8⟩
  · rintro σ H5 ⟨o4, o7, prs, pv, rfl, g5, elp, api, hg, hpl⟩
    have gD := gB.trans g5
    have elw := g5.lst ew
    have hpv := api.len
    clear hCe hWo hM hPr
    -- the first desk
    refine fun k1 kdx1 hk1 hkdx1 hne1 => ?_
    have g6 := (Gr.new0 (X := []) (o := .own k1) g5.tab hkdx1).new (o := .ins (He.ga K "Desk") kdx1 []) (by rw [upd_ne hne1.symm]; exact hk1)
    refine ⟨k1, kdx1, rfl, upd_same, g6.tab, fun H6 b1 bdx1 l1 rr1 g7 hl1 dk1 => ⟨rfl, ?_⟩⟩
    have g67 := g6.drop hk1 g7
    have hl1' : H5 l1 = none := g6.back _ hl1
    have elp6 := g67.lst elp
    have nlp : lp ≠ l1 := fun e => by rw [e, hl1'] at elp; cases elp
    have sl : (sdOf prs).length = prs.length := List.length_map _
    refine ⟨_, rfl, _, rfl, ?_⟩
    refine ⟨k1, kdx1, b1, bdx1, l1, rr1, lp, prs, pv, rfl, dk1, elp6, ⟨api.len, fun j y hy => (let ⟨z, a, b⟩ := api.get j y hy; ⟨z, a, b.mono g67⟩)⟩, nlp, (hlF_hl c).up (by decide), hg, by omega, g67.tab, fun H7 pa as sxs g8 hpa epa ans dk7 => ?_⟩
    have g68 := g67.drop hl1' g8
    obtain ⟨u1, eu1, hu1⟩ := ans_last ans (by omega)
    have hrp : ∀ y ∈ prs.reverse, Gp (wordsF c 9) (hlF c) n y := fun y hy => hg y (List.mem_reverse.mp hy)
    have srev : sdOf prs.reverse = (sdOf prs).reverse := List.map_reverse
    have elp7 := g68.lst elp
    -- the other desk
    refine fun k2 kdx2 hk2 hkdx2 hne2 => ?_
    have g9 := (Gr.new0 (X := []) (o := .own k2) g68.tab hkdx2).new (o := .ins (He.ga K "Desk") kdx2 []) (by rw [upd_ne hne2.symm]; exact hk2)
    refine ⟨k2, kdx2, rfl, upd_same, g9.tab, fun H9 b2 bdx2 l2 rr2 g10 hl2 dk2 => ⟨rfl, ?_⟩⟩
    have g11 := g9.drop hk2 g10
    have hl2' : H7 l2 = none := g9.back _ hl2
    refine ⟨_, rfl, lp, _, rfl, SqL.of (g11.lst elp7), fun lr hlr => ?_⟩
    have g12 := Gr.new0 (X := []) (o := .lst pv.reverse) g11.tab hlr
    have dk2 := dk2.mono g12
    have nlr : lr ≠ l2 := fun e => by
      have := dk2.bd.lst
      rw [← e, upd_same] at this
      have e3 : pv.reverse = [] := by injection (Option.some.inj this)
      have : pv.reverse.length = 0 := by rw [e3]; rfl
      rw [List.length_reverse] at this
      omega
    have g13 := g68.trans (g11.trans g12)
    refine ⟨k2, kdx2, b2, bdx2, l2, rr2, lr, prs.reverse, pv.reverse, rfl, dk2, upd_same, AtI.rev ⟨api.len, fun j y hy => (let ⟨z, a, b⟩ := api.get j y hy; ⟨z, a, b.mono g13⟩)⟩, nlr, (hlF_hl c).up (by decide), hrp, by rw [List.length_reverse]; omega, g12.tab, fun H13 pb as2 sxs2 g14 hpb epb ans2 _ => ?_⟩
    have g15 := (g11.trans g12).drop hl2' g14
    obtain ⟨u2, eu2, hu2⟩ := ans_last ans2 (by rw [srev, List.length_reverse]; omega)
    refine ⟨_, rfl, pb, _, _, _, rfl, rfl, SqL.of epb, eu2, ?_⟩
    have epa := g15.lst epa
    refine ⟨_, rfl, _, rfl, pa, _, _, _, rfl, rfl, SqL.of epa, eu1, ?_⟩
    have hrevU : Un (sdOf prs.reverse) ↔ Un (sdOf prs) := by
      rw [srev]
      exact ⟨fun h => un_sub h fun x hx => List.mem_reverse.mpr hx, fun h => un_sub h fun x hx => List.mem_reverse.mp hx⟩
    have euu : u2 = u1 := by
      rcases hu1 with ⟨e1, q1⟩ | ⟨e1, q1⟩
      · rcases hu2 with ⟨e2, q2⟩ | ⟨e2, q2⟩
        · rw [e1, e2]
        · exact absurd (hrevU.mpr q1) q2
      · rcases hu2 with ⟨e2, q2⟩ | ⟨e2, q2⟩
        · exact absurd (hrevU.mp q2) q1
        · rw [e1, e2]
    refine ⟨rfl, _, rfl, iff' (by rw [euu, decide_eq_true rfl]; rfl) ?_⟩
    have g16 := g68.trans g15
    have dk7 := dk7.mono g15
    obtain ⟨kf, mc, eas, ekm, hunk, hcl⟩ := ans_of ans
    have gtab := g15.tab
    clear g6 g7 g67 g8 g9 g10 g11 g12 g13 g14 hlr nlr epb eu2 hu2
    have hfc : ("filled" : Str) ≠ "clash" := by decide +kernel
    have hL := ans.len
    have ge : Gr (TT K) [] H5 H13 := g16
    -- how many clash
    refine ⟨_, rfl, pa, rfl, ⟨_, SqL.of epa⟩, fun D hD => ?_⟩
    refine lc_list (K := K) (a := pa) (xs := as.map V.str) (fun i H' => ∃ acc : List V, Gr (TT K) [] H13 H' ∧ H' D = some (.lst acc) ∧ acc.length = ((as.take i).filter fun u => decide (u = ("clash" : Str))).length)
      ⟨[], Gr.new0 gtab hD, upd_same, rfl⟩ (fun i H' _ ⟨_, g, _⟩ => SqL.of (g.lst epa)) (fun i x H' hx ⟨acc, g, eD, hal⟩ => ?_) (fun H' ⟨acc, g, eD, hal⟩ => ?_)
    · obtain ⟨u, eu, rfl⟩ : ∃ u, as[i]? = some u ∧ V.str u = x := by
        rw [List.getElem?_map] at hx
        cases q : as[i]? with
        | none => rw [q] at hx; cases hx
        | some u => rw [q] at hx; exact ⟨u, rfl, Option.some.inj hx⟩
      have hil := (List.getElem?_eq_some_iff.mp eu).1
      refine ⟨rfl, ?_⟩
      have hfl : ((as.take i).filter fun u => decide (u = ("clash" : Str))).length ≤ i := Nat.le_trans (List.length_filter_le _ _) (by rw [List.length_take]; omega)
      by_cases hu : u = "clash"
      · refine ⟨_, rfl, rfl, _, rfl, ift (by rw [hu]; exact decide_eq_true rfl) ?_⟩
        refine ⟨_, rfl, acc, eD, szl' (by omega), acc ++ [.str u], g.mutL (.inl hD) eD, upd_same, ?_⟩
        rw [take_snoc eu, List.filter_append, List.length_append, List.length_append, hal, hu]
        rfl
      · refine ⟨_, rfl, rfl, _, rfl, iff' (decide_eq_false fun z => hu (V.str.inj z)) ?_⟩
        refine ⟨acc, g, eD, ?_⟩
        rw [take_snoc eu, List.filter_append, List.length_append, hal, List.filter_cons_of_neg (by simpa using hu)]
        rfl
    rw [List.length_map, List.take_length, eas, clash_num] at hal
    refine ⟨D, _, rfl, .inl (SqL.of eD), ?_⟩
    rw [hal]
    have g17 := g16.trans g
    have epa := g.lst epa
    have elp7 := g17.lst elp
    have gtab := g.tab
    have dk8 := dk7.mono g
    generalize hHx : H' = Hx at g g17 epa elp7 gtab dk8 eD ⊢
    clear hHx eD hal hD
    have hpvk : kf + mc = pv.length := by rw [hpv, ← sl, ekm]
    -- the answers are as they should be
    refine ⟨_, rfl, szl (by decide), fun q1 hq1 => ?_⟩
    have t1 := Gr.new0 (X := []) (o := .lst [.str "filled"]) gtab hq1
    refine ⟨_, rfl, lp, _, rfl, .inl (SqL.of (t1.lst elp7)), _, rfl, _, _, rfl, rfl, q1, _, _, rfl, rfl, upd_same, by omega, by omega, szl (by show 1 * _ ≤ _; omega), fun q2 hq2 => ?_⟩
    have ek : ((pv.length : Int) - (mc : Int)).toNat = kf := by omega
    simp only [ek, List.flatten_replicate_singleton]
    have t2 := Gr.new0 (X := []) (o := .lst (List.replicate kf (V.str "filled"))) t1.tab hq2
    refine ⟨szl (by decide), fun q3 hq3 => ?_⟩
    have t3 := Gr.new0 (X := []) (o := .lst [.str "clash"]) t2.tab hq3
    refine ⟨_, rfl, q3, _, _, rfl, rfl, upd_same, by omega, by omega, szl (by show 1 * _ ≤ _; omega), fun q4 hq4 => ?_⟩
    simp only [show ((mc : Nat) : Int).toNat = mc from rfl, List.flatten_replicate_singleton]
    have t4 := Gr.new0 (X := []) (o := .lst (List.replicate mc (V.str "clash"))) t3.tab hq4
    refine ⟨q2, q4, _, _, rfl, rfl, (t3.trans t4).lst upd_same, upd_same, szl (by rw [List.length_replicate, List.length_replicate]; omega), fun q5 hq5 => ?_⟩
    have evs : List.replicate kf (V.str "filled") ++ List.replicate mc (V.str "clash") = as.map V.str := by rw [eas, List.map_append, List.map_replicate, List.map_replicate]
    simp only [evs]
    have t5 := Gr.new0 (X := []) (o := .lst (as.map V.str)) t4.tab hq5
    have tA := (((t1.trans t2).trans t3).trans t4).trans t5
    have wok : ∀ u ∈ as, wOk u := fun u hu => by
      rw [eas] at hu
      rcases List.mem_append.mp hu with q | q
      · rw [(List.mem_replicate.mp q).2]; decide +kernel
      · rw [(List.mem_replicate.mp q).2]; decide +kernel
    have sok : PyData.canLay0 (.list (as.map PyData.str)) = true := by
      simp only [PyData.canLay0]
      exact strs_ok wok
    refine ⟨.list (as.map PyData.str), .list (as.map PyData.str), .lst (SqL.of (tA.lst epa)) (dp_strs as), .lst (SqL.of upd_same) (dp_strs as), sok, sok, by have := strs_depth as; simp only [PyData.depth]; omega, _, rfl, iff' (by rw [PySem.SeqAt.eqv_refl _ sok]; rfl) ?_⟩
    have g18 := g17.trans tA
    have elp8 := tA.lst elp7
    have dk9 := dk8.mono tA
    have hH9 := g18.tab
    generalize hHy : upd (upd (upd (upd (upd Hx q1 _) q2 _) q3 _) q4 _) q5 _ = Hy at g18 elp8 dk9 hH9 ⊢
    clear hHy hq1 hq2 hq3 hq4 hq5 t1 t2 t3 t4 t5 tA
    have hB := BW_wd (wordsF_wd c)
    have spa := sp_all hg
    have H4 := (hlF_hl c).up (by decide : 3 ≤ 4)
    have prA := prs_of (n := n) H4 (Nat.le_refl 4) spa (by omega)
    -- a clash stays
    by_cases hm : 0 < mc
    case' neg =>
      refine ⟨_, rfl, _, _, rfl, rfl, _, rfl, iff' (decide_eq_false (by omega)) (iteF ?_)⟩
      have gY := g18
      have elpY := elp8
      have dkY := dk9
    case' pos =>
      obtain ⟨v0, ev0⟩ : ∃ v, pv[0]? = some v := ⟨_, List.getElem?_eq_getElem (by omega)⟩
      obtain ⟨y0, ey0, a0, rfl, ea0⟩ := api.get 0 v0 ev0
      have ea0 := g18.tup _ _ ea0
      have hy0 := hg y0 (List.mem_of_getElem? ey0)
      refine ⟨_, rfl, _, _, rfl, rfl, _, rfl, ift (decide_eq_true (by omega)) ?_⟩
      have fall : fnl (sdsH (sdOf prs) ++ HF.hs y0.2.2.2.1) := fun u c1 d1 h1 h2 => by
        have key : ∀ c1, (u, c1) ∈ sdsH (sdOf prs) ++ HF.hs y0.2.2.2.1 → (u, c1) ∈ hlF c := fun c1 h => by
          rcases List.mem_append.mp h with q | q
          · exact (List.mem_filter.mp ((mem_own spa _).mpr q)).1
          · exact hy0.p.sa.hs _ q
        exact fn_hl (hlF_nd c) (key c1 h1) (key d1 h2)
      have hfew0 : (HF.hs y0.2.2.2.1).length ≤ 2 := hy0.p.sa.few
      refine ⟨_, rfl, _, rfl, lp, _, _, _, rfl, rfl, SqL.of elp8, at_of (j := 0) rfl ev0, a0, _, 0, _, rfl, rfl, SqT.of ea0, rfl, ?_⟩
      refine ⟨k1, kdx1, b1, bdx1, l1, rr1, sxs, sdOf prs, _, y0.2.2.2.1, y0.1, rfl, dk9, hy0.p.ra.rx, hH9, prA, fun z => hcl hm ((un_own spa).mp z), fall, by omega, fun Hz gz => ?_⟩
      refine ⟨_, rfl, iff' rfl ?_⟩
      have gY := g18.trans gz
      have elpY := gz.lst elp8
      have dkY := dk9.mono gz
    all_goals
      have tabY := gY.tab
      refine ⟨_, rfl, _, rfl, by omega, by omega, ?_⟩
      refine for_it (walk_range (lo := 0) (n := mc)) (fun i σ H' => ∃ (o4 : Option V) (sx : List V), σ = [some (.ref a), some (.int c), some (.ref lw), some (.int (offF c : Int)), o4, some (.ref lh), some (.ref lp), o7, some (.ref k1), some (.ref pa), some (.int (mc : Int)), none, none, none, none, none, none] ∧ Gr (TT K) [l1] H5 H' ∧ DkAt K H' k1 kdx1 b1 bdx1 l1 rr1 sx ((sdOf prs).take ((sdOf prs).length - i)))
        ⟨_, _, rfl, gY.wide, by rw [Nat.sub_zero, List.take_length]; exact dkY⟩ (fun _ _ _ _ _ => True.intro) ?_ ?_
      · rintro i x σ H1 H2 hi ⟨o4, sx, rfl, gL, dkL⟩ ⟨rfl, rfl⟩
        obtain ⟨j, ej⟩ : ∃ j, (sdOf prs).length - i = j + 1 := ⟨(sdOf prs).length - i - 1, by omega⟩
        obtain ⟨sd, esd⟩ : ∃ sd, (sdOf prs)[j]? = some sd := ⟨_, List.getElem?_eq_getElem (by omega)⟩
        rw [ej, take_snoc esd] at dkL
        obtain ⟨vs', v', rfl, as', av'⟩ := AtSds.split dkL.bd.sds
        have sdm : ∀ y ∈ (sdOf prs).take j ++ [sd], y ∈ sdOf prs := fun y hy => by
          rw [← take_snoc esd] at hy
          exact List.mem_of_mem_take hy
        refine ⟨_, rfl, k1, _, _, rfl, dkL.ins, rfl, ?_⟩
        refine ⟨k1, kdx1, b1, bdx1, l1, rr1, vs', v', _, sd, rfl, dkL, as', gL.tab, fun y hy => ⟨gt.wg (gt_wOk hB) (spa y (sdm y hy)).a.g, gt.wg (gt_wOk hB) (spa y (sdm y hy)).b.g⟩, fun y hy => ⟨by have := (spa y (sdm y hy)).a.ht; omega, by have := (spa y (sdm y hy)).b.ht; omega⟩, fun Hw gw dkw => ?_⟩
        refine ⟨rfl, _, rfl, iff' (by decide +kernel) ?_⟩
        refine ⟨_, vs', rfl, gL.trans gw, ?_⟩
        rw [show (sdOf prs).length - (i + 1) = j by omega]
        exact dkw
      · rintro σ H1 ⟨o4, sx, rfl, gL, dkL⟩
        have g20 := (Gr.refl g5.tab).drop hl1' gL
        have elp9 := g20.lst elp
        have elw9 := g20.lst elw
        rw [show (sdOf prs).length - mc = kf by omega] at dkL
        refine ⟨_, rfl, _, rfl, lp, _, rfl, .inl (SqL.of elp9), _, rfl, _, _, rfl, rfl, _, rfl, lp, _, rfl, SqL.of elp9, fun psl hpsl => ?_⟩
        have ecut : cutV pv none (some ((pv.length : Int) - (mc : Int))) = pv.take kf := by
          show (pv.drop _).take _ = _
          rw [show ((pv.length : Int) - (mc : Int)) = ((kf : Nat) : Int) by omega, six0, sixN (by omega), List.drop_zero, Nat.sub_zero]
        rw [ecut]
        have g21 := Gr.new0 (X := []) (o := .lst (pv.take kf)) g20.tab hpsl
        have gM := g20.trans g21
        have dkM := dkL.mono g21
        have spk : ∀ x ∈ (sdOf prs).take kf, Sp8 (BW (wordsF c 9)) (hlF c) x := fun x hx => spa x (List.mem_of_mem_take hx)
        have lkf : ((sdOf prs).take kf).length ≤ 5 := by rw [List.length_take]; omega
        refine ⟨psl, rfl, ⟨_, SqL.of upd_same⟩, ?_⟩
        refine for_list (K := K) (a := psl) (xs := pv.take kf) (fun i σ H' => ∃ (o11 o12 : Option V), σ = [some (.ref a), some (.int c), some (.ref lw), some (.int (offF c : Int)), o4, some (.ref lh), some (.ref lp), o7, some (.ref k1), some (.ref pa), some (.int (mc : Int)), o11, o12, none, none, none, none] ∧ Gr (TT K) [] (upd H1 psl (.lst (pv.take kf))) H')
          ⟨_, _, rfl, Gr.refl g21.tab⟩ (fun i σ H' _ ⟨_, _, _, g⟩ => SqL.of (g.lst upd_same)) ?_ ?_
        · rintro i x σ H2 hx ⟨o11, o12, rfl, gN⟩
          have hik : i < kf := by
            have := (List.getElem?_eq_some_iff.mp hx).1
            rw [List.length_take] at this
            omega
          rw [List.getElem?_take, if_pos hik] at hx
          obtain ⟨y, ey, ap, rfl, eap⟩ := api.get i x hx
          have eap := (gM.trans gN).tup _ _ eap
          have hy := hg y (List.mem_of_getElem? ey)
          have hmem : y.2.2 ∈ (sdOf prs).take kf := by
            refine List.mem_iff_getElem?.mpr ⟨i, ?_⟩
            rw [List.getElem?_take, if_pos hik]
            unfold sdOf
            rw [List.getElem?_map, ey] <;> rfl
          refine ⟨ap, _, rfl, SqT.of eap, rfl, _, _, rfl, _, _, rfl, rfl, ?_⟩
          refine ⟨_, rfl, _, rfl, _, rfl, k1, kdx1, b1, bdx1, l1, rr1, sx, _, y, rfl, dkM.mono gN, hy, hmem, spk, by omega, hunk, hlF_hl c, hlF_z c, wordsF_wd c, by rw [wordsF_len]; decide, gN.tab, fun Hw gw => ?_⟩
          refine ⟨_, rfl, iff' rfl ?_⟩
          exact ⟨_, _, rfl, gN.trans gw⟩
        · rintro σ H2 ⟨o11, o12, rfl, gN⟩
          have g22 := gM.trans gN
          have dkN := dkM.mono gN
          have elwN := (g21.trans gN).lst elw9
          clear hFA hSu hTo hD
          have w8 := wordF_wd c 8
          have w0 := wordF_wd c 0
          have lw8 := w8.few
          have lw0 := w0.few
          have lq : ("?" : Str).length = 1 := by decide +kernel
          have lst : ("stands " : Str).length = 7 := by decide +kernel
          have lpr : ("pair " : Str).length = 5 := by decide +kernel
          have lea : (" = a" : Str).length = 4 := by decide +kernel
          have leq : (" = " : Str).length = 3 := by decide +kernel
          have H0 : Hl (hlF c ++ [(wordF c 8, 0)]) 4 := (hlF_hl c).snoc (hlF_8 c) (by omega)
          have H1' : Hl (hlF c ++ [(wordF c 8, 1)]) 4 := (hlF_hl c).snoc (hlF_8 c) (by omega)
          have pr0 := prs_of (n := n) H4 (Nat.le_refl 4) spk (by omega)
          have sp0 : ∀ x ∈ (sdOf prs).take kf, Sp8 (BW (wordsF c 9)) (hlF c ++ [(wordF c 8, 0)]) x := fun x hx => (spk x hx).up fun p hp => List.mem_append_left _ hp
          have sp1 : ∀ x ∈ (sdOf prs).take kf, Sp8 (BW (wordsF c 9)) (hlF c ++ [(wordF c 8, 1)]) x := fun x hx => (spk x hx).up fun p hp => List.mem_append_left _ hp
          have sxh : Sx (BW (wordsF c 9)) (hlF c ++ [(wordF c 8, 0)]) (.hole (wordF c 8) []) := sx_hole w8 (List.mem_append_right _ (List.mem_singleton.mpr rfl))
          have m0 : wordF c 0 ∈ BW (wordsF c 9) := List.mem_append_left _ (wordsF_mem c 0 (by decide))
          have sxA : Sp8 (BW (wordsF c 9)) (hlF c ++ [(wordF c 8, 0)]) (x1 c "a") := ⟨rfl, sxh, sx_plain (BW_a _)⟩
          have sxW : Sp8 (BW (wordsF c 9)) (hlF c ++ [(wordF c 8, 0)]) (x1 c (wordF c 0)) := ⟨rfl, sxh, sx_plain m0⟩
          have sxX : Sp8 (BW (wordsF c 9)) (hlF c ++ [(wordF c 8, 1)]) (x3 c) := ⟨rfl, sx_3a c (List.mem_append_right _ (List.mem_singleton.mpr rfl)), sx_3b c⟩
          have prAa := prs_of (n := n) H0 (Nat.le_refl 4) (snoc_all sp0 sxA) (by rw [List.length_append, List.length_singleton]; omega)
          have prW := prs_of (n := n) H0 (Nat.le_refl 4) (snoc_all sp0 sxW) (by rw [List.length_append, List.length_singleton]; omega)
          have prX := prs_of (n := n) H1' (Nat.le_refl 4) (snoc_all sp1 sxX) (by rw [List.length_append, List.length_singleton]; omega)
          have huk := (un_own spk).mpr hunk
          have hno : ∀ σ : HF.Fl Str, Fld n (BW (wordsF c 9)) 4 28 4 ((sdOf prs).take kf) (ownOf (hlF c) ((sdOf prs).take kf)) σ → HF.fil (HF.sg σ) (.hole (wordF c 8) []) = (.hole (wordF c 8) [] : HF.T Str) := fun σ fld => by
            have hs : σ (wordF c 8) = none := by
              cases q : σ (wordF c 8) with
              | none => rfl
              | some v =>
                obtain ⟨_, _, _, made, L, ee, I⟩ := fld
                obtain ⟨i1, _⟩ := I.so _ v.1 v.2 q
                exact absurd rfl (hlF_8 c _ (List.mem_filter.mp i1).1)
            rw [fil_hole, hs]
          have rph : Rp (BW (wordsF c 9)) n (.hole (wordF c 8) []) ("?" ++ wordF c 8) := rp_hole w8 (by omega) (by omega)
          -- a hole that none has is open
          refine ⟨_, rfl, lw, _, _, _, rfl, rfl, SqL.of elwN, wordsV_at c 8 (by decide), _, _, rfl, rfl, szl (by omega), ?_⟩
          have er1 : ("stands " : Str) ++ ("?" ++ wordF c 8) ++ " = a" = "stands" ++ " " ++ (("?" ++ wordF c 8) ++ " = " ++ "a") := by
            rw [← row_stands]
            have e : (" = a" : Str) = " = " ++ "a" := by decide +kernel
            rw [e]
            exact ext_tl (by simp only [tl_append, List.append_assoc])
          refine ⟨_, rfl, k1, _, _, rfl, dkN.ins, rfl, _, rfl, _, _, rfl, rfl, szl (by rw [len_app]; omega), _, _, rfl, rfl, szl (by rw [len_app, len_app]; omega), ?_⟩
          refine ⟨k1, kdx1, b1, bdx1, l1, rr1, _, "?" ++ wordF c 8, "a", sx, _, _, _, x1 c "a", rfl, er1, dkN, ⟨rfl, rph.rx, (rp_plain wd_a (BW_a _) (by omega) (by omega)).rx⟩, g22.tab, pr0, huk, prAa, fun σ fld => ?_, fun Ha σ ga fld e => ?_, fun Ha σ ga fld ne nu => absurd ((un_own (snoc_all sp0 sxA)).mpr (un_x1 spk hunk "a")) nu, fun Ha σ ga fld ne nu => ?_⟩
          · show HF.ht (HF.fil (HF.sg σ) (.hole (wordF c 8) [])) ≤ n
            rw [hno σ fld]
            show 2 ≤ n
            omega
          · exfalso
            have e : HF.fil (HF.sg σ) (.hole (wordF c 8) []) = HF.fil (HF.sg σ) (.sign "a" .nil : HF.T Str) := e
            rw [hno σ fld] at e
            simp only [HF.fil] at e
            cases e
          refine ⟨rfl, _, rfl, iff' (by decide +kernel) ?_⟩
          have dkO := dkN.mono ga
          have elwO := ga.lst elwN
          have g23 := g22.trans ga
          -- told with no terms, and taken back
          refine ⟨_, rfl, k1, _, _, rfl, dkO.ins, rfl, _, rfl, _, _, rfl, rfl, szl (by rw [len_app]; omega), _, _, rfl, rfl, szl (by rw [len_app, len_app]; omega), _, rfl, lw, _, _, _, rfl, rfl, SqL.of elwO, wordsV_at c 0 (by decide), _, _, rfl, rfl, szl (by rw [len_app, len_app, len_app]; omega), ?_⟩
          refine ⟨k1, _, ("?" ++ wordF c 8) ++ " = " ++ wordF c 0, rfl, row_pair _ _, by rw [len_app, len_app, len_app]; omega, g23.tab, ?_⟩
          refine ⟨k1, kdx1, b1, bdx1, l1, rr1, sx, _, _, _, x1 c (wordF c 0), _, _, rfl, dkO, ⟨rfl, rph.rx, (rp_plain w0 m0 (by omega) (by omega)).rx⟩, g23.tab, pr0, prW, fun Hb vb gb dkb => ⟨fun nu => absurd ((un_own (snoc_all sp0 sxW)).mpr (un_x1 spk hunk _)) nu, fun _ => ?_⟩⟩
          refine ⟨rfl, _, rfl, iff' (by decide +kernel) ?_⟩
          have spW := snoc_all sp0 sxW
          refine ⟨_, rfl, k1, _, _, rfl, dkb.ins, rfl, ?_⟩
          refine ⟨k1, kdx1, b1, bdx1, l1, rr1, sx, vb, _, x1 c (wordF c 0), rfl, dkb, dkO.bd.sds.mono gb, gb.tab, fun y hy => ⟨gt.wg (gt_wOk hB) (spW y hy).a.g, gt.wg (gt_wOk hB) (spW y hy).b.g⟩, fun y hy => ⟨by have := (spW y hy).a.ht; omega, by have := (spW y hy).b.ht; omega⟩, fun Hc gc dkc => ?_⟩
          refine ⟨rfl, _, rfl, iff' (by decide +kernel) ?_⟩
          have elwC := gc.lst (gb.lst elwO (by simp; exact fun e => by rw [e, hl1'] at elw; cases elw)) (by simp; exact fun e => by rw [e, hl1'] at elw; cases elw)
          have gtc := gc.tab
          -- the same hole with one term
          refine ⟨_, rfl, lw, _, _, _, rfl, rfl, SqL.of elwC, wordsV_at c 8 (by decide), ?_⟩
          refine ⟨szl (by show 2 ≤ 10000000; decide), fun n1 hn1 => ⟨szl (by show 1 ≤ 10000000; decide), fun n2 hn2 => ⟨szl (by show 3 ≤ 10000000; decide), fun n3 hn3 => ⟨szl (by show 2 ≤ 10000000; decide), fun n4 hn4 => ⟨szl (by show 1 ≤ 10000000; decide), fun n5 hn5 => ⟨szl (by show 3 ≤ 10000000; decide), fun n6 hn6 => ?_⟩⟩⟩⟩⟩⟩
          have t1 := Gr.new0 (X := []) (o := .tup [.str "name", .int 0]) gtc hn1
          have t2 := Gr.new0 (X := []) (o := .tup [.ref n1]) t1.tab hn2
          have t3 := Gr.new0 (X := []) (o := .tup [.str "hole", .str (wordF c 8), .ref n2]) t2.tab hn3
          have t4 := Gr.new0 (X := []) (o := .tup [.int 1, .ref n3]) t3.tab hn4
          have t5 := Gr.new0 (X := []) (o := .tup [.ref n4]) t4.tab hn5
          have t6 := Gr.new0 (X := []) (o := .tup [.str "sign", .str "s", .ref n5]) t5.tab hn6
          have atW : At _ (x3a c) (.ref n6) := ⟨n6, n5, [.ref n4], rfl, upd_same, t6.tup _ _ upd_same, n4, .ref n3, [], rfl, t6.tup _ _ (t5.tup _ _ upd_same), ⟨n3, n2, [.ref n1], rfl, t6.tup _ _ (t5.tup _ _ (t4.tup _ _ upd_same)), t6.tup _ _ (t5.tup _ _ (t4.tup _ _ (t3.tup _ _ upd_same))), n1, [], rfl, t6.tup _ _ (t5.tup _ _ (t4.tup _ _ (t3.tup _ _ (t2.tup _ _ upd_same)))), rfl⟩, rfl⟩
          have tt := ((((t1.trans t2).trans t3).trans t4).trans t5).trans t6
          have s3a := sx_3a c (hl := hlF c ++ [(wordF c 8, 1)]) (List.mem_append_right _ (List.mem_singleton.mpr rfl))
          have s3b := sx_3b c (hl := hlF c ++ [(wordF c 8, 1)])
          have hB60 : (BW (wordsF c 9)).length ≤ 60 := by
            unfold BW
            rw [List.length_append, wordsF_len]
            decide
          refine ⟨_, rfl, k1, _, _, rfl, (dkc.mono tt).ins, rfl, ?_⟩
          refine ⟨_, rfl, ?_⟩
          refine ⟨_, _, BW (wordsF c 9), rfl, atW, t6.tab, hB, hB60, s3a.g, s3a.c, by have := s3a.nd; omega, by have := s3a.ht; omega, fun Hd bs1 gd1 sh1 => ?_⟩
          have la := len_pcs sh1.w 0 _ sh1.g sh1.c sh1.b
          have na := s3a.nd
          have nb := s3b.nd
          refine ⟨_, _, rfl, rfl, szl (by omega), _, _, rfl, rfl, szl (by rw [len_app]; omega), ?_⟩
          refine ⟨szl (by show 2 ≤ 10000000; decide), fun m1 hm1 => ⟨szl (by show 2 ≤ 10000000; decide), fun m2 hm2 => ⟨szl (by show 1 ≤ 10000000; decide), fun m3 hm3 => ⟨szl (by show 3 ≤ 10000000; decide), fun m4 hm4 => ?_⟩⟩⟩⟩
          have u1 := Gr.new0 (X := []) (o := .tup [.str "name", .int 0]) gd1.tab hm1
          have u2 := Gr.new0 (X := []) (o := .tup [.int 1, .ref m1]) u1.tab hm2
          have u3 := Gr.new0 (X := []) (o := .tup [.ref m2]) u2.tab hm3
          have u4 := Gr.new0 (X := []) (o := .tup [.str "sign", .str "s", .ref m3]) u3.tab hm4
          have atV : At _ x3b (.ref m4) := ⟨m4, m3, [.ref m2], rfl, upd_same, u4.tup _ _ upd_same, m2, .ref m1, [], rfl, u4.tup _ _ (u3.tup _ _ upd_same), ⟨m1, rfl, u4.tup _ _ (u3.tup _ _ (u2.tup _ _ upd_same))⟩, rfl⟩
          have uu := ((u1.trans u2).trans u3).trans u4
          refine ⟨_, _, BW (wordsF c 9), rfl, atV, u4.tab, hB, hB60, s3b.g, s3b.c, by have := s3b.nd; omega, by have := s3b.ht; omega, fun He bs2 ge2 sh2 => ?_⟩
          have lb := len_pcs sh2.w 0 _ sh2.g sh2.c sh2.b
          refine ⟨_, _, rfl, rfl, szl (by rw [len_app, len_app]; omega), ?_⟩
          have gz := ((tt.trans gd1).trans uu).trans ge2
          have hhA := s3a.ht
          have hhB := s3b.ht
          have fewA := s3a.few
          have rpA := sh1.rp (n := n) (by omega) (by omega) (fun u d e h1 h2 => fn_hl H1'.nd (s3a.hs _ h1) (s3a.hs _ h2)) (by omega) (by omega)
          have rpB := sh2.rp (n := n) (by omega) (by omega) (fun u d e h1 h2 => fn_hl H1'.nd (s3b.hs _ h1) (s3b.hs _ h2)) (by show 0 ≤ 100000; decide) (by omega)
          refine ⟨k1, _, _, rfl, row_pair _ _, by rw [len_app, len_app]; omega, ge2.tab, ?_⟩
          refine ⟨k1, kdx1, b1, bdx1, l1, rr1, sx, _, _, _, x3 c, _, _, rfl, dkc.mono gz, ⟨rfl, rpA.rx, rpB.rx⟩, ge2.tab, pr0, prX, fun Hf vf gf dkf => ⟨fun nu => absurd ((un_own (snoc_all sp1 sxX)).mpr (un_x3 spk hunk)) nu, fun _ => ?_⟩⟩
          refine ⟨rfl, ?_⟩
          rw [show decide (V.str "filled" = V.str "filled") = true from decide_eq_true rfl]
          exact q Hf
end

end HW
end
section
set_option Elab.async false
set_option linter.all false
set_option maxRecDepth 100000
set_option maxHeartbeats 4000000
namespace HW
open PySem PySem.Spec PyProof.Rows L2 NdefX LamX
/-! ### everything joined -/
section
variable {P : Program} {w : World} {K : PySem.W.Frag} {mg : Str → Option Value} {base : Heap}
theorem law_ok (S : Cn K mg base) (n : Nat) (hn : 64 ≤ n) (hn2 : n ≤ 300) {dv0 : List V} {kw0 : List (Str × V)} {f0 : Addr} {fd0 : FuncData} (F0 : FunD K d_law.name d_law.qual d_law.params d_law.body d_law.scope dv0 kw0 f0 fd0) :
    FnOk P w K mg base CX0 (3 * n + 23) f0 fd0 ["_law_script"] (spLaw K (TT K)) := by
  have hTold : Has P w K mg base "told_names" 1 ["term"] [] (spTold (TT K)) := ok_told S (TT K)
  have hClosed := ok_closed (P := P) (w := w) S (TT K) n (ok_out S (TT K) n) (ok_anew S (TT K) n)
  have hLeaves := ok_leaves (P := P) (w := w) S (TT K) (ok_alike S (TT K)) n
  have hFaultOf := ok_faultOf (P := P) (w := w) S (TT K) n hTold (ok_faultIn S (TT K) n)
  have hToo := ok_too (P := P) (w := w) S (TT K) (ok_kept S (TT K)) n
  have hRaised := ok_raised (P := P) (w := w) S n (ok_with S (TT K) 1 n).2
  have hR1 := (ok_raised (P := P) (w := w) S 1 (ok_with S (TT K) 1 1).2).2
  have hPut := ok_put (P := P) (w := w) S n hR1 (ok_with S (TT K) 4 n).2
  have hInner := ok_inner (P := P) (w := w) S (TT K)
  have hHoles := ok_holes S (TT K) hInner n
  have hSigns := ok_signs S (TT K) hInner n
  have hWithin := ok_within S n hRaised.1 hPut n
  have hFilled := ok_filled S n n hWithin
  have hBehind := ok_behind S n n hWithin
  have hFill := ok_fill S n n hBehind
  have hLess := ok_less S n n hFill (ok_new S (TT K))
  have hGo := ok_go S n n hFill hLess hTold hToo hClosed
  have hStr := ok_str S (TT K) hTold n
  have hSInit := ok_init S (TT K) n hHoles
  have bn : ∀ c l0, l0 = 3 ∨ l0 = 4 → Bn n (BW (wordsF c 9)) 4 28 l0 := fun c l0 hl => by
    obtain ⟨v1, v2, v3, v4, _⟩ := hB_vals
    rcases hl with rfl | rfl
    · exact ⟨by omega, by omega, hn2, by omega, gt_wOk (BW_wd (wordsF_wd c))⟩
    · exact ⟨by omega, by omega, hn2, by omega, gt_wOk (BW_wd (wordsF_wd c))⟩
  have hApart := fun B l0 (bn : Bn n B 4 28 l0) => ok_apart S n B 4 28 l0 bn hSInit (ok_turn S n B 4 28 l0 bn hLeaves hFilled hFaultOf hStr hGo)
  have hSolved := fun B l0 (bn : Bn n B 4 28 l0) => ok_solved S n B 4 28 l0 (hApart B l0 bn)
  have hOutc := fun B l0 (bn : Bn n B 4 28 l0) => ok_bout S n B 4 28 l0 (hSolved B l0 bn)
  have hWordAt := ok_wordAt (P := P) (w := w) S
  have hLett := ok_lettered (P := P) (w := w) S
  have hLook := ok_look S hWordAt
  have hFirst := ok_first S (TT K) (ok_by (P := P) (w := w) S)
  have hBFor := fun B l0 (bn : Bn n B 4 28 l0) => ok_bfor S n B 4 28 l0 hHoles (hApart B l0 bn)
  have hBFill := fun B l0 (bn : Bn n B 4 28 l0) => ok_bfill S n B 4 28 l0 bn (hBFor B l0 bn) hFilled
  have hBStands := fun B l0 (bn : Bn n B 4 28 l0) => ok_bstands S n B 4 28 l0 bn (hBFor B l0 bn) hFilled (hSolved B l0 bn)
  have hDInit := ok_dinit S (TT K) (ok_binit (P := P) (w := w) S (TT K))
  have hKnown := ok_known S (TT K) n (ok_bpairs (P := P) (w := w) S (TT K)) hHoles
  have hParted := ok_parted (P := P) (w := w) S (TT K)
  have hShown := (ok_shown S (TT K) n hn2 (ok_shin S (TT K) hFirst n) hSigns).2
  have hBound := ok_bound S (TT K) hWordAt hLett
  have hRead := fun B => ok_read S (TT K) B n (ok_words (P := P) (w := w) S (TT K)) (ok_termf S (TT K) B hWordAt hLett hBound hLook n) (ok_lookh S (TT K) n)
  have hAlk := ok_alk S (TT K) n hHoles
  have hPairOf := fun B => ok_pairof S (TT K) B n hParted (hRead B).1
  have hDPair := fun B l0 (bn : Bn n B 4 28 l0) => ok_dpair S n B 4 28 l0 bn (hPairOf B) hAlk hKnown (ok_btell S (TT K)) (hOutc B l0 bn)
  have hDFill := fun B l0 (bn : Bn n B 4 28 l0) => ok_dfill S n B 4 28 l0 bn (hRead B).2 hAlk hKnown (hBFill B l0 bn) hShown
  have hSBack := ok_sback S (TT K) n (ok_dalone S (TT K) n (ok_bback (P := P) (w := w) S (TT K) n))
  have hSPair := fun B l0 (bn : Bn n B 4 28 l0) => ok_spair S n B 4 28 l0 hParted (hDPair B l0 bn)
  have hSFill := fun B l0 (bn : Bn n B 4 28 l0) => ok_sfill S n B 4 28 l0 hParted (hDFill B l0 bn)
  have hSStands := fun B l0 (bn : Bn n B 4 28 l0) => ok_sstands S n B 4 28 l0 bn hParted (hPairOf B) hAlk hKnown (hBStands B l0 bn)
  have hSFillX := fun B l0 (bn : Bn n B 4 28 l0) => ok_sfillx S n B 4 28 l0 hParted (ok_dfillx S n B 4 28 l0 bn (hRead B).2 hAlk hKnown (ok_bfillx S n B 4 28 l0 (ok_bforx S n B 4 28 l0 hHoles (hApart B l0 bn)) hFilled) hShown)
  have hMix := ok_mix (P := P) (w := w) S
  have hStr8 := ok_straights S (TT K) (ok_free S hMix) (ok_leaf S (TT K))
  have hPr := ok_pr S n (by omega) hn2 hMix hStr8 (ok_few S (TT K) 3) hFilled hShown
  exact ok_law S n hn hn2 (ok_cellat S) (ok_wordsl S (TT K) hMix) hMix hPr hDInit
    (fun c => ok_told8 S n (wordsF c 9) (hlF c) hn2 (hSPair _ 4 (bn c 4 (.inr rfl))))
    (fun c => ok_shut S n (BW (wordsF c 9)) (hSFillX _ 4 (bn c 4 (.inr rfl))))
    (fun c => ok_fa S n (wordsF c 9) (hlF c) hn hn2 (hSStands _ 4 (bn c 4 (.inr rfl))) (hSFill _ 3 (bn c 3 (.inl rfl))) (hRead _).2)
    hSBack (fun c => hSStands _ 4 (bn c 4 (.inr rfl))) (fun c => hSPair _ 4 (bn c 4 (.inr rfl))) hShown F0
end

end HW
end
section
set_option Elab.async false
set_option linter.all false
set_option maxRecDepth 100000
set_option maxHeartbeats 4000000
namespace HW
open PySem PySem.Spec PyProof.Rows L2 NdefX LamX
/-! ### the end -/
section
variable {P : Program} {w : World} {K : PySem.W.Frag} {mg : Str → Option Value} {h : Heap}
theorem tabs0 {H : Hp} (hT : ∀ p ∈ tf.map (He.cT K), H p.2 = some (.tbl #[])) : TabsN (TT K) H := fun p hp => by
  have h1 : H (He.cT K ("raised", none)).2 = some (.tbl #[]) := hT _ (List.mem_map.mpr ⟨_, by decide, rfl⟩)
  have h2 : H (He.cT K ("put_in", none)).2 = some (.tbl #[]) := hT _ (List.mem_map.mpr ⟨_, by decide, rfl⟩)
  rcases List.mem_cons.mp hp with rfl | hp
  · exact TabN.nil h1
  · rw [List.mem_singleton.mp hp]
    exact TabN.nil h2
theorem law_at {f0 : Addr} (KX : K.In h) (G : h.Ns mainGlobals mg) (hfa : mg "law" = some (.ref f0)) (c : He.SaysX fa fn [] tf exT w h K) :
    ∃ (fd : FuncData) (cs : List (Addr × Addr)) (sp : Sp), (∀ p ∈ cs, h.get? p.2 = some { cls := .none, data := .fields #[] }) ∧ (∀ p ∈ cs, K.lookup p.2 = none) ∧ (∀ p ∈ cs, PySem.W.CodeHd h p.1 p.2) ∧ (∀ (s : Shared) (u : Value), BindsTo s fd ⟨[u], []⟩ [(("_law_script" : Str), u)]) ∧
    (∀ (H : Hp) (a : Addr) (ns : List Int), ns.length ≤ 63 → (∀ z ∈ ns, Builtin.Int.intBits z ≤ 1048576) → (∀ p ∈ cs, H p.2 = some (.tbl #[])) → SqL K H a (ns.map V.int) → sp [.ref a] H (fun v _ => v = .bl true) fun _ _ _ => False) ∧
    ∀ base : Heap, K.In base → base.Ns mainGlobals mg → (∀ p ∈ cs, TabB base mg p.1 p.2) → FnOk P w K mg base CX0 215 f0 fd ["_law_script"] sp := by
  obtain ⟨fd, F⟩ := c.t.d.def_ 72 (d := d_law) rfl
  have e := hfa.symm.trans (He.glo_ok KX G (c.t.d.fact 52 (f := .glo "law") rfl))
  have ef : f0 = He.fAd K d_law.at_ := by
    have : f0 = He.ga K "law" := by injection (Option.some.inj e)
    rw [this]; rfl
  subst ef
  have e1 : d_law.dvs K = [] := rfl
  have e2 : d_law.kws K = [] := rfl
  rw [e1, e2] at F
  refine ⟨fd, tf.map (He.cT K), spLaw K (TT K), fun p hp => ?_, fun p hp => ?_, fun p hp => ?_, fun s u => ?_, fun H a ns hl _ hT hS => ⟨a, ns, rfl, hS, hl, tabs0 hT, fun _ => rfl⟩, fun base KXb Gb hTb => ?_⟩
  · obtain ⟨d, hd, rfl⟩ := List.mem_map.mp hp
    exact c.empty d hd
  · obtain ⟨d, hd, rfl⟩ := List.mem_map.mp hp
    exact c.out d hd
  · obtain ⟨d, hd, rfl⟩ := List.mem_map.mp hp
    exact PySem.W.codeHd_of_K KX (c.hd d hd)
  · exact F.bindsA (ps := ["_law_script"]) (fun _ _ _ _ _ _ us hl => match us, hl with | [_], _ => rfl) s [u] rfl
  · exact law_ok ⟨KXb, Gb, c.t.d, fun p hp => hTb _ (List.mem_map.mpr ⟨p, hp, rfl⟩), c.more⟩ 64 (by decide) (by decide) F
end

end HW
end
set_option Elab.async false
set_option linter.all false
set_option maxRecDepth 100000
set_option maxHeartbeats 0
open PySem PySem.W PySem.Calls PyProof.Rows
theorem PySem.Challenge.cw_holeform_k74_whole_texts_answered_holds : PySem.Challenge.rw_holeform_k74_whole_texts_answered.Holds := by
  w_on; o_law
  refine HandSHeadRun.head_any (r := HW.R) (q := PySem.W.view HW.R.prog [110]) (H := HW.hk) (ob := HW.ob) (M := 6000) (loose := HW.names) (d := HandSHeadRun.topDef HW.R.prog 110) (kwd := []) HW.ob_eq
    (by kernel_rfl) (fun s => by kernel_rfl) HW.run (by kernel_rfl) (by kernel_rfl) (by kernel_rfl) (by rfl) (by first | assumption | decide +kernel) (by decide +kernel) ⟨rfl, rfl, rfl, rfl, rfl, by decide +kernel⟩ ?hw ?hc
  case hw => w_witness2
  case hc =>
    refine LamX.walk_ofTsE (l := PySem.Challenge.rw_holeform_k74_whole_texts_answered) (n := 63) (k := 215) (x := "_law_script") (CX := fun _ => L2.CX0) rfl (by decide) (by kernel_rfl) ⟨rfl, by decide, by decide⟩ ?F (fun _ _ _ _ _ z => z)
    intro w mg fa h Y G hmg0
    obtain ⟨K, KX, c⟩ := Y
    have hmg : mg ("law" : PySem.Str) = some (.ref fa) := by
      have e : (HandSHeadRun.topDef HW.R.prog 110).name = ("law" : PySem.Str) := by kernel_rfl
      rw [← e]
      exact hmg0
    exact ⟨K, KX, HW.law_at KX G hmg c⟩
