import PyProof.Rows.All
import Wide.All
import OpenK.AllK
import Wide.FinOn
import KE.KStateDown
import Lean
import HandS.ForMost
import HandS.Codes
import HandS.WordsExc
import HandS.Defaults
import HandS.Head0
import HandS.Head1
import HandS.Head2
import HandS.HeadEnd
import HandS.HeadHook1
import HandS.HeadHook2
import PySem.Challenge.RW_cornerplane_k52_whole_least_marks
import KE.KDictKeyed
import KE.KDictLaw
import HandS.SetKeys
import KE.GoesEnum
import KE.GoesComp
import PyProof.RulesMatch
import KE.SortData
import KE.SortKeyHeap
import KE.KLam
import HandS.Lambda
import HandS.SortKw
import HandS.ForDict
import HandS.Wide
import HandS.Deep
import HandS.IsInst
import HandS.Style
import HandS.SortInts
import KE.DataFind
import PyProof.MaxThree
import HandS.HeadHook4
import HandS.HeadWalk
set_option Elab.async false
set_option linter.all false
set_option maxRecDepth 100000
set_option maxHeartbeats 0
set_option autoImplicit false
section
namespace Cp
open PySem PySem.Spec PyProof.Rows L2
/-! ### the text by places -/
def top (i : Nat) : Stmt := PySem.Challenge.pw_cornerplane_k52_whole_least_marks.main.body.getD i (.Pass ⟨0, 0, 0, 0⟩)
abbrev s_corners_of : Stmt := top 9
abbrev s_on_board : Stmt := top 10
abbrev s_rising_pairs : Stmt := top 11
abbrev s_falling_pairs : Stmt := top 12
abbrev s_pairs_of : Stmt := top 13
abbrev s_steps_between : Stmt := top 14
abbrev s_pairs_by_steps : Stmt := top 15
abbrev s_steep_letter : Stmt := top 16
abbrev s_moved : Stmt := top 17
abbrev s_is_walked_line : Stmt := top 19
abbrev s_farthest : Stmt := top 20
abbrev s_least_marks : Stmt := top 21
abbrev s_is_least_marks : Stmt := top 22
abbrev s_least_chain : Stmt := top 23
abbrev s_has_table_form : Stmt := top 25
abbrev s_letters_by_pair : Stmt := top 26
abbrev s_first_letter : Stmt := top 27
abbrev s_before : Stmt := top 28
abbrev s_last_letters : Stmt := top 29
abbrev s_find_broken_pair : Stmt := top 30
abbrev s_P_init : Stmt := inClass (top 32) 0
abbrev s_P_letter : Stmt := inClass (top 32) 1
abbrev s_P_walked : Stmt := inClass (top 32) 2
abbrev s_P_line : Stmt := inClass (top 32) 3
abbrev s_l_cell : Stmt := top 34
abbrev s_l_draws : Stmt := top 35
abbrev s_l_board : Stmt := top 36
abbrev s_l_all_cells : Stmt := top 37
abbrev s_l_moved : Stmt := top 38
abbrev s_l_letter : Stmt := top 39
abbrev s_l_walk : Stmt := top 40
abbrev s_l_line : Stmt := top 41
abbrev s_l_pairs : Stmt := top 42
abbrev s_l_texts : Stmt := top 43
abbrev s_l_bits : Stmt := top 44
abbrev s_l_fill : Stmt := top 45
abbrev s_l_is_integer : Stmt := top 46
abbrev s_l_is_corner : Stmt := top 47
abbrev s_l_is_row : Stmt := top 48
abbrev s_l_outline : Stmt := top 49
abbrev s_l_cells : Stmt := top 50
abbrev s_l_is_line : Stmt := top 51
abbrev s_l_reach : Stmt := top 52
abbrev s_l_fewest : Stmt := top 53
abbrev s_l_are_least : Stmt := top 54
abbrev s_l_varied : Stmt := top 55
abbrev s_l_accepts : Stmt := top 56
abbrev s_l_loop_fits : Stmt := top 57
abbrev s_law : Stmt := top 58
/-! ### the head's facts by names -/
def d_corners_of : He.DefD := ⟨("corners_of", none), "corners_of", "corners_of", defArgs s_corners_of, defBody s_corners_of, defScope s_corners_of, [], []⟩
def d_on_board : He.DefD := ⟨("on_board", none), "on_board", "on_board", defArgs s_on_board, defBody s_on_board, defScope s_on_board, [], []⟩
def d_rising_pairs : He.DefD := ⟨("rising_pairs", none), "rising_pairs", "rising_pairs", defArgs s_rising_pairs, defBody s_rising_pairs, defScope s_rising_pairs, [], []⟩
def d_falling_pairs : He.DefD := ⟨("falling_pairs", none), "falling_pairs", "falling_pairs", defArgs s_falling_pairs, defBody s_falling_pairs, defScope s_falling_pairs, [], []⟩
def d_pairs_of : He.DefD := ⟨("pairs_of", none), "pairs_of", "pairs_of", defArgs s_pairs_of, defBody s_pairs_of, defScope s_pairs_of, [], []⟩
def d_steps_between : He.DefD := ⟨("steps_between", none), "steps_between", "steps_between", defArgs s_steps_between, defBody s_steps_between, defScope s_steps_between, [], []⟩
def d_pairs_by_steps : He.DefD := ⟨("pairs_by_steps", none), "pairs_by_steps", "pairs_by_steps", defArgs s_pairs_by_steps, defBody s_pairs_by_steps, defScope s_pairs_by_steps, [], []⟩
def d_steep_letter : He.DefD := ⟨("steep_letter", none), "steep_letter", "steep_letter", defArgs s_steep_letter, defBody s_steep_letter, defScope s_steep_letter, [], []⟩
def d_moved : He.DefD := ⟨("moved", none), "moved", "moved", defArgs s_moved, defBody s_moved, defScope s_moved, [], []⟩
def d_is_walked_line : He.DefD := ⟨("is_walked_line", none), "is_walked_line", "is_walked_line", defArgs s_is_walked_line, defBody s_is_walked_line, defScope s_is_walked_line, [], []⟩
def d_farthest : He.DefD := ⟨("farthest", none), "farthest", "farthest", defArgs s_farthest, defBody s_farthest, defScope s_farthest, [], []⟩
def d_least_marks : He.DefD := ⟨("least_marks", none), "least_marks", "least_marks", defArgs s_least_marks, defBody s_least_marks, defScope s_least_marks, [], []⟩
def d_is_least_marks : He.DefD := ⟨("is_least_marks", none), "is_least_marks", "is_least_marks", defArgs s_is_least_marks, defBody s_is_least_marks, defScope s_is_least_marks, [], []⟩
def d_least_chain : He.DefD := ⟨("least_chain", none), "least_chain", "least_chain", defArgs s_least_chain, defBody s_least_chain, defScope s_least_chain, [], []⟩
def d_has_table_form : He.DefD := ⟨("has_table_form", none), "has_table_form", "has_table_form", defArgs s_has_table_form, defBody s_has_table_form, defScope s_has_table_form, [], []⟩
def d_letters_by_pair : He.DefD := ⟨("letters_by_pair", none), "letters_by_pair", "letters_by_pair", defArgs s_letters_by_pair, defBody s_letters_by_pair, defScope s_letters_by_pair, [], []⟩
def d_first_letter : He.DefD := ⟨("first_letter", none), "first_letter", "first_letter", defArgs s_first_letter, defBody s_first_letter, defScope s_first_letter, [], []⟩
def d_before : He.DefD := ⟨("before", none), "before", "before", defArgs s_before, defBody s_before, defScope s_before, [], []⟩
def d_last_letters : He.DefD := ⟨("last_letters", none), "last_letters", "last_letters", defArgs s_last_letters, defBody s_last_letters, defScope s_last_letters, [], []⟩
def d_find_broken_pair : He.DefD := ⟨("find_broken_pair", none), "find_broken_pair", "find_broken_pair", defArgs s_find_broken_pair, defBody s_find_broken_pair, defScope s_find_broken_pair, [], []⟩
def d_P_init : He.DefD := ⟨("Plane", some "__init__"), "__init__", "Plane.__init__", defArgs s_P_init, defBody s_P_init, defScope s_P_init, [], []⟩
def d_P_letter : He.DefD := ⟨("Plane", some "letter"), "letter", "Plane.letter", defArgs s_P_letter, defBody s_P_letter, defScope s_P_letter, [], []⟩
def d_P_walked : He.DefD := ⟨("Plane", some "walked"), "walked", "Plane.walked", defArgs s_P_walked, defBody s_P_walked, defScope s_P_walked, [], []⟩
def d_P_line : He.DefD := ⟨("Plane", some "line"), "line", "Plane.line", defArgs s_P_line, defBody s_P_line, defScope s_P_line, [], []⟩
def d_l_cell : He.DefD := ⟨("_law_cell", none), "_law_cell", "_law_cell", defArgs s_l_cell, defBody s_l_cell, defScope s_l_cell, [], []⟩
def d_l_draws : He.DefD := ⟨("_law_draws", none), "_law_draws", "_law_draws", defArgs s_l_draws, defBody s_l_draws, defScope s_l_draws, [], []⟩
def d_l_board : He.DefD := ⟨("_law_board", none), "_law_board", "_law_board", defArgs s_l_board, defBody s_l_board, defScope s_l_board, [], []⟩
def d_l_all_cells : He.DefD := ⟨("_law_all_cells", none), "_law_all_cells", "_law_all_cells", defArgs s_l_all_cells, defBody s_l_all_cells, defScope s_l_all_cells, [], []⟩
def d_l_moved : He.DefD := ⟨("_law_moved", none), "_law_moved", "_law_moved", defArgs s_l_moved, defBody s_l_moved, defScope s_l_moved, [], []⟩
def d_l_letter : He.DefD := ⟨("_law_letter", none), "_law_letter", "_law_letter", defArgs s_l_letter, defBody s_l_letter, defScope s_l_letter, [], []⟩
def d_l_walk : He.DefD := ⟨("_law_walk", none), "_law_walk", "_law_walk", defArgs s_l_walk, defBody s_l_walk, defScope s_l_walk, [], []⟩
def d_l_line : He.DefD := ⟨("_law_line", none), "_law_line", "_law_line", defArgs s_l_line, defBody s_l_line, defScope s_l_line, [], []⟩
def d_l_pairs : He.DefD := ⟨("_law_pairs", none), "_law_pairs", "_law_pairs", defArgs s_l_pairs, defBody s_l_pairs, defScope s_l_pairs, [], []⟩
def d_l_texts : He.DefD := ⟨("_law_texts", none), "_law_texts", "_law_texts", defArgs s_l_texts, defBody s_l_texts, defScope s_l_texts, [], []⟩
def d_l_bits : He.DefD := ⟨("_law_bits", none), "_law_bits", "_law_bits", defArgs s_l_bits, defBody s_l_bits, defScope s_l_bits, [], []⟩
def d_l_fill : He.DefD := ⟨("_law_fill", none), "_law_fill", "_law_fill", defArgs s_l_fill, defBody s_l_fill, defScope s_l_fill, [], []⟩
def d_l_is_integer : He.DefD := ⟨("_law_is_integer", none), "_law_is_integer", "_law_is_integer", defArgs s_l_is_integer, defBody s_l_is_integer, defScope s_l_is_integer, [], []⟩
def d_l_is_corner : He.DefD := ⟨("_law_is_corner", none), "_law_is_corner", "_law_is_corner", defArgs s_l_is_corner, defBody s_l_is_corner, defScope s_l_is_corner, [], []⟩
def d_l_is_row : He.DefD := ⟨("_law_is_row", none), "_law_is_row", "_law_is_row", defArgs s_l_is_row, defBody s_l_is_row, defScope s_l_is_row, [], []⟩
def d_l_outline : He.DefD := ⟨("_law_outline", none), "_law_outline", "_law_outline", defArgs s_l_outline, defBody s_l_outline, defScope s_l_outline, [], []⟩
def d_l_cells : He.DefD := ⟨("_law_cells", none), "_law_cells", "_law_cells", defArgs s_l_cells, defBody s_l_cells, defScope s_l_cells, [], []⟩
def d_l_is_line : He.DefD := ⟨("_law_is_line", none), "_law_is_line", "_law_is_line", defArgs s_l_is_line, defBody s_l_is_line, defScope s_l_is_line, [], []⟩
def d_l_reach : He.DefD := ⟨("_law_reach", none), "_law_reach", "_law_reach", defArgs s_l_reach, defBody s_l_reach, defScope s_l_reach, [], []⟩
def d_l_fewest : He.DefD := ⟨("_law_fewest", none), "_law_fewest", "_law_fewest", defArgs s_l_fewest, defBody s_l_fewest, defScope s_l_fewest, [], []⟩
def d_l_are_least : He.DefD := ⟨("_law_are_least", none), "_law_are_least", "_law_are_least", defArgs s_l_are_least, defBody s_l_are_least, defScope s_l_are_least, [], []⟩
def d_l_varied : He.DefD := ⟨("_law_varied", none), "_law_varied", "_law_varied", defArgs s_l_varied, defBody s_l_varied, defScope s_l_varied, [], []⟩
def d_l_accepts : He.DefD := ⟨("_law_accepts", none), "_law_accepts", "_law_accepts", defArgs s_l_accepts, defBody s_l_accepts, defScope s_l_accepts, [], []⟩
def d_l_loop_fits : He.DefD := ⟨("_law_loop_fits", none), "_law_loop_fits", "_law_loop_fits", defArgs s_l_loop_fits, defBody s_l_loop_fits, defScope s_l_loop_fits, [], []⟩
def d_law : He.DefD := ⟨("law", none), "law", "law", defArgs s_law, defBody s_law, defScope s_law, [], []⟩
def fn : List He.DefD := [d_corners_of, d_on_board, d_rising_pairs, d_falling_pairs, d_pairs_of, d_steps_between, d_pairs_by_steps, d_steep_letter, d_moved, d_is_walked_line, d_farthest, d_least_marks, d_is_least_marks, d_least_chain, d_has_table_form, d_letters_by_pair, d_first_letter, d_before, d_last_letters, d_find_broken_pair, d_P_init, d_P_letter, d_P_walked, d_P_line, d_l_cell, d_l_draws, d_l_board, d_l_all_cells, d_l_moved, d_l_letter, d_l_walk, d_l_line, d_l_pairs, d_l_texts, d_l_bits, d_l_fill, d_l_is_integer, d_l_is_corner, d_l_is_row, d_l_outline, d_l_cells, d_l_is_line, d_l_reach, d_l_fewest, d_l_are_least, d_l_varied, d_l_accepts, d_l_loop_fits, d_law]
def fa : List He.Fa := [.glo "corners_of", .glo "on_board", .glo "rising_pairs", .glo "falling_pairs", .glo "pairs_of", .glo "steps_between", .glo "pairs_by_steps", .glo "steep_letter", .glo "moved", .glo "is_walked_line", .glo "farthest", .glo "least_marks", .glo "is_least_marks", .glo "least_chain", .glo "has_table_form", .glo "letters_by_pair", .glo "first_letter", .glo "before", .glo "last_letters", .glo "find_broken_pair", .glo "_law_cell", .glo "_law_draws", .glo "_law_board", .glo "_law_all_cells", .glo "_law_moved", .glo "_law_letter", .glo "_law_walk", .glo "_law_line", .glo "_law_pairs", .glo "_law_texts", .glo "_law_bits", .glo "_law_fill", .glo "_law_is_integer", .glo "_law_is_corner", .glo "_law_is_row", .glo "_law_outline", .glo "_law_cells", .glo "_law_is_line", .glo "_law_reach", .glo "_law_fewest", .glo "_law_are_least", .glo "_law_varied", .glo "_law_accepts", .glo "_law_loop_fits", .glo "law", .free "range", .free "len", .free "sorted", .free "abs", .free "zip", .free "list", .free "tuple", .free "int", .free "bool", .free "min", .free "max", .free "isinstance", .str "RISING" "rising", .str "FALLING" "falling", .glo "Plane", .cls "Plane", .mkr "Plane", .noat "Plane" "board", .noat "Plane" "rising", .noat "Plane" "falling", .noat "Plane" "letters", .meth "Plane" "letter", .meth "Plane" "walked", .meth "Plane" "line"]
end Cp
end
section
namespace Cp
open PySem PySem.Spec PyProof.Rows L2

/-! ### defs by name, with what is promised of them -/
structure Cal (P : Program) (w : World) (K : PySem.W.Frag) (mg : Str → Option Value) (base : Heap) (k : Nat) (x : Str) (ps : List Str) (sp : Sp) : Prop where
  ex : ∃ (f : Addr) (fd : FuncData), mg x = some (.ref f) ∧ PySem.W.keepIn K (.ref f) = true ∧ Binds K fd ps [] ∧ FnOk P w K mg base CX0 k f fd ps sp
structure Met (P : Program) (w : World) (K : PySem.W.Frag) (mg : Str → Option Value) (base : Heap) (k : Nat) (C : Addr) (m : Str) (ps : List Str) (sp : Sp) : Prop where
  ex : ∃ (f : Addr) (fd : FuncData), Cls K C ∧ Meth K C m f ∧ Binds K fd ps [] ∧ FnOk P w K mg base CX0 k f fd ps sp
structure Mak (P : Program) (w : World) (K : PySem.W.Frag) (mg : Str → Option Value) (base : Heap) (k : Nat) (x : Str) (C : Addr) (ps : List Str) (sp : Sp) : Prop where
  ex : ∃ (f : Addr) (fd : FuncData), mg x = some (.ref C) ∧ Mk K C f ∧ Binds K fd ps [] ∧ FnOk P w K mg base CX0 k f fd ps sp
section
variable {X : Cx} {k j : Nat} {x m : Str} {C : Addr} {ps : List Str} {sp : Sp} {e o : Expr} {es : List Expr} {t : TA} {ta : TE} {p pos apos : Pos}
theorem pc (c : Cal X.prog X.w X.K X.mg X.base k x ps sp) (hr : Room j X.A) (ha : PA X (e :: es) t) (hk : k ≤ j := by decide) (hg : Gl X x := by rfl) (hdb : (x == ("__debug__" : Str)) = false := by decide)
    (he : starEach (e :: es) X.env = (false, eval e X.env) :: starEach es X.env := by rfl) (hpl : (backTo pos (starEach es X.env)).any (·.1) = false := by rfl) :
    PE X (.Call (.Name x p) (e :: es) [] pos) (tCall sp [] E0 t) := by
  obtain ⟨f, fd, hm, kp, b, F⟩ := c.ex
  exact pe_call F (hr.mono hk) hg hm kp b .nil pass0 ha hdb he hpl
theorem pm {pl : Sem Bool} (c : Met X.prog X.w X.K X.mg X.base k C m ps sp) (hr : Room j X.A) (ho : PE X o ta) (ha : PA X (e :: es) t) (hk : k ≤ j := by decide)
    (hst : starEach (e :: es) X.env = (false, eval e X.env) :: starEach es X.env := by rfl) (hpl : (backTo pos (starEach es X.env)).any (·.1) = false := by rfl)
    (ht : eval (.Call (.Attribute o m apos) (e :: es) [] pos) X.env = (do
      let ov ← eval o X.env
      standAt apos.atName
      let (f, first) ← holding [ov] (getMethod ov m pl)
      callWith pos f first (backTo pos (starEach (e :: es) X.env)) (backToKw pos (keywordEach [] X.env))) := by rfl) :
    PE X (.Call (.Attribute o m apos) (e :: es) [] pos) (tMeth C m sp [] E0 ta t) := by
  obtain ⟨f, fd, cl, hm, b, F⟩ := c.ex
  exact pe_meth ho cl hm F (hr.mono hk) b .nil pass0 ha hst hpl ht
theorem pk (c : Mak X.prog X.w X.K X.mg X.base k x C ps sp) (hr : Room j X.A) (ha : PA X (e :: es) t) (hk : k + 1 ≤ j := by decide) (hg : Gl X x := by rfl) (hdb : (x == ("__debug__" : Str)) = false := by decide)
    (he : starEach (e :: es) X.env = (false, eval e X.env) :: starEach es X.env := by rfl) (hpl : (backTo pos (starEach es X.env)).any (·.1) = false := by rfl) :
    PE X (.Call (.Name x p) (e :: es) [] pos) (tMake C sp [] E0 t) := by
  obtain ⟨f, fd, hm, M, b, F⟩ := c.ex
  exact pe_make M F (hr.mono hk) hg hm b .nil pass0 ha hdb he hpl
end
section
variable {P : Program} {w : World} {K : PySem.W.Frag} {mg : Str → Option Value} {base : Heap} {x qual : Str} {st : Stmt} {N ps : List Str} {k : Nat} {sp : Sp} {f : Addr}
/-- a def of the text as the head found it -/
def Fd (K : PySem.W.Frag) (x qual : Str) (st : Stmt) (f : Addr) : Prop := ∃ fd, FunD K x qual (defArgs st) (defBody st) (defScope st) [] [] f fd
theorem fn_mk (F : Fd K x qual st f) (S : FnScope N ps (defScope st))
    (hb : ∀ (kV doc pm : Value) (an : Option Addr) (cdv ct : Value) (us : List Value), us.length = ps.length → bindArgs (PySem.W.fnOf x qual (defArgs st) (defBody st) (defScope st) .none kV doc pm an cdv ct) ⟨us, []⟩ = pure (ps.zip us))
    (len : ∀ vs H Q E, sp vs H Q E → vs.length = ps.length)
    (hbody : ∀ (cdv : Value) (A : Around) (outer : List Env) (s : Shared) (H : Hp) (vs : List V) (Q : VK) (E : XK), Room k (A.deeper (envOfC qual (defScope st) s.heap.objs.size f cdv)) → sp vs H Q E →
      ∃ t, PSs (cxOf CX0 P w K mg base N qual (defScope st) f cdv A outer s H E).nox (defBody st) t ∧ t { nx := fun _ H' => Q .non H', rt := Q } (start N vs) H) :
    ∃ fd, Binds K fd ps [] ∧ PySem.W.keepIn K (.ref f) = true ∧ FnOk P w K mg base CX0 (k + 1) f fd ps sp := by
  obtain ⟨fd, F⟩ := F
  refine ⟨fd, F.bindsN hb, F.kp, F.ok S len fun cdv A outer s H vs Q E hr h => ?_⟩
  obtain ⟨t, h1, h2⟩ := hbody cdv A outer s H vs Q E hr h
  exact ⟨t, PSs.nox h1, h2⟩
theorem Cal.mk' (hm : mg x = some (.ref f)) (h : ∃ fd, Binds K fd ps [] ∧ PySem.W.keepIn K (.ref f) = true ∧ FnOk P w K mg base CX0 k f fd ps sp) : Cal P w K mg base k x ps sp := by
  obtain ⟨fd, b, kp, F⟩ := h
  exact ⟨f, fd, hm, kp, b, F⟩
end

/-! ### heaps -/
theorem keep_new {H : Hp} {a p : Addr} {o u : HO} (h : H a = some o) (hn : H p = none) : upd H p u a = some o := by
  rw [upd_ne (ne_of_none h hn)]
  exact h
theorem keep_of {H H' : Hp} {a : Addr} {o : HO} (h : H a = some o) (s : Same H H') : H' a = some o := s a o h
theorem Same.new {H : Hp} {p : Addr} {u : HO} (hn : H p = none) : Same H (upd H p u) := fun _ _ e => keep_new e hn
/-! ### corners, pairs of corners -/
abbrev Pt := Int × Int
abbrev Pq := Pt × Pt
def Cn (H : Hp) (v : V) (c : Pt) : Prop := ∃ t, v = .ref t ∧ H t = some (.tup [.int c.1, .int c.2])
def Pr (H : Hp) (v : V) (c : Pq) : Prop := ∃ t v1 v2, v = .ref t ∧ H t = some (.tup [v1, v2]) ∧ Cn H v1 c.1 ∧ Cn H v2 c.2
end Cp
end
section
namespace Cp
open PySem PySem.Spec PyProof.Rows L2

/-! ### readings, step by step -/
section
variable {σ : L2.St} {H : Hp} {D : Ends} {Q : VK} {t u : TS} {te ta tb : TE} {tc td : TT} {tl tr : TA} {i : Nat} {v x y z : V} {n m : Int} {a b : Str} {K : PySem.W.Frag}
theorem s_seq (h : t { D with nx := u D } σ H) : tSeq t u D σ H := h
theorem s_next (h : D.nx σ H) : tNext D σ H := h
theorem s_ret (h : te σ H D.rt) : tRet te D σ H := h
theorem s_drop (h : te σ H fun _ H1 => D.nx σ H1) : tDrop te D σ H := h
theorem s_asg {g : TG} (h : te σ H fun x H1 => g x σ H1 D.nx) : tAsg te g D σ H := h
theorem s_gname {Q : L2.St → Hp → Prop} (h : Q (σ.set i (some v)) H) : gName i v σ H Q := h
theorem s_if (h : tc σ H fun b H1 => if b = true then t D σ H1 else u D σ H1) : tIfS tc t u D σ H := h
theorem s_var (h : σ[i]? = some (some v)) (q : Q v H) : tVar i σ H Q := ⟨v, h, q⟩
theorem s_c (q : Q v H) : tC v σ H Q := q
theorem s_op {r : R2} (h : ta σ H fun x H1 => tb σ H1 fun y H2 => r x y H2 Q) : tOp r ta tb σ H Q := h
theorem s_I0 {g : Int → Int → V} (q : Q (g n m) H) : rI0 g (.int n) (.int m) H Q := ⟨n, m, rfl, rfl, q⟩
theorem s_I {C : Int → Int → Prop} {g : Int → Int → V} (c : C n m) (q : Q (g n m) H) : rI C g (.int n) (.int m) H Q := ⟨n, m, rfl, rfl, c, q⟩
theorem dec_int : decide (V.int n = V.int m) = decide (n = m) := by
  by_cases h : n = m
  · rw [h]; simp
  · simp [h]
theorem dec_str : decide (V.str a = V.str b) = decide (a = b) := by
  by_cases h : a = b
  · rw [h]; simp
  · simp [h]
theorem s_eqI (q : Q (.bl (decide (n = m))) H) : rEq (.int n) (.int m) H Q := ⟨rfl, by rw [dec_int]; exact q⟩
theorem s_neI (q : Q (.bl (!decide (n = m))) H) : rNe (.int n) (.int m) H Q := ⟨rfl, by rw [dec_int]; exact q⟩
theorem s_eqS (q : Q (.bl (decide (a = b))) H) : rEq (.str a) (.str b) H Q := ⟨rfl, by rw [dec_str]; exact q⟩
theorem s_neS (q : Q (.bl (!decide (a = b))) H) : rNe (.str a) (.str b) H Q := ⟨rfl, by rw [dec_str]; exact q⟩
theorem s_test {Q : Bool → Hp → Prop} (h : te σ H fun x H' => ∃ k, x = .bl k ∧ Q k H') : tTest te σ H Q := h
theorem s_tB {Q : Bool → Hp → Prop} (h : te σ H fun x H' => ∃ k, x = .bl k ∧ Q k H') : tB te σ H Q := h
theorem s_bl {Q : Bool → Prop} {k : Bool} (q : Q k) : ∃ k', V.bl k = .bl k' ∧ Q k' := ⟨k, rfl, q⟩
theorem s_and {Q : Bool → Hp → Prop} (h : tc σ H fun c H1 => if c = true then td σ H1 Q else Q false H1) : tAnd tc td σ H Q := h
theorem s_or {Q : Bool → Hp → Prop} (h : tc σ H fun c H1 => if c = true then Q true H1 else td σ H1 Q) : tOr tc td σ H Q := h
theorem s_not {Q : Bool → Hp → Prop} (h : tc σ H fun c H1 => Q (!c) H1) : tNot tc σ H Q := h
theorem s_andV (h : ta σ H fun x H1 => ∃ c, x = .bl c ∧ if c = true then tb σ H1 Q else Q (.bl false) H1) : tAndV ta tb σ H Q := h
theorem s_chain {r r' : R2} (h : ta σ H fun x H1 => tb σ H1 fun y H2 => r x y H2 fun z H3 => ∃ k, z = .bl k ∧ (if k = true then te σ H3 fun w' H4 => r' y w' H4 Q else Q (.bl false) H3)) : tChain r r' ta tb te σ H Q := h
theorem s_nil {Q : List V → Hp → Prop} (q : Q [] H) : tNil σ H Q := q
theorem s_cons {Q : List V → Hp → Prop} (h : te σ H fun x H1 => tl σ H1 fun xs H2 => Q (x :: xs) H2) : tCons te tl σ H Q := h
theorem s_tup (h : tl σ H fun xs H1 => xs.length ≤ sizeLine ∧ ∀ p, H1 p = none → Q (.ref p) (upd H1 p (.tup xs))) : tTup tl σ H Q := h
theorem s_lst (h : tl σ H fun xs H1 => xs.length ≤ sizeLine ∧ ∀ p, H1 p = none → Q (.ref p) (upd H1 p (.lst xs))) : tLst tl σ H Q := h
theorem s_new {xs : List V} {o : HO} (hz : Nat.ble xs.length 1000 = true) (q : ∀ p H1, H p = none → Same H H1 → H1 p = some o → Q (.ref p) H1) : xs.length ≤ sizeLine ∧ ∀ p, H p = none → Q (.ref p) (upd H p o) :=
  ⟨Nat.le_trans (Nat.le_of_ble_eq_true hz) (by decide), fun p hp => q p _ hp (Same.new hp) upd_same⟩
theorem s_new' {o : HO} (q : ∀ p H1, H p = none → Same H H1 → H1 p = some o → Q (.ref p) H1) : ∀ p, H p = none → Q (.ref p) (upd H p o) := fun p hp => q p _ hp (Same.new hp) upd_same
theorem s_CB {r : List V → Hp → VK → Prop} (h : tl σ H fun vs H1 => r vs H1 Q) : tCB r tl σ H Q := h
theorem s_call {sp : Sp} {E : XK} (h : tl σ H fun vs H1 => sp (vs ++ []) H1 Q E) : tCall sp [] E tl σ H Q := h
theorem s_ixT {p : Addr} {xs : List V} (h : H p = some (.tup xs)) (e : atI xs n = some v) (q : Q v H) : rIxT K (.ref p) (.int n) H Q := ⟨p, xs, n, v, rfl, rfl, SqT.of h, e, q⟩
theorem s_ixL {p : Addr} {xs : List V} (h : H p = some (.lst xs)) (e : atI xs n = some v) (q : Q v H) : rIxL K (.ref p) (.int n) H Q := ⟨p, xs, n, v, rfl, rfl, SqL.of h, e, q⟩
theorem s_gtup {p : Addr} {xs : List V} {k : Nat} {g : TGs} {Q : L2.St → Hp → Prop} (h : H p = some (.tup xs)) (e : xs.length = k) (q : g xs σ H Q) : gTup K k g (.ref p) σ H Q := ⟨p, xs, rfl, SqT.of h, e, q⟩
theorem s_gcons {g : TG} {gs : TGs} {xs : List V} {Q : L2.St → Hp → Prop} (q : g x σ H fun σ' H' => gs xs σ' H' Q) : gCons g gs (x :: xs) σ H Q := ⟨x, xs, rfl, q⟩
theorem s_gnil {Q : L2.St → Hp → Prop} (q : Q σ H) : gNil [] σ H Q := ⟨rfl, q⟩
theorem s_BM {T : String} {r : V → List V → Hp → VK → Prop} (h : te σ H fun x H1 => tyV K T x H1 ∧ tl σ H1 fun xs H2 => r x xs H2 Q) : tBM K T r te tl σ H Q := h
theorem s_lty {p : Addr} {xs : List V} (h : H p = some (.lst xs)) : tyV K "list" (.ref p) H := .inl ⟨rfl, _, SqL.of h⟩
theorem s_append {p : Addr} {xs : List V} (h : H p = some (.lst xs)) (hl : xs.length < 100000) (q : ∀ H1, (∀ b o, b ≠ p → H b = some o → H1 b = some o) → H1 p = some (.lst (xs ++ [v])) → (∀ b, H1 b = none → H b = none) → Q .non H1) : rAppend (.ref p) [v] H Q :=
  ⟨p, xs, v, rfl, rfl, h, Nat.lt_of_lt_of_le hl (by decide), q _ (fun b o hb e => by rw [upd_ne hb]; exact e) upd_same fun b e => by
    by_cases hb : b = p
    · rw [hb, upd_same] at e; cases e
    · rw [upd_ne hb] at e; exact e⟩
theorem ite3 {c A B : Prop} [Decidable c] (h1 : c → A) (h2 : ¬ c → B) : if decide c = true then A else B := by
  by_cases h : c
  · rw [decide_eq_true h, if_pos rfl]; exact h1 h
  · rw [decide_eq_false h, if_neg Bool.false_ne_true]; exact h2 h
theorem ite3n {c A B : Prop} [Decidable c] (h1 : ¬ c → A) (h2 : c → B) : if (!decide c) = true then A else B := by
  by_cases h : c
  · rw [decide_eq_true h]; exact iteF (h2 h)
  · rw [decide_eq_false h]; exact iteT (h1 h)
theorem iteB {b : Bool} {A B : Prop} (h1 : b = true → A) (h2 : b = false → B) : if b = true then A else B := by
  cases b
  · exact iteF (h2 rfl)
  · exact iteT (h1 rfl)
end
theorem same_tr {H H1 H2 : Hp} (a : Same H H1) (b : Same H1 H2) : Same H H2 := Same.trans a b
theorem Cn.up {H H' : Hp} {v : V} {c : Pt} (h : Cn H v c) (s : Same H H') : Cn H' v c := by
  obtain ⟨t, e, h⟩ := h
  exact ⟨t, e, s _ _ h⟩
theorem Pr.up {H H' : Hp} {v : V} {c : Pq} (h : Pr H v c) (s : Same H H') : Pr H' v c := by
  obtain ⟨t, v1, v2, e, h, h1, h2⟩ := h
  exact ⟨t, v1, v2, e, s _ _ h, h1.up s, h2.up s⟩
theorem nof {H H1 : Hp} {p : Addr} (h : H1 p = none) (s : Same H H1) : H p = none := s.free h
end Cp
end
section
namespace Cp
open PySem PySem.Spec PyProof.Rows L2

/-! ### dicts whose keys are corners, or pairs of corners -/
def kPt (c : Pt) : NestedKey := .tup [.num c.1, .num c.2]
def kPq (c : Pq) : NestedKey := .tup [kPt c.1, kPt c.2]
theorem kPt_inj {a b : Pt} (h : kPt a = kPt b) : a = b := by
  obtain ⟨a1, a2⟩ := a
  obtain ⟨b1, b2⟩ := b
  injection h with h
  injection h with h1 h
  injection h with h2 _
  injection h1 with h1
  injection h2 with h2
  have e1 : a1 = b1 := h1
  have e2 : a2 = b2 := h2
  rw [e1, e2]
theorem kPq_inj {a b : Pq} (h : kPq a = kPq b) : a = b := by
  obtain ⟨a1, a2⟩ := a
  obtain ⟨b1, b2⟩ := b
  injection h with h
  injection h with h1 h
  injection h with h2 _
  have e1 : a1 = b1 := kPt_inj h1
  have e2 : a2 = b2 := kPt_inj h2
  rw [e1, e2]
theorem vals2 {x y : V} {us : List Value} (h : Vals [x, y] us) : ∃ u v, us = [u, v] ∧ RelV x u ∧ RelV y v := Vals.two h
theorem Cn.key {P : Program} {w : World} {H : Hp} {h : Heap} (ok : HOk P w H h) {v : V} {c : Pt} (q : Cn H v c) : ∃ t, v = .ref t ∧ NestedIs h (kPt c) (.ref t) := by
  obtain ⟨t, e, ht⟩ := q
  obtain ⟨_, its, r, o, ho, hc, n, hd⟩ := ok t _ ht
  obtain ⟨u1, u2, rfl, r1, r2⟩ := vals2 r
  obtain ⟨t1, rfl⟩ := r1
  obtain ⟨t2, rfl⟩ := r2
  exact ⟨t, e, .tup ho hc hd (.cons (.int _ _) (.cons (.int _ _) .nil))⟩
theorem Pr.key {P : Program} {w : World} {H : Hp} {h : Heap} (ok : HOk P w H h) {v : V} {c : Pq} (q : Pr H v c) : ∃ t, v = .ref t ∧ NestedIs h (kPq c) (.ref t) := by
  obtain ⟨t, v1, v2, e, ht, h1, h2⟩ := q
  obtain ⟨_, its, r, o, ho, hc, n, hd⟩ := ok t _ ht
  obtain ⟨u1, u2, rfl, r1, r2⟩ := vals2 r
  obtain ⟨t1, rfl, k1⟩ := h1.key ok
  obtain ⟨t2, rfl, k2⟩ := h2.key ok
  cases r1
  cases r2
  exact ⟨t, e, .tup ho hc hd (.cons k1 (.cons k2 .nil))⟩
/-- a kind of keys: how a value is one, in the abstract heap -/
structure KT (κ : Type) where
  enc : κ → NestedKey
  inj : ∀ {a b}, enc a = enc b → a = b
  dep : ∀ a, (enc a).depth ≤ 8
  is : Hp → V → κ → Prop
  key : ∀ {P : Program} {w : World} {H : Hp} {h : Heap}, HOk P w H h → ∀ {v : V} {c : κ}, is H v c → ∃ t, v = .ref t ∧ NestedIs h (enc c) (.ref t)
  up : ∀ {H H' : Hp}, (∀ a xs, H a = some (.tup xs) → H' a = some (.tup xs)) → ∀ {v : V} {c : κ}, is H v c → is H' v c
theorem Cn.upT {H H' : Hp} (s : ∀ a xs, H a = some (.tup xs) → H' a = some (.tup xs)) {v : V} {c : Pt} (h : Cn H v c) : Cn H' v c := by
  obtain ⟨t, e, h⟩ := h
  exact ⟨t, e, s _ _ h⟩
theorem Pr.upT {H H' : Hp} (s : ∀ a xs, H a = some (.tup xs) → H' a = some (.tup xs)) {v : V} {c : Pq} (h : Pr H v c) : Pr H' v c := by
  obtain ⟨t, v1, v2, e, h, h1, h2⟩ := h
  exact ⟨t, v1, v2, e, s _ _ h, h1.upT s, h2.upT s⟩
def kt1 : KT Pt := ⟨kPt, kPt_inj, fun a => by simp [kPt, NestedKey.depth, NestedKey.depthAll], Cn, fun ok _ _ q => q.key ok, fun s _ _ h => h.upT s⟩
def kt2 : KT Pq := ⟨kPq, kPq_inj, fun a => by simp [kPq, kPt, NestedKey.depth, NestedKey.depthAll], Pr, fun ok _ _ q => q.key ok, fun s _ _ h => h.upT s⟩

section
variable {κ : Type} [DecidableEq κ]
def knd (T : KT κ) (P : Program) (w : World) : HeapKind P w κ where
  is := fun h k a => NestedIs h (T.enc k) (.ref a) ∧ (T.enc k).depth ≤ 8
  hash := fun k => (nestedKind P w).hash (T.enc k)
  draws := fun k => (nestedKind P w).draws (T.enc k)
  room := (nestedKind P w).room
  inj := fun hx hy => T.inj ((nestedKind P w).inj hx hy)
  keeps := fun hx ho hd hs => (nestedKind P w).keeps hx ho hd hs
  pyHash := fun hu hk h => (nestedKind P w).pyHash hu hk h
  eqBool := fun {A E s x y a b Q} hu hx hy h => (nestedKind P w).eqBool hu hx hy (by
    have e : decide (T.enc x = T.enc y) = decide (x = y) := by
      by_cases q : x = y
      · rw [q]; simp
      · have q2 : ¬ T.enc x = T.enc y := fun z => q (T.inj z)
        rw [decide_eq_false q, decide_eq_false q2]
    rw [e]
    exact h)
  quiet := fun hk h => (nestedKind P w).quiet hk h

abbrev RelD : List (κ × Addr × V) → List (κ × Addr × Value) → Prop := Paired fun p q => p.1 = q.1 ∧ p.2.1 = q.2.1 ∧ RelV p.2.2 q.2.2
/-- the dict at d is the object o -/
def NDo (d : Addr) (o : Obj) : HO := .ext fun h => h.get? d = some o
/-- the abstract dict: its keys and values; o its object -/
structure NTabO (T : KT κ) (P : Program) (w : World) (H : Hp) (d : Addr) (o : Obj) (kvs : List (κ × V)) : Prop where
  at_ : H d = some (NDo d o)
  low : (d == sysModules) = false
  nd : (kvs.map (·.1)).Nodup
  le : kvs.length ≤ 100000
  ex : ∃ (xs : List (κ × Addr × V)) (ys : List (κ × Addr × Value)) (es : Array DictEntry) (ep : Nat), xs.map (fun x => (x.1, x.2.2)) = kvs ∧ RelD xs ys ∧ o.ExactDict ∧ o.data = .dict es ep ∧ es.toList = ys.map (entryOfKey (knd T P w)) ∧ ∀ x ∈ xs, T.is H (.ref x.2.1) x.1
def NTab (T : KT κ) (P : Program) (w : World) (H : Hp) (d : Addr) (kvs : List (κ × V)) : Prop := ∃ o, NTabO T P w H d o kvs
def look (kvs : List (κ × V)) (k : κ) : Option V := (kvs.find? fun kv => decide (kv.1 = k)).map (·.2)
def put (kvs : List (κ × V)) (k : κ) (v : V) : List (κ × V) := if (look kvs k).isSome then kvs.map fun kv => if kv.1 = k then (kv.1, v) else kv else kvs ++ [(k, v)]
theorem look_nil (k : κ) : look [] k = none := rfl
theorem look_cons (p : κ × V) (kvs : List (κ × V)) (k : κ) : look (p :: kvs) k = if p.1 = k then some p.2 else look kvs k := by
  unfold look
  rw [List.find?_cons]
  by_cases h : p.1 = k <;> simp [h]
theorem look_app (xs ys : List (κ × V)) (k : κ) : look (xs ++ ys) k = (look xs k).or (look ys k) := by
  induction xs with
  | nil => simp [look_nil]
  | cons p xs ih =>
    rw [List.cons_append, look_cons, look_cons]
    by_cases h : p.1 = k <;> simp [h, ih]
theorem look_none {kvs : List (κ × V)} {k : κ} : look kvs k = none ↔ k ∉ kvs.map (·.1) := by
  induction kvs with
  | nil => simp [look_nil]
  | cons p kvs ih =>
    rw [look_cons]
    by_cases h : p.1 = k
    · simp [h]
    · simp only [if_neg h, ih, List.map_cons, List.mem_cons, not_or]
      exact ⟨fun q => ⟨fun e => h e.symm, q⟩, fun q => q.2⟩
theorem look_some {kvs : List (κ × V)} {k : κ} {v : V} (h : look kvs k = some v) : (k, v) ∈ kvs := by
  induction kvs with
  | nil => cases h
  | cons p kvs ih =>
    rw [look_cons] at h
    by_cases e : p.1 = k
    · rw [if_pos e] at h
      cases h
      subst e
      exact .head _
    · rw [if_neg e] at h
      exact .tail _ (ih h)
theorem look_mem {kvs : List (κ × V)} (hn : (kvs.map (·.1)).Nodup) {k : κ} {v : V} (h : (k, v) ∈ kvs) : look kvs k = some v := by
  induction kvs with
  | nil => cases h
  | cons p kvs ih =>
    rw [List.map_cons, List.nodup_cons] at hn
    rw [look_cons]
    rcases List.mem_cons.mp h with rfl | h
    · rw [if_pos rfl]
    · rw [if_neg fun e => hn.1 (List.mem_map.mpr ⟨(k, v), h, e.symm⟩), ih hn.2 h]
theorem look_mapput (k : κ) (v : V) (k' : κ) (kvs : List (κ × V)) : look (kvs.map fun kv => if kv.1 = k then (kv.1, v) else kv) k' = if k' = k then (look kvs k').map fun _ => v else look kvs k' := by
  induction kvs with
  | nil => simp [look_nil]
  | cons p kvs ih =>
    rw [List.map_cons, look_cons, look_cons, ih]
    by_cases h : p.1 = k
    · by_cases h2 : k' = k
      · simp [h, h2]
      · have h3 : ¬ k = k' := fun e => h2 e.symm
        simp [h, h2, h3]
    · by_cases h2 : k' = k
      · simp [h, h2]
      · by_cases h3 : p.1 = k' <;> simp [h, h2, h3]
theorem look_put (kvs : List (κ × V)) (k k' : κ) (v : V) : look (put kvs k v) k' = if k' = k then some v else look kvs k' := by
  unfold put
  cases e : look kvs k with
  | none =>
    simp only [Option.isSome_none, Bool.false_eq_true, if_false]
    rw [look_app, look_cons, look_nil]
    by_cases h : k' = k
    · rw [h, e]; simp
    · have h2 : ¬ k = k' := fun q => h q.symm
      simp [h, h2]
  | some u =>
    simp only [Option.isSome_some, if_true]
    rw [look_mapput]
    by_cases h : k' = k
    · rw [h, e]; simp
    · simp [h]
theorem put_keys (kvs : List (κ × V)) (k : κ) (v : V) : (put kvs k v).map (·.1) = if (look kvs k).isSome then kvs.map (·.1) else kvs.map (·.1) ++ [k] := by
  unfold put
  split
  · rw [List.map_map]
    refine List.map_congr_left fun x _ => ?_
    by_cases h : x.1 = k <;> simp [h]
  · simp
theorem put_nodup {kvs : List (κ × V)} (hn : (kvs.map (·.1)).Nodup) (k : κ) (v : V) : ((put kvs k v).map (·.1)).Nodup := by
  rw [put_keys]
  cases e : look kvs k with
  | none =>
    simp only [Option.isSome_none, Bool.false_eq_true, if_false]
    refine List.nodup_append.mpr ⟨hn, List.nodup_cons.mpr ⟨List.not_mem_nil, List.nodup_nil⟩, fun a ha b hb => ?_⟩
    intro q
    rw [List.mem_singleton.mp hb] at q
    rw [q] at ha
    exact (look_none.mp e) ha
  | some u => simpa using hn
theorem put_len (kvs : List (κ × V)) (k : κ) (v : V) : (put kvs k v).length ≤ kvs.length + 1 := by
  unfold put
  split <;> simp

theorem RelD.keys {xs : List (κ × Addr × V)} {ys : List (κ × Addr × Value)} (r : RelD xs ys) : ys.map (·.1) = xs.map (·.1) := by
  induction r with
  | nil => rfl
  | cons a _ ih => rw [List.map_cons, List.map_cons, ih, a.1]
theorem RelD.at_ {xs : List (κ × Addr × V)} {ys : List (κ × Addr × Value)} (r : RelD xs ys) (k : κ) :
    match look (xs.map fun x => (x.1, x.2.2)) k, atKey ys k with
    | some v, some p => RelV v p.2
    | none, none => True
    | _, _ => False := by
  induction r with
  | nil => trivial
  | @cons a b xs ys h _ ih =>
    rw [List.map_cons, look_cons]
    unfold atKey
    rw [List.find?_cons]
    by_cases e : a.1 = k
    · have e2 : b.1 = k := by rw [← h.1, e]
      simp only [e, e2, if_true, decide_true, Option.map_some]
      exact h.2.2
    · have e2 : ¬ b.1 = k := by rw [← h.1]; exact e
      simp only [if_neg e, decide_eq_false e2]
      exact ih
theorem RelD.put {xs : List (κ × Addr × V)} {ys : List (κ × Addr × Value)} (r : RelD xs ys) (k : κ) (a : Addr) {v : V} {u : Value} (rv : RelV v u) :
    ∃ xs' : List (κ × Addr × V), RelD xs' (storedH ys k a u) ∧ xs'.map (fun x => (x.1, x.2.2)) = Cp.put (xs.map fun x => (x.1, x.2.2)) k v ∧ ∀ x ∈ xs', (x.1 = k ∧ x.2.1 = a) ∨ ∃ y ∈ xs, x.1 = y.1 ∧ x.2.1 = y.2.1 := by
  have m := r.at_ k
  unfold Cp.put
  cases e : look (xs.map fun x => (x.1, x.2.2)) k with
  | none =>
    rw [e] at m
    cases e2 : atKey ys k with
    | some p => rw [e2] at m; exact m.elim
    | none =>
      rw [storedH_new e2]
      refine ⟨xs ++ [(k, a, v)], ?_, by simp, fun x hx => ?_⟩
      · exact Paired.snoc r ⟨rfl, rfl, rv⟩
      · rcases List.mem_append.mp hx with hx | hx
        · exact .inr ⟨x, hx, rfl, rfl⟩
        · rw [List.mem_singleton.mp hx]; exact .inl ⟨rfl, rfl⟩
  | some w =>
    rw [e] at m
    cases e2 : atKey ys k with
    | none => rw [e2] at m; exact m.elim
    | some p =>
      rw [storedH_old e2]
      refine ⟨xs.map fun x => if x.1 = k then (x.1, x.2.1, v) else x, ?_, ?_, fun x hx => ?_⟩
      · clear m e e2
        induction r with
        | nil => exact .nil
        | @cons p q xs ys h t ih =>
          rw [List.map_cons, List.map_cons]
          refine .cons ?_ ih
          unfold putAt
          by_cases c : p.1 = k
          · have c2 : q.1 = k := by rw [← h.1, c]
            rw [if_pos c, if_pos c2]
            exact ⟨h.1, h.2.1, rv⟩
          · have c2 : ¬ q.1 = k := by rw [← h.1]; exact c
            rw [if_neg c, if_neg c2]
            exact h
      · simp only [Option.isSome_some, if_true, List.map_map]
        refine List.map_congr_left fun x _ => ?_
        by_cases c : x.1 = k <;> simp [c]
      · obtain ⟨y, hy, rfl⟩ := List.mem_map.mp hx
        by_cases c : y.1 = k
        · rw [if_pos c]; exact .inr ⟨y, hy, rfl, rfl⟩
        · rw [if_neg c]; exact .inr ⟨y, hy, rfl, rfl⟩

section
variable {X : Cx} {pins : List (Addr × Obj)} {σ : L2.St} {H : Hp} {s : Shared} {T : KT κ} {d : Addr} {kvs : List (κ × V)} {k : κ}
theorem RelD.back {xs : List (κ × Addr × V)} {ys : List (κ × Addr × Value)} (r : RelD xs ys) : ∀ y ∈ ys, ∃ x ∈ xs, x.1 = y.1 ∧ x.2.1 = y.2.1 := by
  induction r with
  | nil => intro y hy; cases hy
  | cons a _ ih =>
    intro y hy
    rcases List.mem_cons.mp hy with rfl | hy
    · exact ⟨_, List.mem_cons_self, a.1, a.2.1⟩
    · obtain ⟨x, hx, q⟩ := ih y hy
      exact ⟨x, List.mem_cons_of_mem _ hx, q⟩
theorem NTabO.raw {o : Obj} (I : Inv X pins σ H s) (h : NTabO T X.prog X.w H d o kvs) : ∃ (xs : List (κ × Addr × V)) (ys : List (κ × Addr × Value)), xs.map (fun x => (x.1, x.2.2)) = kvs ∧ RelD xs ys ∧
    s.heap.DictOfH (knd T X.prog X.w) d ys ∧ ys.length = kvs.length ∧ ∀ x ∈ xs, T.is H (.ref x.2.1) x.1 := by
  obtain ⟨hd, z, hn, hl, xs, ys, es, ep, e, r, hx, hdt, he, his⟩ := h
  have ho : s.heap.get? d = some o := (I.hok d _ hd).1
  refine ⟨xs, ys, e, r, ⟨o, es, ep, ho, hx, hdt, he, fun y hy => ?_, ?_⟩, ?_, his⟩
  · obtain ⟨x, hx', e1, e2⟩ := r.back y hy
    obtain ⟨t, et, hk⟩ := T.key I.hok (his x hx')
    cases et
    show NestedIs _ _ _ ∧ _
    rw [← e1, ← e2]
    exact ⟨hk, T.dep _⟩
  · rw [r.keys]
    have e3 : xs.map (·.1) = kvs.map (·.1) := by rw [← e, List.map_map]; rfl
    rw [e3]
    exact hn
  · rw [← Paired.length r, ← e, List.length_map]
theorem NTab.raw (I : Inv X pins σ H s) (h : NTab T X.prog X.w H d kvs) : ∃ (o : Obj) (xs : List (κ × Addr × V)) (ys : List (κ × Addr × Value)), H d = some (NDo d o) ∧ xs.map (fun x => (x.1, x.2.2)) = kvs ∧ RelD xs ys ∧
    s.heap.DictOfH (knd T X.prog X.w) d ys ∧ (d == sysModules) = false ∧ ys.length = kvs.length ∧ (kvs.map (·.1)).Nodup ∧ ∀ x ∈ xs, T.is H (.ref x.2.1) x.1 := by
  obtain ⟨o, h⟩ := h
  obtain ⟨xs, ys, a1, a2, a3, a4, a5⟩ := h.raw I
  exact ⟨o, xs, ys, h.at_, a1, a2, a3, h.low, a4, h.nd, a5⟩
theorem room_of (hu : X.A.units + 64 < cLine) : (knd T X.prog X.w).room X.A.in1 := by
  show X.A.units + 1 + 8 < cLine
  omega
theorem NTab.get {Q : Value → Shared → Prop} {E : Value → Shared → Prop} (hu : X.A.units + 64 < cLine) (I : Inv X pins σ H s) (h : NTab T X.prog X.w H d kvs) {y v : V} {u : Value} (hk : T.is H y k) (ry : RelV y u) (hv : look kvs k = some v)
    (q : ∀ w' s', Inv X pins σ H s' → RelV v w' → Q w' s') : wpAny (model X.prog X.w) X.A (getItem (.ref d) u) Q E s := by
  obtain ⟨o, xs, ys, hd, e, r, hm, _, _, _, _⟩ := h.raw I
  obtain ⟨t, rfl, hkey⟩ := T.key I.hok hk
  obtain rfl : u = Value.ref t := ry
  have m := r.at_ k
  rw [e, hv] at m
  cases e2 : atKey ys k with
  | none => rw [e2] at m; exact m.elim
  | some p =>
    rw [e2] at m
    exact wpAny_getItem_heap (room_of hu) ⟨hkey, T.dep _⟩ hm e2 (q _ _ (I.tok _) m)
theorem NDo.held {P : Program} {w : World} {H' : Hp} {h' : Heap} {o : Obj} (ho : h'.get? d = some o) : ObjOk P w H' h' d (NDo d o) :=
  ⟨ho, ⟨o, ho⟩, fun _ _ a k => k _ a⟩
theorem NDo_ne {o : Obj} {zs : List V} : NDo d o ≠ HO.tup zs := by
  intro h
  cases h
theorem tupKeep {o u : HO} (hd : H d = some o) (ho : ∀ zs, o ≠ HO.tup zs) : ∀ a zs, H a = some (.tup zs) → upd H d u a = some (.tup zs) := fun a zs e => by
  rw [upd_ne]
  · exact e
  · rintro rfl
    rw [hd] at e
    exact ho zs (Option.some.inj e)
/-- what the store leaves -/
theorem NTab.store {t : Addr} {v : V} {u : Value} {h' : Heap} {tk : Nat} {o : Obj} (I : Inv X pins σ H s) {xs : List (κ × Addr × V)} {ys : List (κ × Addr × Value)} (hd : H d = some (NDo d o)) (e : xs.map (fun x => (x.1, x.2.2)) = kvs) (hl : kvs.length < 100000) (hn : (kvs.map (·.1)).Nodup) (r : RelD xs ys)
    (z : (d == sysModules) = false) (his : ∀ x ∈ xs, T.is H (.ref x.2.1) x.1) (hk : T.is H (.ref t) k) (rv : RelV v u) (hm : h'.DictOfH (knd T X.prog X.w) d (storedH ys k t u)) (hs : Heap.SameBut d s.heap h') :
    ∃ H', Inv X pins σ H' { s with heap := h', toks := tk } ∧ NTab T X.prog X.w H' d (put kvs k v) ∧ (∀ b o, b ≠ d → H b = some o → H' b = some o) ∧ ∀ b, H' b = none → H b = none := by
  obtain ⟨xs', r', e', hx'⟩ := r.put k t rv
  obtain ⟨o', es, ep, ho, hx, hdt, he, _, _⟩ := hm
  refine ⟨upd H d (NDo d o'), I.write (e := d) (by rw [hd]; trivial) (.inl rfl) (fun b o hb q => (hs.2 b hb).trans q) ⟨o', ho⟩ (NDo.held ho), ?_, fun b o hb q => by rw [upd_ne hb]; exact q, fun b q => ?_⟩
  · refine ⟨o', upd_same, z, put_nodup hn _ _, by have := put_len kvs k v; omega, xs', _, es, ep, by rw [e', e], r', hx, hdt, he, fun x hx => ?_⟩
    refine T.up (tupKeep hd fun _ => NDo_ne) ?_
    rcases hx' x hx with ⟨e1, e2⟩ | ⟨y, hy, e1, e2⟩
    · rw [e1, e2]; exact hk
    · rw [e1, e2]; exact his y hy
  · by_cases hb : b = d
    · rw [hb, upd_same] at q; cases q
    · rw [upd_ne hb] at q; exact q
theorem NTab.set {Q : Unit → Shared → Prop} {E : Value → Shared → Prop} (hu : X.A.units + 64 < cLine) (I : Inv X pins σ H s) (h : NTab T X.prog X.w H d kvs) (hl : kvs.length < 100000) {y v : V} {u u' : Value} (hk : T.is H y k) (ry : RelV y u) (rv : RelV v u')
    (q : ∀ H' s', Inv X pins σ H' s' → NTab T X.prog X.w H' d (put kvs k v) → (∀ b o, b ≠ d → H b = some o → H' b = some o) → (∀ b, H' b = none → H b = none) → Q () s') : wpAny (model X.prog X.w) X.A (setItem (.ref d) u u') Q E s := by
  obtain ⟨o, xs, ys, hd, e, r, hm, z, hz, hn, his⟩ := h.raw I
  obtain ⟨t, rfl, hkey⟩ := T.key I.hok hk
  obtain rfl : u = Value.ref t := ry
  refine wpAny_setItem_heap (hsz := by have : (100000 : Nat) ≤ sizeLine := by decide
                                       omega) (room_of hu) ⟨hkey, T.dep _⟩ hm fun h' hm' hs => ?_
  obtain ⟨H', I', t', k1, k2⟩ := NTab.store (tk := s.toks + (knd T X.prog X.w).draws k) I hd e hl hn r z his hk rv hm' hs
  exact q H' _ I' t' k1 k2
theorem NTab.setd {Q : Value → Shared → Prop} {E : Value → Shared → Prop} (hu : X.A.units + 64 < cLine) (I : Inv X pins σ H s) (h : NTab T X.prog X.w H d kvs) (hl : kvs.length < 100000) {y v : V} {u u' : Value} (hk : T.is H y k) (ry : RelV y u) (rv : RelV v u')
    (q1 : ∀ x, look kvs k = some x → ∀ w' s', Inv X pins σ H s' → RelV x w' → Q w' s')
    (q2 : look kvs k = none → ∀ H' s', Inv X pins σ H' s' → NTab T X.prog X.w H' d (put kvs k v) → (∀ b o, b ≠ d → H b = some o → H' b = some o) → (∀ b, H' b = none → H b = none) → Q u' s') :
    wpAny (model X.prog X.w) X.A (call (.builtin "dict.setdefault") [.ref d, u, u']) Q E s := by
  obtain ⟨o, xs, ys, hd, e, r, hm, z, hz, hn, his⟩ := h.raw I
  obtain ⟨t, rfl, hkey⟩ := T.key I.hok hk
  obtain rfl : u = Value.ref t := ry
  have m := r.at_ k
  rw [e] at m
  refine call_setdefault_heap (hsz := by have : (100000 : Nat) ≤ sizeLine := by decide
                                         omega) (room_of hu) ⟨hkey, T.dep _⟩ z hm (fun p hp => ?_) fun hp h' hm' hs => ?_
  · rw [hp] at m
    cases e2 : look kvs k with
    | none => rw [e2] at m; exact m.elim
    | some x =>
      rw [e2] at m
      exact q1 x e2 _ _ (I.tok _) m
  · rw [hp] at m
    cases e2 : look kvs k with
    | some x => rw [e2] at m; exact m.elim
    | none =>
      obtain ⟨H', I', t', k1, k2⟩ := NTab.store (tk := s.toks + (knd T X.prog X.w).draws k) I hd e hl hn r z his hk rv hm' hs
      exact q2 e2 H' _ I' t' k1 k2
theorem NTab.in_ {Q : Value → Shared → Prop} {E : Value → Shared → Prop} (hu : X.A.units + 64 < cLine) (I : Inv X pins σ H s) (h : NTab T X.prog X.w H d kvs) {y : V} {u : Value} (hk : T.is H y k) (ry : RelV y u)
    (q : ∀ s', Inv X pins σ H s' → Q (.bool (look kvs k).isSome) s') : wpAny (model X.prog X.w) X.A (compareOp .In u (.ref d)) Q E s := by
  obtain ⟨o, xs, ys, hd, e, r, hm, z, hz, hn, his⟩ := h.raw I
  obtain ⟨t, rfl, hkey⟩ := T.key I.hok hk
  obtain rfl : u = Value.ref t := ry
  have m := r.at_ k
  rw [e] at m
  refine wpAny_in_heap (room_of hu) ⟨hkey, T.dep _⟩ z hm ?_
  have e3 : (atKey ys k).isSome = (look kvs k).isSome := by
    cases e1 : look kvs k <;> cases e2 : atKey ys k <;> rw [e1, e2] at m <;> first | exact m.elim | rfl
  rw [e3]
  exact q _ (I.tok _)
end
end

/-! ### as rules of the layer -/
section
variable {κ : Type} [DecidableEq κ] {X : Cx} {T : KT κ} {o i a b e f : Expr} {td ty tx : TE} {pos apos cpos : Pos}
def tNGet (T : KT κ) (P : Program) (w : World) (td ty : TE) : TE := fun σ H Q => td σ H fun x H1 => ty σ H1 fun y H2 => ∃ (d : Addr) (kvs : List (κ × V)) (k : κ) (v : V), x = .ref d ∧ NTab T P w H2 d kvs ∧ T.is H2 y k ∧ look kvs k = some v ∧ Q v H2
theorem pe_nget (T : KT κ) (hu : X.A.units + 64 < cLine) (ho : PE X o td) (hi : PE X i ty) (hs : NoSl i) : PE X (.Subscript o i pos) (tNGet T X.prog X.w td ty) := by
  refine ⟨fun pins s σ H Q I h => ?_⟩
  refine subD_of PySem.F.slot_dict_getitem.lookup hs (thn (ho.run pins s σ H _ I h) fun u s1 ⟨x, H1, I1, rx, q1⟩ => thn (hi.run pins s1 σ H1 _ I1 q1) fun iv s2 ⟨y, H2, I2, ry, d, kvs, k, v, ex, tb, hk, hv, q2⟩ => ?_)
  subst ex
  obtain rfl : u = Value.ref d := rx
  obtain ⟨o, xs, ys, hd, _, _, hm, _⟩ := tb.raw I2
  exact ⟨hm.typeIs, tb.get hu I2 hk ry hv fun w' s3 I3 rw' => ⟨v, H2, I3, rw', q2⟩⟩
def rNSet (T : KT κ) (P : Program) (w : World) : TSet := fun o i v H Q => ∃ (d : Addr) (kvs : List (κ × V)) (k : κ), o = .ref d ∧ NTab T P w H d kvs ∧ kvs.length < 100000 ∧ T.is H i k ∧
  ∀ H', NTab T P w H' d (put kvs k v) → (∀ b o, b ≠ d → H b = some o → H' b = some o) → (∀ b, H' b = none → H b = none) → Q H'
theorem set_n (T : KT κ) (hu : X.A.units + 64 < cLine) : PSet X (rNSet T X.prog X.w) := by
  intro pins s σ H o i v ov iv u Q I ro ri rv h
  obtain ⟨d, kvs, k, rfl, tb, hl, hk, q⟩ := h
  cases ro
  exact tb.set hu I hl hk ri rv fun H' s' I' tb' k1 k2 => ⟨H', I', q H' tb' k1 k2⟩
def rNIn (T : KT κ) (P : Program) (w : World) : R2 := fun x y H Q => ∃ (d : Addr) (kvs : List (κ × V)) (k : κ), y = .ref d ∧ NTab T P w H d kvs ∧ T.is H x k ∧ Q (.bl (look kvs k).isSome) H
theorem or_nin (T : KT κ) (hu : X.A.units + 64 < cLine) : OpR X (compareOp .In) (rNIn T X.prog X.w) := by
  intro pins s σ H x y v u Q I rx ry h
  obtain ⟨d, kvs, k, rfl, tb, hk, q⟩ := h
  obtain rfl : u = Value.ref d := ry
  exact tb.in_ hu I hk rx fun s' I' => ⟨.bl _, H, I', rfl, q⟩
theorem pe_nnew (T : KT κ) : PE X (.Dict [] [] pos) (fun σ H Q => ∀ p H1, H p = none → Same H H1 → NTab T X.prog X.w H1 p [] → Q (.ref p) H1) := ⟨fun pins s σ H Q I h => by
  have hp := I.hok.fresh (Nat.le_refl s.heap.objs.size)
  refine wpAny_Dict_empty ⟨.ref s.heap.objs.size, upd H s.heap.objs.size (NDo s.heap.objs.size _), I.laid (a := s.heap.objs.size) (t' := s.toks) (fun _ _ q => Heap.get?_push_of_some _ q) (Nat.le_refl _)
    (NDo.held (Heap.get?_push_size _ rfl)), rfl, h _ _ hp (Same.new hp) ⟨_, upd_same, beq_eq_false_iff_ne.mpr (Nat.ne_of_gt I.big), List.nodup_nil, by simp, [], [], #[], 0, rfl, .nil, ⟨rfl, rfl, rfl⟩, rfl, rfl, fun _ z => by cases z⟩⟩⟩
def tNSetd (T : KT κ) (P : Program) (w : World) (td ty tx : TE) : TE := fun σ H Q => td σ H fun x H1 => ∃ d, x = .ref d ∧ (∃ kvs, NTab T P w H1 d kvs) ∧ ty σ H1 fun y H2 => tx σ H2 fun z H3 => ∃ (kvs : List (κ × V)) (k : κ), NTab T P w H3 d kvs ∧ kvs.length < 100000 ∧ T.is H3 y k ∧
  (∀ v, look kvs k = some v → Q v H3) ∧ (look kvs k = none → ∀ H', NTab T P w H' d (put kvs k z) → (∀ b o, b ≠ d → H3 b = some o → H' b = some o) → (∀ b, H' b = none → H3 b = none) → Q z H')
theorem pe_nsetd (T : KT κ) (hu : X.A.units + 64 < cLine) (ho : PE X o td) (he : PE X e ty) (hf : PE X f tx) (m : M2 X o "setdefault" apos e f cpos) : PE X (.Call (.Attribute o "setdefault" apos) [e, f] [] cpos) (tNSetd T X.prog X.w td ty tx) := by
  refine ⟨fun pins s σ H Q I h => ?_⟩
  refine wpAny_Call_method m.base m.few m.line PySem.F.plainAttrs_dict PySem.F.slot_dict_setdefault PySem.F.type_dict_setdefault (thn (ho.run pins s σ H _ I h) fun u s1 ⟨x, H1, I1, rx, d, ex, ⟨kvs0, tb0⟩, q1⟩ => ?_)
  subst ex
  obtain rfl : u = Value.ref d := rx
  obtain ⟨o, xs, ys, hd, _, _, hm, _⟩ := tb0.raw I1
  refine ⟨hm.typeIs, fun b e2 => ?_, ?_⟩
  · cases e2
    obtain ⟨ob, _, _, hob, hx, _⟩ := hm
    exact ⟨ob, hob, hx.2.1⟩
  rw [m.trees]
  refine Calls.callWith_builtin rfl (Calls.evalArgs_plain (Calls.spliced_cons (thn (he.run pins s1 σ H1 _ I1 q1) fun iv s2 ⟨y, H2, I2, ry, q2⟩ =>
    Calls.spliced_cons (thn (hf.run pins s2 σ H2 _ I2 q2) fun fv s3 ⟨z, H3, I3, rz, kvs, k, tb, hl, hk, q3, q4⟩ => Calls.spliced_nil ?_))))
  exact tb.setd hu I3 hl hk ry rz (fun v hv w' s4 I4 rw' => ⟨v, _, I4, rw', q3 v hv⟩) fun hn H' s4 I4 tb' k1 k2 => ⟨z, H', I4, rz, q4 hn H' tb' k1 k2⟩
end
end Cp
end
section
namespace Cp
open PySem PySem.Spec PyProof.Rows L2
/-! ### {k: v for k, v in zip(list, text)} -/
theorem nd_off {b N C D : Nat} (hb : b < N ∨ b = C ∨ b = D) (hC : N + 5 ≤ C) (hD : N + 5 ≤ D) : ¬ (b = N + 4 ∨ b = N + 3 ∨ b = N ∨ b = N + 1) := by omega
theorem nd_ne {b N C : Nat} (hb : b < N + 5) (hC : N + 5 ≤ C) : b ≠ C := by omega
theorem zk_lt {b N l1 : Nat} (h1 : l1 < N) (hb : b = N + 4 ∨ b = N + 2 ∨ b = N + 3 ∨ b = N ∨ b = l1 ∨ b = N + 1) : b < N + 5 := by omega
section
variable {κ : Type} [DecidableEq κ]
/-- what the comprehension puts: keys at their addresses, signs -/
def zipD (es : List (κ × Addr)) (cs : List Nat) : List (κ × Addr × V) := (es.zip cs).map fun p => (p.1.1, p.1.2, .str ⟨#[p.2]⟩)
theorem zipD_keys {es : List (κ × Addr)} {cs : List Nat} (h : es.length = cs.length) : (zipD es cs).map (·.1) = es.map (·.1) := by
  unfold zipD
  rw [List.map_map]
  have e : (fun p : (κ × Addr) × Nat => p.1.1) = (fun q : κ × Addr => q.1) ∘ Prod.fst := rfl
  show (es.zip cs).map (fun p => p.1.1) = _
  rw [e, ← List.map_map, List.map_fst_zip (by omega)]
theorem zipD_pairs {es : List (κ × Addr)} {cs : List Nat} : (zipD es cs).map (fun x => (x.1, x.2.2)) = (es.map (·.1)).zip (cs.map fun c => V.str ⟨#[c]⟩) := by
  unfold zipD
  rw [List.map_map, List.zip_map]
  rfl
def tNdc (T : KT κ) (P : Program) (w : World) (ta : TA) : TE := fun σ H Q => ta σ H fun vs H1 => ∃ (a : Addr) (es : List (κ × Addr)) (z : Str), vs = [.ref a, .str z] ∧ H1 a = some (.lst (es.map fun e => V.ref e.2)) ∧ es.length = z.cps.toList.length ∧ es.length ≤ 100000 ∧ (es.map (·.1)).Nodup ∧
  (∀ e ∈ es, T.is H1 (.ref e.2) e.1) ∧ ∀ D H', H1 D = none → Same H1 H' → NTab T P w H' D ((es.map (·.1)).zip (z.cps.toList.map fun c => V.str ⟨#[c]⟩)) → Q (.ref D) H'
variable {X : Cx}
theorem pe_ndc (T : KT κ) {x y : Str} {pk pv' px py pt pz pc pos : Pos} {x1 : Nat} {e1 e2 : Expr} {scope : Scope} {ta : TA} (hcal : X.calm = true) (hu : X.A.units + 64 < cLine) (hm : X.mg "zip" = none) (ha : PA X [e1, e2] ta)
    (hkind : scope.kind = .function) (hloc : ∀ y ∈ scope.names, y.2 = .local) (hnames : ∀ y ∈ scope.names, scope.names.lookup y.1 = some .local) (hx : scope.names.lookup x = some .local) (hy : scope.names.lookup y = some .local) (hxy : x ≠ y)
    (hdx : (x == ("__debug__" : Str)) = false := by decide) (hdy : (y == ("__debug__" : Str)) = false := by decide) (hg : Gl X "zip" := by rfl)
    (hs : starEach [e1, e2] X.env = (false, eval e1 X.env) :: starEach [e2] X.env := by rfl) (hpl : (backTo pc (starEach [e2] X.env)).any (·.1) = false := by rfl)
    (hf : ∀ v, foldedSetIterable (.Call (.Name "zip" pz) [e1, e2] [] pc) X.env v = pure v := by intro _; rfl) :
    PE X (.DictComp (.Name x pk) (.Name y pv') [⟨.Tuple [.Name x px, .Name y py] x1 pt, .Call (.Name "zip" pz) [e1, e2] [] pc, [], 0⟩] scope pos) (tNdc T X.prog X.w ta) := by
  refine ⟨fun pins s0 σ H Q I0 h => ?_⟩
  have hclos : closureFor scope X.env = pure (cloFrom X.env.cells scope.names []) := closure_ok fun y hy e => by rw [hloc y hy] at e; cases e
  refine DictComp_goes hclos (fun y hy e => by rw [hloc y hy] at e; cases e) hkind (fun y hy _ => hnames y hy) ?_ hf
  refine Call_ (ld_blt I0 hg hm PyProof.Rows.boot_zip (PyProof.Rows.callWith_type1 (thn (ha.run pc pins s0 σ H _ I0 h) fun us s ⟨vs, H1, I1, r1, q1⟩ => ?_) hs hpl))
  obtain ⟨a, es, z, rfl, hla, hlen, hz, hnd, his, q⟩ := q1
  obtain ⟨u1, u2, rfl, ra, rz⟩ := vals2 r1
  obtain rfl : u1 = Value.ref a := ra
  obtain ⟨tz, rfl⟩ := rz
  have hh : X.A.handled = none := I1.ok.hd hcal
  obtain ⟨its, rv, pl, _⟩ := I1.list (SqL.of hla)
  have hl1 : s.heap.IsList a its.toArray := pl.isList
  have hlt1 : a < s.heap.objs.size := pl.lt
  have hilen : its.length = es.length := by rw [← rv.length, List.length_map]
  generalize hits : its.toArray = xs at hl1
  refine zip_begins2 (begins_list a xs) (begins_text z tz) hl1 trivial fun h₁ hZ hTI hTO hi1 hi2 hz5 hk₁ => ?_
  refine wpAny_pyIter_zip hZ ?_
  refine ⟨_, _, _, _, _, _, rfl, Goes.zip2 (zip_sep2 (N := s.heap.objs.size) (fp1 := [a]) (fp2 := []) (fun b hb => by rw [List.mem_singleton.mp hb]; exact hlt1) (fun b hb => by cases hb))
      (.list (A := X.A.in1) hh _ a (Nat.ne_of_lt hlt1) xs) (Draws.text (A := X.A.in1) hh _ z tz),
    ⟨hZ, hTI, ⟨_, _, hTO⟩, ⟨⟨_, hi1, rfl, rfl⟩, hl1.at fun o e => hk₁ _ o e⟩, ⟨_, hi2, rfl, rfl⟩⟩, fun D C s₃ hB hDn => ?_⟩
  obtain ⟨⟨h₃, tk₃, rfl⟩, old, nD, nC, hDC, hnm⟩ := hB
  have nC' : (s.heap.objs.size + 5 : Nat) ≤ C := by rw [← hz5]; exact nC
  have nD' : (s.heap.objs.size + 5 : Nat) ≤ D := by rw [← hz5]; exact nD
  have hDC' : (D : Nat) ≠ C := hDC
  generalize hcl : cloFrom X.env.cells scope.names [] = cl
  have kinds : ∀ y, scope.names.lookup y = some .local → (compEnvC scope cl C X.env).kindOf y = some .local := fun y hy => lookup_relabel_local hy
  have hp : ((compEnvC scope cl C X.env).scope.kind == .class || ((compEnvC scope cl C X.env).scope.kind == .module && (compEnvC scope cl C X.env).locals != (compEnvC scope cl C X.env).globals)) = false := by
    show (scope.kind == .class || (scope.kind == .module && _)) = false
    rw [hkind]; rfl
  have hkd : (compEnvC scope cl C X.env).scope.kind = .function := hkind
  have zD : (D == sysModules) = false := by
    have hb := I1.big
    have : sysModules < D := Nat.lt_of_lt_of_le hb (Nat.le_trans (Nat.le_add_right _ 5) nD')
    exact beq_eq_false_iff_ne.mpr (Nat.ne_of_gt this)
  -- the keys are what they are in every heap that keeps the old objects
  have keyAt : ∀ (h' : Heap), (∀ b o, s.heap.get? b = some o → h'.get? b = some o) → ∀ e ∈ es, (knd T X.prog X.w).is h' e.1 e.2 := fun h' k e he => by
    have I2 : Inv X pins σ H1 { s with heap := h' } := I1.kept (t' := s.toks) k
    obtain ⟨t, et, hk⟩ := T.key I2.hok (his e he)
    cases et
    exact ⟨hk, T.dep _⟩
  have h5 : ∀ b, b < s.heap.objs.size → b < s.heap.objs.size + 5 := fun b hb => Nat.lt_add_right 5 hb
  refine ⟨fun i s₁ => ∃ (h' : Heap) (tk : Nat) (m : Str → Option Value) (ys : List (κ × Addr × Value)), s₁ = { s with heap := h', toks := tk } ∧ h'.Ns C m ∧ (∀ b o, s.heap.get? b = some o → h'.get? b = some o) ∧ h'.DictOfH (knd T X.prog X.w) D ys ∧ RelD ((zipD es z.cps.toList).take i) ys,
    ⟨h₃, tk₃, _, [], rfl, hnm, fun b o e => old b o (hk₁ b o e), ⟨_, #[], 0, hDn, ⟨rfl, rfl, rfl⟩, rfl, rfl, (fun _ q => by cases q), List.nodup_nil⟩, .nil⟩, ?_, ?_, ?_⟩
  · rintro i s₁ h' tk ⟨h₄, tk₄, m, ys, rfl, n₄, k₄, d₄, r₄⟩ hk' _
    have off : ∀ b : Addr, (b < s.heap.objs.size ∨ b = C ∨ b = D) → b ∉ [s.heap.objs.size + 4, s.heap.objs.size + 3, s.heap.objs.size, s.heap.objs.size + 1] := fun b hb hm => nd_off hb nC' nD' (by simpa using hm)
    have k' : ∀ b o, s.heap.get? b = some o → h'.get? b = some o := fun b o e => hk' b o (off _ (.inl (Heap.lt_size e))) (k₄ b o e)
    refine ⟨h', tk, m, ys, rfl, n₄.at' fun o e => hk' _ o (off _ (.inr (.inl rfl))) e, k', d₄.at' (fun o e => hk' _ o (off _ (.inr (.inr rfl))) e) fun y hy => ?_, r₄⟩
    obtain ⟨x, hx, e1, e2⟩ := r₄.back y hy
    obtain ⟨p, hp', rfl⟩ := List.mem_map.mp (List.mem_of_mem_take hx)
    have q := keyAt h' k' p.1 (List.of_mem_zip hp').1
    rw [← e1, ← e2]
    exact q
  · rintro i v s₁ hi ⟨Tt, x', y', rfl, hx', hy', hT⟩ st ⟨h₄, tk₄, m, ys, rfl, n₄, k₄, d₄, r₄⟩
    have hxi : xs[i]? = some x' := hx'
    obtain ⟨c, uc, hc, rfl⟩ := hy'
    have hCs : C < h₄.objs.size := by obtain ⟨o, _, _, ho, _⟩ := n₄; exact Heap.lt_size ho
    -- the item
    have hie : i < es.length := by
      have := (Array.getElem?_eq_some_iff.mp hxi).1
      rw [← hits] at this
      simpa [hilen] using this
    obtain ⟨e, he⟩ : ∃ e, es[i]? = some e := ⟨_, List.getElem?_eq_getElem hie⟩
    have hx2 : x' = Value.ref e.2 := by
      have e1 : its[i]? = some x' := by rw [← hits] at hxi; simpa using hxi
      have e2 : (es.map fun e => V.ref e.2)[i]? = some (V.ref e.2) := by rw [List.getElem?_map, he]; rfl
      obtain ⟨u, hu1, hu2⟩ := rv.get e2
      rw [e1] at hu1
      cases hu1
      exact hu2
    subst hx2
    have hcl' : z.cps.toList[i]? = some c := by rw [Array.getElem?_toList]; exact hc
    have hzi : (zipD es z.cps.toList)[i]? = some (e.1, e.2, V.str ⟨#[c]⟩) := by
      unfold zipD
      have ez : (es.zip z.cps.toList)[i]? = some (e, c) := by rw [List.getElem?_zip_eq_some]; exact ⟨he, hcl'⟩
      rw [List.getElem?_map, ez]
      rfl
    refine wpAny_assign_Tuple hh hT rfl rfl fun h₅ hs₅ => ?_
    have up₅ : ∀ b o, h₄.get? b = some o → h₅.get? b = some o := fun b o e => hs₅ b o (Nat.ne_of_lt (Heap.lt_size e)) e
    show wpAny _ _ (assignInOrder [assign (.Name x px) _, assign (.Name y py) _] [_, _]) _ _ _
    refine wpAny_assignInOrder_more (wpAny_assign_Name (wpAny_storeName_local (kinds _ hx) (n₄.at' fun o e => up₅ _ o e) (fun h₆ n₆ s₆ => ?_) hp))
    refine wpAny_assignInOrder_more (wpAny_assign_Name (wpAny_storeName_local (kinds _ hy) n₆ (fun h₇ n₇ s₇ => wpAny_assignInOrder_none ?_) hp))
    refine wpAny_tests_nil ?_
    have up₇ : ∀ b o, b ≠ C → h₄.get? b = some o → h₇.get? b = some o := fun b o hb e => s₇.extBut _ _ hb (s₆.extBut _ _ hb (up₅ b o e))
    have offC : ∀ b : Addr, b < s.heap.objs.size + 5 → b ≠ C := fun b hb => nd_ne hb nC'
    have k₇ : ∀ b o, s.heap.get? b = some o → h₇.get? b = some o := fun b o e => up₇ b o (offC b (h5 _ (Heap.lt_size e))) (k₄ b o e)
    show wpAny _ _ _ _ _ _
    refine wpAny_Name (wpAny_loadName_local hkd (kinds _ hx) n₇ (v := .ref e.2) (by simp [hxy]) ?_) hdx
    refine wpAny_Name (wpAny_loadName_local hkd (kinds _ hy) n₇ (v := .str ⟨#[c]⟩ uc) (by simp) ?_) hdy
    have his7 : ∀ y ∈ ys, (knd T X.prog X.w).is h₇ y.1 y.2.1 := fun y hy => by
      obtain ⟨_, _, _, _, _, _, _, isx, _⟩ := d₄
      obtain ⟨a1, a2⟩ := isx y hy
      refine ⟨NestedIs.at (fun b o vs n eb ed => ?_) _ _ a1, a2⟩
      refine up₇ b o ?_ eb
      rintro rfl
      obtain ⟨oC, es', ep', hoC, hdC, _⟩ := n₄
      rw [hoC] at eb
      cases eb
      rw [hdC] at ed
      cases ed
    have d₇ : h₇.DictOfH (knd T X.prog X.w) D ys := d₄.at' (fun o e => up₇ _ o hDC e) his7
    have hkeyE : (knd T X.prog X.w).is h₇ e.1 e.2 := keyAt h₇ k₇ e (List.mem_of_getElem? he)
    have hyl : ys.length ≤ sizeLine := by
      have l1 := Paired.length r₄
      have l2 : ((zipD es z.cps.toList).take i).length ≤ es.length := by
        rw [List.length_take]; unfold zipD; rw [List.length_map, List.length_zip]; omega
      have : (100000 : Nat) ≤ sizeLine := by decide
      omega
    refine wpAny_dictSet_heap (hsz := hyl) (show (knd T X.prog X.w).room X.A by show X.A.units + 8 < cLine; omega) hkeyE d₇ fun h₈ d₈ s₈ => ?_
    have up₈ : ∀ b o, b ≠ D → h₇.get? b = some o → h₈.get? b = some o := fun b o hb e => (s₈.2 b hb).trans e
    have offD : ∀ b : Addr, b < s.heap.objs.size + 5 → b ≠ D := fun b hb => nd_ne hb nD'
    -- a new key
    have hnew : atKey ys e.1 = none := by
      have hk : e.1 ∉ ys.map (·.1) := by
        rw [r₄.keys, List.map_take, zipD_keys hlen]
        intro hm
        obtain ⟨j, hj, ej⟩ := List.getElem_of_mem hm
        have hji : j < i := by
          have := hj
          rw [List.length_take] at this
          omega
        have e1 : (es.map (·.1))[j]? = some e.1 := by
          rw [List.getElem_take] at ej
          rw [← ej]
          exact List.getElem?_eq_getElem _
        have e2 : (es.map (·.1))[i]? = some e.1 := by rw [List.getElem?_map, he]; rfl
        have hj' : j < (es.map (·.1)).length := (List.getElem?_eq_some_iff.mp e1).1
        have hi' : i < (es.map (·.1)).length := (List.getElem?_eq_some_iff.mp e2).1
        have e3 : (es.map (·.1))[j] = (es.map (·.1))[i] := by
          rw [List.getElem?_eq_getElem hj'] at e1
          rw [List.getElem?_eq_getElem hi'] at e2
          rw [Option.some.inj e1, Option.some.inj e2]
        have e4 : j = i := (List.getElem_inj hnd).mp e3
        omega
      unfold atKey
      rw [List.find?_eq_none.mpr fun p hp q => hk (List.mem_map.mpr ⟨p, hp, of_decide_eq_true q⟩)]
      rfl
    rw [storedH_new hnew] at d₈
    refine ⟨⟨h₈, _, _, _, rfl, n₇.sameBut s₈ (Ne.symm hDC), fun b o e => up₈ b o (offD b (h5 _ (Heap.lt_size e))) (k₇ b o e), d₈, ?_⟩, ?_⟩
    · rw [List.take_add_one, hzi]
      exact Paired.snoc r₄ ⟨rfl, rfl, ⟨uc, rfl⟩⟩
    · have up₉ : ∀ b o, b < s.heap.objs.size + 5 → h₄.get? b = some o → h₈.get? b = some o := fun b o hb e => up₈ b o (offD b hb) (up₇ b o (offC b hb) e)
      obtain ⟨z1, z2, ⟨a1, a2, z3⟩, ⟨z4, z5⟩, z6⟩ := st
      exact ⟨up₉ _ _ (Nat.add_lt_add_left (by decide) _) z1, up₉ _ _ (Nat.add_lt_add_left (by decide) _) z2, ⟨a1, a2, up₉ _ _ (Nat.add_lt_add_left (by decide) _) z3⟩, ⟨z4.at fun o e => up₉ _ o (Nat.lt_add_of_pos_right (by decide)) e, z5.at fun o e => up₉ _ o (h5 _ hlt1) e⟩, let ⟨o6, g6, c6, t6⟩ := z6; ⟨o6, up₉ _ o6 (Nat.add_lt_add_left (by decide) _) g6, c6, t6⟩⟩
  · rintro s₁ ⟨h₄, tk₄, m, ys, rfl, n₄, k₄, d₄, r₄⟩
    refine ⟨m, n₄, fun h' hs' => ?_⟩
    have k' : ∀ b o, s.heap.get? b = some o → h'.get? b = some o := fun b o e => hs'.extBut b o (nd_ne (h5 _ (Heap.lt_size e)) nC') (k₄ b o e)
    have hall : (zipD es z.cps.toList).take (min xs.size z.cps.size) = zipD es z.cps.toList := by
      refine List.take_of_length_le ?_
      unfold zipD
      rw [List.length_map, List.length_zip, ← hits, List.size_toArray, hilen]
      simp
    rw [hall] at r₄
    have hD0 : s.heap.objs.size ≤ D := Nat.le_trans (Nat.le_add_right _ 5) nD'
    obtain ⟨oD, es', ep, hoD, hxD, hdD, heD, _, _⟩ := d₄
    have hoD' : h'.get? D = some oD := hs'.extBut _ oD hDC hoD
    have hfree := I1.hok.fresh hD0
    refine ⟨.ref D, upd H1 D (NDo D oD), I1.laid (t' := tk₄) k' hD0 (NDo.held hoD'), rfl, q D _ hfree (Same.new hfree) ⟨oD, upd_same, zD, ?_, ?_, zipD es z.cps.toList, ys, es', ep, zipD_pairs, r₄, hxD, hdD, heD, fun x hx => ?_⟩⟩
    · rw [List.map_fst_zip (by rw [List.length_map, List.length_map, hlen]; exact Nat.le_refl _)]
      exact hnd
    · rw [List.length_zip, List.length_map]
      omega
    · obtain ⟨p, hp', rfl⟩ := List.mem_map.mp hx
      exact T.up (fun a zs e => by rw [upd_ne (ne_of_none e hfree)]; exact e) (his p.1 (List.of_mem_zip hp').1)
end
end Cp
end
section
namespace Cp
open PySem PySem.Spec PyProof.Rows L2
/-! ### the keys of a dict, walked -/
section
variable {κ : Type} [DecidableEq κ]
def Itn (T : KT κ) (P : Program) (w : World) (d : Addr) (o : Obj) (kvs : List (κ × V)) : It :=
  ⟨fun i H => NTabO T P w H d o kvs ∧ i < kvs.length, fun i H x H' => H' = H ∧ ∃ k v, kvs[i]? = some (k, v) ∧ T.is H x k, fun i H => NTabO T P w H d o kvs ∧ kvs.length ≤ i⟩
theorem paired_at {α β : Type} {F : α → β → Prop} : ∀ {l : List α} {m : List β}, Paired F l m → ∀ {i : Nat} {a : α}, l[i]? = some a → ∃ b, m[i]? = some b ∧ F a b
  | _, _, .nil, _, _, e => by simp at e
  | _, _, .cons r _, 0, _, e => by simp at e; subst e; exact ⟨_, rfl, r⟩
  | _, _, .cons _ t, i + 1, _, e => by
    obtain ⟨b, h1, h2⟩ := paired_at t (i := i) (by simpa using e)
    exact ⟨b, by simpa using h1, h2⟩
theorem NTabO.entry {T : KT κ} {P : Program} {w : World} {H : Hp} {d : Addr} {o : Obj} {kvs : List (κ × V)} (h : NTabO T P w H d o kvs) {es : Array DictEntry} {ep : Nat} (hd : o.data = .dict es ep) :
    es.size = kvs.length ∧ ∀ (i : Nat) (k : κ) (v : V), kvs[i]? = some (k, v) → ∃ (en : DictEntry) (q : Addr), es[i]? = some en ∧ en.key = .ref q ∧ T.is H (.ref q) k := by
  obtain ⟨xs, ys, es', ep', e, r, hx, hdt, he, his⟩ := h.ex
  obtain ⟨rfl, rfl⟩ := L2.dict_ep hd hdt
  refine ⟨?_, fun i k v hi => ?_⟩
  · have l1 : es'.size = ys.length := size_of_entries he
    rw [l1, ← Paired.length r, ← e, List.length_map]
  · rw [← e, List.getElem?_map] at hi
    cases q : xs[i]? with
    | none => rw [q] at hi; cases hi
    | some x =>
      rw [q] at hi
      have e1 : (x.1, x.2.2) = (k, v) := Option.some.inj hi
      obtain ⟨y, hy, f1, f2, _⟩ := paired_at r q
      have qe := entry_at he i
      rw [hy] at qe
      refine ⟨_, y.2.1, qe, rfl, ?_⟩
      have ek : x.1 = k := congrArg Prod.fst e1
      rw [← f2, ← ek]
      exact his x (List.mem_of_getElem? q)
theorem turn_nkeys (T : KT κ) {P : Program} {w : World} {K : PySem.W.Frag} {tg : Expr} {d : Addr} {o : Obj} {es : Array DictEntry} {ep : Nat} {kvs : List (κ × V)} (it : Addr) (hod : o.data = .dict es ep) :
    Turn P w K tg (Itn T P w d o kvs) [it] it (fun i h => h.IsKeyIter it d i kvs.length ep) where
  mem := by simp
  obj := fun i h st b hb => by
    have e : b = it := by simpa using hb
    subst e
    obtain ⟨oi, e, c, dd⟩ := st
    exact ⟨oi, e, fun v z => by rw [dd] at z; cases z⟩
  keep := fun i h h' st k => st.at fun oi e => k it (by simp) oi e
  item := by
    intro X hP hw hK hc i pins s σ H E I hf st hg
    subst hP hw hK
    obtain ⟨tb, hi⟩ := hg
    obtain ⟨f0, f1, f2, f3, f4, f5⟩ := hf it (by simp)
    have ho : s.heap.get? d = some o := (I.hok d _ tb.at_).1
    obtain ⟨hsz, ent⟩ := tb.entry hod
    obtain ⟨⟨k, v⟩, hkv⟩ : ∃ p, kvs[i]? = some p := ⟨kvs[i], List.getElem?_eq_getElem hi⟩
    obtain ⟨en, q, hen, hkey, hq⟩ := ent i k v hkv
    refine next_key_item st ho hod hsz hen fun h' st' sb => ?_
    have I1 : Inv X pins σ H { s with heap := h' } := I.turned (t' := s.toks) (fun b ob hb e => (sb.2 b hb).trans e) f0 f1 f3 f4 f5
    obtain ⟨oi, e, c, dd⟩ := id st'
    exact ⟨en.key, rfl, go_of (s := { s with heap := h' }) e c dd (by decide) ⟨.ref q, H, I1, hkey, ⟨rfl, k, v, hkv, hq⟩, st', fun b hb => (hf b hb).1⟩⟩
  done := by
    intro X hP hw hK hc i pins s σ H E I hf st hg
    subst hP hw hK
    obtain ⟨tb, hi⟩ := hg
    obtain ⟨f0, f1, f2, f3, f4, f5⟩ := hf it (by simp)
    have ho : s.heap.get? d = some o := (I.hok d _ tb.at_).1
    exact next_key_end (I.ok.hd hc) st ho hod (tb.entry hod).1 hi fun h' eb => ⟨rfl, I.turned (t' := s.toks) (fun b ob hb e => eb b ob hb e) f0 f1 f3 f4 f5⟩
  self := fun A i s Q E st h => by
    refine wpAny_pyIter_slot st.typeIs F.slot_dict_keyiterator_iter (wpAny_call_entry F.slot_dict_keyiterator_iter st.typeIs F.entry_dict_keyiterator_iter ?_ (F.args_dict_keyiterator_iter_1 _))
    show wpAny _ _ (ret (.ref it)) _ _ s
    exact wpAny_pure ⟨_, rfl, "dict_keyiterator", _, st.typeIs, F.slot_dict_keyiterator_next.lookup, h⟩
def iNKeys (T : KT κ) (P : Program) (w : World) (td : TE) : TI := fun σ H R => td σ H fun x H1 => ∃ d o kvs, x = .ref d ∧ NTabO T P w H1 d o kvs ∧ R (Itn T P w d o kvs) H1
theorem pi_nkeys (T : KT κ) {X : Cx} {tg e : Expr} {td : TE} (he : PE X e td) : PI X tg e (iNKeys T X.prog X.w td) := by
  refine ⟨fun pins s σ H R I h => ?_⟩
  refine thn (he.run pins s σ H _ I h) fun u s1 ⟨x, H1, I1, rx, d, o, kvs, ex, tb, q⟩ => ?_
  subst ex
  obtain rfl : u = Value.ref d := rx
  have ho : s1.heap.get? d = some o := (I1.hok d _ tb.at_).1
  obtain ⟨xs, ys, es, ep, e, r, hx, hdt, he', his⟩ := id tb.ex
  refine iter_keys tb.low ho hx hdt (pi_one (tk := s1.toks) I1 _ (turn_nkeys T _ hdt) ⟨_, Heap.get?_push_size _ rfl, rfl, ?_⟩ q)
  rw [(tb.entry hdt).1] <;> rfl
/-- for k in d -/
theorem for_nkeys {T : KT κ} {P : Program} {w : World} {d : Addr} {o : Obj} {kvs : List (κ × V)} {g : TG} {tb : TS} {D : Ends} {σ : L2.St} {H : Hp} (Pv : Nat → L2.St → Hp → Prop) (h0 : Pv 0 σ H) (hl : ∀ i σ H, i ≤ kvs.length → Pv i σ H → NTabO T P w H d o kvs)
    (hs : ∀ (i : Nat) (k : κ) (v : V) x σ H, kvs[i]? = some (k, v) → T.is H x k → Pv i σ H → g x σ H fun σ2 H2 => tb { D with nx := Pv (i + 1), ct := Pv (i + 1), bk := D.nx } σ2 H2) (hd : ∀ σ H, Pv kvs.length σ H → D.nx σ H) :
    ∃ W : Nat → Nat → L2.St → Hp → Prop, (∃ m, W 0 m σ H) ∧ ∀ i m σ H, W i m σ H →
      ((Itn T P w d o kvs).stop i H ∧ D.nx σ H) ∨ ((Itn T P w d o kvs).go i H ∧ ∃ N : L2.St → Hp → Prop, (∀ σ' H', N σ' H' → ∃ m', m' < m ∧ W (i + 1) m' σ' H') ∧ ∀ x H', (Itn T P w d o kvs).yld i H x H' → g x σ H' fun σ2 H2 => tb { D with nx := N, ct := N, bk := D.nx } σ2 H2) := by
  refine ⟨fun i m σ H => m = kvs.length - i ∧ i ≤ kvs.length ∧ Pv i σ H, ⟨kvs.length, by simp, Nat.zero_le _, h0⟩, ?_⟩
  rintro i m σ H ⟨rfl, hi, p⟩
  have q := hl i σ H hi p
  by_cases hlt : i < kvs.length
  · refine .inr ⟨⟨q, hlt⟩, Pv (i + 1), fun σ' H' p' => ⟨kvs.length - (i + 1), by omega, rfl, hlt, p'⟩, fun x H' y => ?_⟩
    obtain ⟨e, k, v, hkv, hk⟩ := y
    subst e
    exact hs i k v x σ _ hkv hk p
  · have e : i = kvs.length := by omega
    subst e
    exact .inl ⟨⟨q, Nat.le_refl _⟩, hd σ H p⟩
end

/-! ### sorted(xs) of data -/
theorem each_of_paired {α β γ : Type} {R : α → β → Prop} {S : α → γ → Prop} : ∀ {xs : List α} {us : List β} {bs : List γ}, Paired R xs us → Paired S xs bs → PySem.W.EachIs (fun u b => ∃ x, R x u ∧ S x b) us bs
  | _, _, _, .nil, .nil => .nil
  | _, _, _, .cons r rs, .cons q qs => .cons ⟨_, r, q⟩ (each_of_paired rs qs)
theorem paired_of_each {α β γ : Type} {R : α → β → Prop} {S : α → γ → Prop} : ∀ {us : List β} {bs : List γ}, PySem.W.EachIs (fun u b => ∃ x, R x u ∧ S x b) us bs → ∃ xs, Paired R xs us ∧ Paired S xs bs
  | _, _, .nil => ⟨[], .nil, .nil⟩
  | _, _, .cons ⟨x, r, q⟩ t => by
    obtain ⟨xs, h1, h2⟩ := paired_of_each t
    exact ⟨x :: xs, .cons r h1, .cons q h2⟩
theorem each_mono {α β : Type} {R S : α → β → Prop} (h : ∀ a b, R a b → S a b) : ∀ {us : List α} {bs : List β}, PySem.W.EachIs R us bs → PySem.W.EachIs S us bs
  | _, _, .nil => .nil
  | _, _, .cons r t => .cons (h _ _ r) (each_mono h t)
def rSortedD {β : Type} (K : PySem.W.Frag) (enc : β → PyData) : List V → Hp → VK → Prop := fun vs H Q => ∃ (a : Addr) (xs : List V) (bs : List β) (Rr : V → β → Prop), vs = [.ref a] ∧ SqL K H a xs ∧ Paired Rr xs bs ∧ (∀ v b, Rr v b → Dp K H v (enc b)) ∧ bs.length ≤ 100000 ∧
  ∀ ys p H1, H p = none → Same H H1 → H1 p = some (.lst ys) → Paired Rr ys (bs.mergeSort (PySem.W.dataLe false enc)) → Q (.ref p) H1
section
variable {X : Cx}
theorem cr_sortedD {β : Type} (enc : β → PyData) (hu : X.A.units + 64 < cLine) (hal : ∀ b b', PySem.W.alike (enc b) (enc b') = true) (hk : ∀ b, ∃ x r, enc b = .tuple (x :: r)) (hdp : ∀ b, (enc b).depth ≤ 8) : CallR X (.builtin "sorted") (rSortedD X.K enc) := by
  intro pins s σ H vs us Q I r h
  obtain ⟨a, xs, bs, Rr, rfl, hs, hp, hr, hl, q⟩ := h
  obtain ⟨u, rfl, ru⟩ := r.one
  obtain rfl : u = Value.ref a := ru
  obtain ⟨its, rv, pl, hz⟩ := I.list hs
  have e1 := each_of_paired rv hp
  have h100 : (100000 : Nat) ≤ sizeLine := by decide
  refine PySem.W.sorted_data (enc := enc) pl.isList e1 (each_mono (fun u b ⟨x, r1, r2⟩ => Dp.reads I _ x u (hr x b r2) r1) e1) (PySem.W.AllAlike.of hal) (PySem.W.Sortable.tuples hk) (by omega) (fun b _ => by have := hdp b; omega) fun out ho eo => ?_
  obtain ⟨ys, h1, h2⟩ := paired_of_each eo
  obtain ⟨c, hc⟩ := sortedAll_at s.heap its out.toArray
  have hfree := I.hok.fresh (Nat.le_succ s.heap.objs.size)
  have hlen : ys.length ≤ sizeLine := by
    have := Paired.length h1
    omega
  refine ⟨.ref _, upd H (s.heap.objs.size + 1) (.lst ys), I.laid (t' := s.toks) (fun _ _ => sortedAll_old) (Nat.le_succ _) ⟨hlen, out, c, h1, hc⟩, rfl, q ys _ _ hfree (Same.new hfree) upd_same h2⟩
/-- sorted(d): the keys, in some order -/
def rSortedN {κ : Type} [DecidableEq κ] (T : KT κ) (P : Program) (w : World) : List V → Hp → VK → Prop := fun vs H Q => ∃ (d : Addr) (kvs : List (κ × V)), vs = [.ref d] ∧ NTab T P w H d kvs ∧
  ∀ ys ks p H1, H p = none → Same H H1 → H1 p = some (.lst ys) → Paired (T.is H) ys ks → ks.Perm (kvs.map (·.1)) → Q (.ref p) H1
theorem cr_sortedN {κ : Type} [DecidableEq κ] (T : KT κ) (hc : X.calm = true) (enc : κ → PyData) (hu : X.A.units + 64 < cLine) (hal : ∀ b b', PySem.W.alike (enc b) (enc b') = true) (hk : ∀ b, ∃ x r, enc b = .tuple (x :: r)) (hdp : ∀ b, (enc b).depth ≤ 8)
    (hrd : ∀ {H : Hp} {h : Heap} {v : V} {k : κ} {u : Value}, HOk X.prog X.w H h → T.is H v k → RelV v u → Reads h u (enc k) []) : CallR X (.builtin "sorted") (rSortedN T X.prog X.w) := by
  intro pins s σ H vs us Q I r h
  obtain ⟨d, kvs, rfl, ⟨o, tb⟩, q⟩ := h
  obtain ⟨u, rfl, ru⟩ := r.one
  obtain rfl : u = Value.ref d := ru
  have h100 : (100000 : Nat) ≤ sizeLine := by decide
  have ho : s.heap.get? d = some o := (I.hok d _ tb.at_).1
  obtain ⟨xs, ys, es, ep, e, r0, hx, hdt, he', his⟩ := id tb.ex
  obtain ⟨hsz, ent⟩ := tb.entry hdt
  refine Calls.call_function_entry PyProof.Rows.kind_sorted PyProof.Rows.plain_sorted PyProof.Rows.entry_sorted (PyProof.Rows.args_sorted1 _) ?_
  unfold Builtin.«sorted»
  refine wpAny_bind (m := checkCount "sorted" 1 1 _) (wpAny_pure ?_)
  refine wpAny_bind (PySem.W.kdu_collect (A := X.A.in1) (KdlSrc.rawDict (es := es) (ep := ep) tb.low) (I.ok.hd hc) ⟨o, ho, hx, hdt⟩ (by have := tb.le; omega) fun h' tk acc hkp hacc => ?_)
  have hacl : acc.toList.length = kvs.length := by rw [Array.length_toList, hacc.1, hsz]
  have I1 : Inv X pins σ H { s with heap := h', toks := tk } := I.kept hkp
  -- the keys as values
  have eR : PySem.W.EachIs (fun u k => ∃ x, RelV x u ∧ T.is H x k) acc.toList (kvs.map (·.1)) := by
    have : ∀ (l : List Value) (m : List κ), l.length = m.length → (∀ (i : Nat) (u : Value) (k : κ), l[i]? = some u → m[i]? = some k → ∃ x, RelV x u ∧ T.is H x k) → PySem.W.EachIs (fun u k => ∃ x, RelV x u ∧ T.is H x k) l m := by
      intro l
      induction l with
      | nil =>
        intro m hl _
        cases m with
        | nil => exact .nil
        | cons _ _ => simp at hl
      | cons u l ih =>
        intro m hl hh
        cases m with
        | nil => simp at hl
        | cons k m =>
          exact .cons (hh 0 u k rfl rfl) (ih m (by simpa using hl) fun i u k a b => hh (i + 1) u k (by simpa using a) (by simpa using b))
    refine this _ _ (by rw [hacl, List.length_map]) fun i u k a b => ?_
    rw [List.getElem?_map] at b
    cases qv : kvs[i]? with
    | none => rw [qv] at b; cases b
    | some p =>
      rw [qv] at b
      have ep1 : p.1 = k := Option.some.inj b
      obtain ⟨en, qa, hen, hkey, hq⟩ := ent i p.1 p.2 qv
      obtain ⟨hi, hv⟩ := hacc.2 i u (by rw [← Array.getElem?_toList]; exact a)
      rw [Array.getElem?_eq_getElem hi] at hen
      have e2 : es[i] = en := Option.some.inj hen
      refine ⟨.ref qa, ?_, ep1 ▸ hq⟩
      rw [hv, e2, hkey]
      all_goals rfl
  refine wpAny_bind (wpAny_newList ?_ (by have := tb.le; omega))
  have hoL : (h'.push (seqObj "list" acc.toList.toArray 0)).get? h'.objs.size = some (seqObj "list" acc.toList.toArray 0) := Heap.get?_push_size _ rfl
  have I2 : Inv X pins σ H { s with heap := h'.push (seqObj "list" acc.toList.toArray 0), toks := tk } := I1.kept (t' := tk) fun b o e => Heap.get?_push_of_some _ e
  show wpAny _ _ _ _ _ { s with heap := h'.push (seqObj "list" acc.toList.toArray 0), toks := tk }
  refine wpAny_bind (wpAny_holding (PySem.W.list_sort_data (enc := enc) (s := { s with heap := h'.push (seqObj "list" acc.toList.toArray 0), toks := tk }) hoL eR (each_mono (fun u k ⟨x, r1, r2⟩ => ⟨[], PyProof.Rows.Reads.keeps (fun b o e => Heap.get?_push_of_some _ e) (hrd I1.hok r2 r1), by simp⟩) eR) (PySem.W.AllAlike.of hal) (PySem.W.Sortable.tuples hk) (by rw [List.length_map]; have := tb.le; omega)
    (fun b _ => by have := hdp b; show X.A.units + 1 + 1 + (enc b).depth < cLine; omega) fun out hlo eo => ?_))
  · obtain ⟨zs, h1, h2⟩ := paired_of_each eo
    obtain ⟨c, hc'⟩ := sortedHeap_at (vs := acc.toList) (out := out.toArray) hoL
    have hfree : H h'.objs.size = none := I1.hok.fresh (Nat.le_refl _)
    have hlen : zs.length ≤ sizeLine := by
      have := Paired.length h1
      have := tb.le
      rw [List.length_map] at hlo
      omega
    refine wpAny_pure ⟨_, rfl, .ref h'.objs.size, upd H h'.objs.size (.lst zs), I1.laid (t' := tk) (fun b o e => ?_) (Nat.le_refl _) ⟨hlen, out, c, h1, hc'⟩, rfl, q zs _ _ _ hfree (Same.new hfree) upd_same h2 ?_⟩
    · have hb : b ≠ h'.objs.size := Nat.ne_of_lt (Heap.lt_size e)
      exact (sortedHeap_old hb (Heap.lt_size (Heap.get?_push_of_some _ e))).trans (Heap.get?_push_of_some _ e)
    · exact List.mergeSort_perm _ _
end
/-! ### corners as data -/
def eP (c : Pt) : PyData := .tuple [.int c.1, .int c.2]
theorem Cn.reads {P : Program} {w : World} {H : Hp} {h : Heap} {v : V} {c : Pt} {u : Value} (ok : HOk P w H h) (q : Cn H v c) (r : RelV v u) : Reads h u (eP c) [] := by
  obtain ⟨t, rfl, ht⟩ := q
  obtain rfl : u = Value.ref t := r
  obtain ⟨_, its, r, o, ho, hc, n, hd⟩ := ok t _ ht
  obtain ⟨u1, u2, rfl, r1, r2⟩ := vals2 r
  obtain ⟨t1, rfl⟩ := r1
  obtain ⟨t2, rfl⟩ := r2
  exact .tuple ho hc hd (.cons (.int _ _) (.cons (.int _ _) .nil))
theorem Cn.dp {K : PySem.W.Frag} {H : Hp} {v : V} {c : Pt} (q : Cn H v c) : Dp K H v (eP c) := by
  obtain ⟨t, rfl, ht⟩ := q
  exact .tup (SqT.of ht) (.cons (.int _) (.cons (.int _) .nil))
end Cp
end
section
namespace Cp
open PySem PySem.Spec PyProof.Rows L2
/-! ### a lambda with parameters, called -/
theorem lam_run {P : Program} {w : World} {K : PySem.W.Frag} {mg : Str → Option Value} {base : Heap} {k : Nat} {f c' : Addr} {params : Arguments} {body : Expr} {scope : Scope} {pm ctv : Value} {q : Str} {N ps : List Str} (S : FnScope N ps scope)
    {A : Around} {outer : List Env} {s : Shared} {H : Hp} {us : List Value} {vs : List V} {Q : VK} {E : XK} (ho : s.heap.get? f = some (PySem.W.kla_obj "<lambda>" q params body scope [] pm c' ctv)) (hc : H c' = some (LamX.CodeO c' q)) (hr : Room (k + 1) A) (e0 : Env0 P w K mg base A outer s H)
    (hb : bindArgs (PySem.W.kla_fn "<lambda>" q params body scope [] pm (.ref c') ctv) ⟨us, []⟩ = pure (ps.zip us)) (r : Vals vs us) (hl : vs.length = ps.length)
    (hbody : ∃ t, PE (cxOf CX0 P w K mg base N q scope f (.ref c') A outer s H E) body t ∧ t (start N vs) H Q) :
    codeAny (model P w) A (.call (.ref f) ⟨us, []⟩) (CR CX0 outer P w H s Q E) s := by
  have lim : s.heap.NoLimit := e0.mod.nolimit.keeps fun b o e => (e0.bs b o e).1
  obtain ⟨⟨oc, vs', t, hoc, hdc, hvc⟩, _, _⟩ := e0.hok c' _ hc
  have hkind : ∀ y ∈ ps.zip us, scope.names.lookup y.1 = some .local ∨ (scope.names.lookup y.1 = some .cell ∧ ((cellsFrom (s.heap.objs.size + 1) scope.names []).lookup y.1).isSome = true) := fun ⟨n, v⟩ hy => by
    rcases S.par n (List.of_mem_zip hy).1 with q | q
    · exact .inl q
    · exact .inr ⟨q, PySem.W.cellsFrom_some _ _ _ (.inl q)⟩
  refine PySem.W.kla_callFunE hr.depth ho rfl S.co S.gen rfl ⟨c', oc, vs', t, rfl, hoc, hdc, hvc⟩ ?_
  rw [hb]
  refine wpAny_pure (wpAny_newFunctionEnv_cells S.kind hkind fun env he s1 x => ?_)
  subst he
  refine ⟨lim.keeps x.toInCall.keep, PySem.W.kla_codeExpr ?_⟩
  obtain ⟨t, ht, hq⟩ := hbody
  have I : Inv (cxOf CX0 P w K mg base N q scope f (.ref c') A outer s H E) [] (start N vs) H s1 := inv_start S hr.hd e0 hl r x
  refine wpAny_mono (ht.run [] s1 _ H _ I hq) (fun v s' hs => ?_) fun e s' hs => hs
  obtain ⟨v, H', J, rv, q⟩ := hs
  exact ⟨v, H', J.os, J.bare, J.base, J.hok, rv, q⟩

/-! ### sorted(pairs, key=..) where the key is (steps, pair) -/
def stp (b : Pq) : Int := ((b.1.1 - b.2.1).natAbs : Int) + ((b.1.2 - b.2.2).natAbs : Int)
def ePq (b : Pq) : PyData := .tuple [eP b.1, eP b.2]
def encS (b : Pq) : PyData := .tuple [.int (stp b), ePq b]
theorem Pr.reads {P : Program} {w : World} {H : Hp} {h : Heap} {v : V} {c : Pq} {u : Value} (ok : HOk P w H h) (q : Pr H v c) (r : RelV v u) : Reads h u (ePq c) [] := by
  obtain ⟨t, v1, v2, rfl, ht, h1, h2⟩ := q
  obtain rfl : u = Value.ref t := r
  obtain ⟨_, its, r, o, ho, hc, n, hd⟩ := ok t _ ht
  obtain ⟨u1, u2, rfl, r1, r2⟩ := vals2 r
  exact .tuple ho hc hd (.cons (h1.reads ok r1) (.cons (h2.reads ok r2) .nil))
theorem encS_reads {P : Program} {w : World} {H : Hp} {h : Heap} {v : V} {t : Addr} {c : Pq} (ok : HOk P w H h) (q : Pr H v c) (ht : H t = some (.tup [.int (stp c), v])) : Reads h (.ref t) (encS c) [] := by
  obtain ⟨_, its, r, o, ho, hc, n, hd⟩ := ok t _ ht
  obtain ⟨u1, u2, rfl, r1, r2⟩ := vals2 r
  obtain ⟨t1, rfl⟩ := r1
  exact .tuple ho hc hd (.cons (.int _ _) (.cons (q.reads ok r2) .nil))
theorem encS_alike (b b' : Pq) : PySem.W.alike (encS b) (encS b') = true := by simp [encS, ePq, eP, PySem.W.alike, PySem.W.alikeAll]
theorem encS_depth (b : Pq) : (encS b).depth ≤ 8 := by simp [encS, ePq, eP, PyData.depth, PyData.depthAll]
def KeyR (H : Hp) (u : Value) (b : Pq) : Prop := ∃ t v, u = .ref t ∧ Pr H v b ∧ H t = some (.tup [.int (stp b), v])
theorem KeyR.up {H H' : Hp} {u : Value} {b : Pq} (k : KeyR H u b) (s : Same H H') : KeyR H' u b := by
  obtain ⟨t, v, e, p, ht⟩ := k
  exact ⟨t, v, e, p.up s, s _ _ ht⟩
section
variable {X : Cx} {pins : List (Addr × Obj)} {σ : L2.St} {H : Hp} {s : Shared}
/-- an untracked object of ours is tracked from now on -/
theorem Inv.adopt {t' : Nat} {ch : List Addr} {T : Addr} {ob : HO} {h' : Heap} (I : L2.Inv X pins σ H s) (k : ∀ b o, b ∉ ch → s.heap.get? b = some o → h'.get? b = some o) (hf : ∀ b ∈ ch, FpOk X pins H b) (hT : T ∈ ch)
    (new : ObjOk X.prog X.w (upd H T ob) h' T ob) : L2.Inv X pins σ (upd H T ob) { s with heap := h', toks := t' } := by
  have hn : H T = none := (hf T hT).1
  have nit : ∀ b u, H b = some u → b ∉ ch := fun b u e z => by
    have q := (hf b z).1
    rw [q] at e; cases e
  refine I.step (g' := s.gens) (d' := s.drawn) (ch := ch) (fun b hb => ⟨(hf b hb).2.2.2.1, (hf b hb).2.1, (hf b hb).2.2.2.2.1, (hf b hb).2.2.2.2.2⟩) (fun b o _ _ hc e _ => k b o hc e) (fun b o _ _ hc e _ => ⟨o.slots, k b o hc e⟩)
    (fun b o hb e n => ?_) (fun b o hc e => ⟨o, k b o hc e⟩) (fun b xs e => ?_) (fun b o u e => ?_) (fun b ps e => ⟨#[], ?_⟩) (fun m hm => ?_) (fun b u e => ?_) I.bare
  · rw [upd_ne (fun z => hb (by rw [z]; exact hT))]; exact n
  · rw [upd_ne (ne_of_none e hn)]; exact e
  · rw [upd_ne (ne_of_none e hn)]; exact e
  · rw [upd_ne (ne_of_none e hn), e]; simp
  · obtain ⟨o, es, ep, ho, r⟩ := hm
    exact ⟨o, es, ep, k _ o (fun z => (hf _ z).2.1 rfl) ho, r⟩
  · by_cases hb : b = T
    · subst hb
      rw [upd_same] at e
      cases e
      exact new
    · rw [upd_ne hb] at e
      refine (I.hok b u e).stay (fun c v hc q => k c v ?_ q) (fun c q => by rw [upd_ne (ne_of_none q hn)]; exact q) fun c xs q => by rw [upd_ne (ne_of_none q hn)]; exact q
      rcases hc with z | z
      · rw [z]; exact nit b u e
      · exact nit c _ z
theorem fp_to {H' : Hp} {b : Addr} (f : FpOk X pins H b) (h : H' b = none) : FpOk X pins H' b := ⟨h, f.2⟩
theorem fp_st (I : L2.Inv X pins σ H s) {b : Addr} (f : FpOk X pins H b) : b ∉ frs X.stack := fun z => by
  rcases List.mem_cons.mp (I.stkSub _ z) with e | e
  · exact f.2.1 e
  · exact f.2.2.1 e
/-- what stands behind a turn of the key -/
def KeyT (X : Cx) (pins : List (Addr × Obj)) (σ : L2.St) (v : V) (b : Pq) (H' : Hp) (s' : Shared) (r : Value) (s2 : Shared) : Prop :=
  ∃ t H2, r = .ref t ∧ L2.Inv X pins σ H2 s2 ∧ Same H' H2 ∧ H2 t = some (.tup [.int (stp b), v]) ∧ ∀ a o, s'.heap.get? a = some o → H' a = none → a ∉ frs X.stack → s2.heap.get? a = some o ∧ H2 a = none
theorem sortLam_run {l f : Addr} {xs : List V} {bs : List Pq} {Q : VK} {E : Value → Shared → Prop} (I : L2.Inv X pins σ H s) (hs : SqL X.K H l xs) (hp : Paired (Pr H) xs bs) (hl : bs.length ≤ 100000) (hu : X.A.units + 64 < cLine)
    (turn : ∀ (s' : Shared) (H' : Hp) (v : V) (u : Value) (b : Pq), L2.Inv X pins σ H' s' → Same H H' → (∀ a o, s.heap.get? a = some o → H a = none → a ∉ frs X.stack → s'.heap.get? a = some o) → RelV v u → Pr H' v b → wpAny (model X.prog X.w) X.A.in1.in1 (call (.ref f) [u]) (KeyT X pins σ v b H' s') (fun _ _ => False) s')
    (q : ∀ ys p H2, H p = none → Same H H2 → H2 p = some (.lst ys) → Paired (Pr H) ys (bs.mergeSort (PySem.W.dataLe false encS)) → Q (.ref p) H2) :
    wpAny (model X.prog X.w) X.A (call (.builtin "sorted") [.ref l] [(Str.ofString "key", .ref f)]) (EP X pins σ Q) E s := by
  obtain ⟨its, rv, pl, hz⟩ := I.list hs
  have h100 : (100000 : Nat) ≤ sizeLine := by decide
  have el : its.length = bs.length := by rw [← rv.length]; exact Paired.length hp
  have e1 : PySem.W.EachIs (fun u b => ∃ x, RelV x u ∧ Pr H x b) its bs := each_of_paired rv hp
  refine PySem.W.sorted_of_sort pl.isList (by omega) (PyProof.Rows.ksk_s1 _ _) (fun _ => PyProof.Rows.ksk_l1 _ _) fun E' => ?_
  rw [PyProof.Rows.ksk_t1]
  have fa : FpOk X pins H (s.heap.objs.size + 1) := I.fpOk (Nat.le_succ _) (I.hok.fresh (Nat.le_succ _))
  have I1 : L2.Inv X pins σ H { s with heap := PySem.W.copyHeap s.heap its } := I.kept (t' := s.toks) fun b o e => PySem.W.copyHeap_old e
  have ho := PySem.W.copyHeap_at s.heap its
  generalize hA : s.heap.objs.size + 1 = a at *
  have hsl : s.heap.objs.size < a := by rw [← hA]; exact Nat.lt_succ_self _
  have keep1 : ∀ b o, s.heap.get? b = some o → (PySem.W.copyHeap s.heap its).get? b = some o := fun b o e => PySem.W.copyHeap_old e
  generalize hC : PySem.W.copyHeap s.heap its = hc at *
  have ha : a < hc.objs.size := Heap.lt_size ho
  obtain ⟨ep1, ho1⟩ : ∃ e1, (hc.update a (Obj.mapSeq fun _ => (#[] : Array Value))).get? a = some (seqObj "list" #[] e1) := ⟨_, get?_update_seq ho fun _ => #[]⟩
  unfold PyProof.Rows.ksk_tree
  refine wpAny_bind (listItems_at ho rfl ?_)
  refine wpAny_bind (listUpdate_at ho rfl ?_ (by rw [List.size_toArray]; omega) (Nat.zero_le _))
  refine wpAny_bind (seqEpoch_at ho1 rfl ?_)
  refine wpAny_bind (wpAny_newTuple ?_ (by show its.length ≤ _; omega))
  refine wpAny_bind (wpAny_newList ?_ (Nat.zero_le _))
  refine wpAny_holding ?_
  have hkS : ((hc.update a (Obj.mapSeq fun _ => (#[] : Array Value))).push (seqObj "tuple" its.toArray 0)).objs.size = hc.objs.size + 1 := by rw [size_push', Heap.size_update]
  have fk : FpOk X pins H (hc.objs.size + 1) := I1.fpOk (Nat.le_succ _) (I1.hok.fresh (Nat.le_succ _))
  have I2 : L2.Inv X pins σ H { s with heap := PySem.W.sortingHeap hc a its } := I1.turned (t' := s.toks) (fun b o hb e => PySem.W.sortingHeap_old hb e) fa.1 fa.2.1 fa.2.2.2.1 fa.2.2.2.2.1 fa.2.2.2.2.2
  have na : (PySem.W.sortingHeap hc a its).get? a = some (seqObj "list" #[] ep1) := Heap.get?_push_of_some _ (Heap.get?_push_of_some _ ho1)
  have nk : (PySem.W.sortingHeap hc a its).get? (hc.objs.size + 1) = some (seqObj "list" #[] 0) := by rw [← hkS]; exact Heap.get?_push_size _ rfl
  have hka : hc.objs.size + 1 ≠ a := Nat.ne_of_gt (Nat.lt_succ_of_lt ha)
  have keep2 : ∀ b o, s.heap.get? b = some o → (PySem.W.sortingHeap hc a its).get? b = some o := fun b o e => PySem.W.sortingHeap_old (fun z => by
    have h1 := Heap.lt_size e
    rw [z] at h1
    exact Nat.lt_asymm h1 hsl) (keep1 b o e)
  have hsk : s.heap.objs.size ≤ hc.objs.size + 1 := Nat.le_of_lt (Nat.lt_succ_of_lt (Nat.lt_trans hsl ha))
  rw [hkS]
  show wpAny _ _ (PyProof.Rows.ksk_rest a (.ref f) false its.toArray ep1 (.ref (hc.objs.size + 1))) _ _ { s with heap := PySem.W.sortingHeap hc a its, toks := _ }
  generalize hc.objs.size + 1 = kS at *
  generalize PySem.W.sortingHeap hc a its = h0 at *
  clear ho ho1 I1 keep1 hC hkS ha
  unfold PyProof.Rows.ksk_rest
  refine wpAny_bind (wpAny_rule ?_)
  first
    | rw [List.forIn_toArray]
    | (rw [← Array.forIn_toList]; simp only [List.toList_toArray])
    | rw [← Array.forIn_toList]
  refine wpAny_bind (PyProof.Rows.ksk_fold (fun i s' => ∃ H' kA e, L2.Inv X pins σ H' s' ∧ Same H H' ∧ (∀ a o, s.heap.get? a = some o → H a = none → a ∉ frs X.stack → s'.heap.get? a = some o ∧ H' a = none) ∧ H' kS = none ∧ H' a = none ∧ s'.heap.get? kS = some (seqObj "list" kA e) ∧ s'.heap.get? a = some (seqObj "list" #[] ep1) ∧
      PySem.W.EachIs (KeyR H') kA.toList (bs.take i)) its 0 _
    ⟨H, #[], 0, I2.tok _, Same.refl _, fun b o e f _ => ⟨keep2 b o e, f⟩, fk.1, fa.1, nk, na, by rw [List.take_zero]; exact .nil⟩ ?step ?done)
  case step =>
    rintro j x s' hx ⟨H', kA, e, J, sm, kp, nk0, na0, nk', na', hk⟩
    simp only [Nat.zero_add] at hk ⊢
    have hj : j < its.length := (List.getElem?_eq_some_iff.mp hx).1
    obtain ⟨b, hbj⟩ : ∃ b, bs[j]? = some b := ⟨_, List.getElem?_eq_getElem (by omega)⟩
    have hzip : (x, b) ∈ its.zip bs := List.mem_of_getElem? (i := j) (by rw [List.getElem?_zip_eq_some]; exact ⟨hx, hbj⟩)
    obtain ⟨v, rvx, prv⟩ := e1.zip _ hzip
    have prv' : Pr H' v b := prv.up sm
    have hz' : kA.size ≤ its.length := by
      have h1 := hk.length
      rw [Array.length_toList, List.length_take] at h1
      omega
    refine wpAny_bind (wpAny_attempt (wpAny_mono (turn s' H' v x b J sm (fun a o e f g => (kp a o e f g).1) rvx prv') (fun r s'' he => ?_) fun _ _ hF => hF.elim))
    obtain ⟨t, H2, rfl, J2, sm2, ht, kp2⟩ := he
    have prv2 : Pr H2 v b := prv'.up sm2
    have fk' : FpOk X pins H' kS := fp_to fk nk0
    have fa' : FpOk X pins H' a := fp_to fa na0
    obtain ⟨nk2, nk2'⟩ := kp2 _ _ nk' nk0 (fp_st I fk)
    obtain ⟨na2, na2'⟩ := kp2 _ _ na' na0 (fp_st I fa)
    have s1 := Heap.SameBut.update s''.heap kS (Obj.mapSeq (·.push (.ref t)))
    obtain ⟨c2, hc2⟩ : ∃ c2, (s''.heap.update kS (Obj.mapSeq (·.push (.ref t)))).get? kS = some (seqObj "list" (kA.push (.ref t)) c2) := ⟨_, get?_update_seq nk2 (·.push (.ref t))⟩
    have ek : bs.take (j + 1) = bs.take j ++ [b] := by rw [List.take_add_one, hbj]; simp
    have ea : (kA.push (.ref t)).toList = kA.toList ++ [.ref t] := by simp
    try dsimp only
    refine wpAny_bind (listUpdate_at nk2 rfl ?_ (by omega) (Nat.le_trans (Nat.le_of_eq (Array.size_push ..)) (by omega)))
    have fk2 : FpOk X pins H2 kS := fp_to fk nk2'
    have J3 : L2.Inv X pins σ H2 { s'' with heap := s''.heap.update kS (Obj.mapSeq (·.push (.ref t))) } := J2.turned (t' := s''.toks) (fun b o hb e => (s1.2 b hb).trans e) fk2.1 fk2.2.1 fk2.2.2.2.1 fk2.2.2.2.2.1 fk2.2.2.2.2.2
    refine wpAny_pure ⟨rfl, H2, kA.push (.ref t), c2, J3, Same.trans sm sm2, fun c o e fc fd => ?_, nk2', na2', hc2, (s1.2 a hka.symm).trans na2, ?_⟩
    · have q1 := kp c o e fc fd
      obtain ⟨g1, g2⟩ := kp2 c o q1.1 q1.2 fd
      refine ⟨(s1.2 c (fun z => ?_)).trans g1, g2⟩
      have h1 := Heap.lt_size e
      rw [z] at h1
      exact Nat.lt_irrefl _ (Nat.lt_of_lt_of_le h1 hsk)
    · rw [ea, ek]
      exact PySem.W.each_snoc ⟨t, v, rfl, prv2, ht⟩ (each_mono (fun u d k => k.up sm2) hk)
  case done =>
    rintro s' ⟨H', kA, e, J, sm, kp, nk0, na0, nk', na', hk⟩
    have e3 : bs.take (0 + its.length) = bs := List.take_of_length_le (by omega)
    rw [e3] at hk
    have hkl := hk.length
    rw [Array.length_toList] at hkl
    have hR : ∀ {us : List Value} {cs : List Pq}, PySem.W.EachIs (KeyR H') us cs → PySem.W.EachIs (fun v k => ∃ as, Reads s'.heap v k as) us (cs.map encS) := by
      intro us cs h
      induction h with
      | nil => exact .nil
      | cons k _ ih =>
        obtain ⟨t, v, rfl, p, ht⟩ := k
        exact .cons ⟨[], encS_reads J.hok p ht⟩ ih
    have hk' := hR hk
    have hal : PySem.W.AllAlike (bs.map encS) := PySem.W.AllAlike.of encS_alike
    have hsk' : PySem.W.Sortable (bs.map encS) := PySem.W.Sortable.tuples fun b => ⟨_, _, rfl⟩
    try dsimp only
    refine wpAny_bind (listItems_at nk' rfl ?_)
    have fk' : FpOk X pins H' kS := fp_to fk nk0
    have fa' : FpOk X pins H' a := fp_to fa na0
    refine PySem.W.keyH_end (κ := PySem.W.dataKind s'.heap (bs.map encS)) (h₁ := hidT s'.heap fun b => if b = kS then some (.lst []) else none) (fun b o hb e => (of_hidT e).1) ?_ nk' na' hka
      (PySem.W.SortsAt.data (s := s') hk' hal hsk' (PySem.W.bound_map (A := X.A.in1.in1) fun b _ => by have := encS_depth b; show X.A.units + 1 + 1 + (encS b).depth < cLine; omega)) (by omega) (by omega) fun h3 tk3 c k3 n3 => ?_
    · cases z : (hidT s'.heap fun b => if b = kS then some (.lst []) else none).get? kS with
      | none => rfl
      | some o =>
        have := (of_hidT z).2
        rw [if_pos rfl] at this
        cases this
    refine ⟨rfl, ?_⟩
    have ko : PySem.W.KeyedOut false (bs.map encS) its _ := ⟨s'.heap, kA.toList, hal, rfl, hk'⟩
    have eo := PySem.W.keyedOut_each encS ko e1
    have hol := (ko.length (by rw [List.length_map]; omega))
    obtain ⟨ys, y1, y2⟩ := paired_of_each eo
    refine ⟨.ref a, upd H' a (.lst ys), Inv.adopt (t' := tk3) (ch := [a, kS]) J (fun b o hb e => k3 b o (fun z => hb (by simp [z])) (hidT_get e (if_neg fun z => hb (by simp [z])))) (fun b hb => ?_) (by simp) ⟨?_, _, c, y1, n3⟩, rfl, q ys a _ fa.1 (Same.trans sm (Same.new na0)) upd_same y2⟩
    · rcases List.mem_cons.mp hb with rfl | hb
      · exact fa'
      · rw [List.mem_singleton.mp hb]; exact fk'
    · have := Paired.length y1
      omega
/-- sorted(e, key=lambda ..) -/
def qSortLam (T : List (Addr × Str)) (Q : VK) : VK := fun x H1 => ∃ l xs bs, x = .ref l ∧ H1 l = some (.lst xs) ∧ Paired (Pr H1) xs bs ∧ bs.length ≤ 100000 ∧ LamX.Tabs T H1 ∧
  ∀ ys p H2, LamX.ExtN H1 H2 → LamX.Tabs T H2 → H2 p = some (.lst ys) → Paired (Pr H2) ys (bs.mergeSort (PySem.W.dataLe false encS)) → Q (.ref p) H2
def tSortLam (T : List (Addr × Str)) (te : TE) : TE := fun σ H Q => te σ H (qSortLam T Q)
def one1 (Q : VK) : List V → Hp → Prop
  | [x], H => Q x H
  | _, _ => False
theorem Cn.upN {H H' : Hp} {v : V} {c : Pt} (h : Cn H v c) (s : LamX.ExtN H H') : Cn H' v c := h.upT fun a xs e => s a _ e fun _ z => by cases z
theorem Pr.upN {H H' : Hp} {v : V} {c : Pq} (h : Pr H v c) (s : LamX.ExtN H H') : Pr H' v c := h.upT fun a xs e => s a _ e fun _ z => by cases z
theorem Paired.mono {α β : Type} {R S : α → β → Prop} (h : ∀ a b, R a b → S a b) : ∀ {xs : List α} {ys : List β}, Paired R xs ys → Paired S xs ys
  | _, _, .nil => .nil
  | _, _, .cons r t => .cons (h _ _ r) (Paired.mono h t)
theorem env_in1 {P : Program} {w : World} {K : PySem.W.Frag} {mg : Str → Option Value} {base : Heap} {A : Around} {outer : List Env} {s : Shared} {H : Hp} (e : Env0 P w K mg base A outer s H) : Env0 P w K mg base A.in1 outer s H := { e with frames := e.frames }
theorem pe_sortLam {T : List (Addr × Str)} {p lpos pos kpos : Pos} {e : Expr} {te tl : TE} {params : Arguments} {body : Expr} {scope : Scope} {N : List Str} {pa : Str} {c Pt : Addr} {k : Nat} (hg : Gl X "sorted") (hm : X.mg "sorted" = none) (ha : PE X e te)
    (TB : LamX.TabB X.base X.mg c Pt) (hcode : X.env.code = .ref c) (hmT : (Pt, X.env.qual ++ "<lambda>") ∈ T) (hu : ∀ p ∈ T, p.1 = Pt → p.2 = X.env.qual ++ "<lambda>") (hr : Room (k + 3) X.A) (hdef : defaultsOf params X.env = ([], []))
    (hnf : ∀ y ∈ scope.names, y.2 ≠ .free) (hclo : cloFrom X.env.cells scope.names [] = []) (S : FnScope N [pa] scope)
    (hbind : ∀ (q : Str) (pm cv ctv u : Value), bindArgs (PySem.W.kla_fn "<lambda>" q params body scope [] pm cv ctv) ⟨[u], []⟩ = pure [(pa, u)])
    (hbody : ∀ (A : Around) (outer : List Env) (s : Shared) (H : Hp) (E : XK) (f c' : Addr), Room k (A.deeper (envOfC (X.env.qual ++ "<lambda>") scope s.heap.objs.size f (.ref c'))) → PE (cxOf CX0 X.prog X.w X.K X.mg X.base N (X.env.qual ++ "<lambda>") scope f (.ref c') A outer s H E) body tl)
    (htl : ∀ (H : Hp) (v : V) (b : Pq) (Q : VK), Pr H v b → (∀ t H2, Same H H2 → H2 t = some (.tup [.int (stp b), v]) → Q (.ref t) H2) → tl (start N [v]) H Q)
    (hsa : starEach [e] X.env = (false, eval e X.env) :: starEach [] X.env := by rfl) (he : backTo pos (starEach [e] X.env) = (false, eval e X.env) :: backTo pos (starEach [] X.env) := by rfl) (hpl : (backTo pos (starEach [e] X.env)).any (·.1) = false := by rfl) :
    PE X (.Call (.Name "sorted" p) [e] [⟨some "key", .Lambda params body scope lpos, kpos⟩] pos) (tSortLam T te) := by
  refine ⟨fun pins s σ H Q I h => ?_⟩
  refine wpAny_Call_Name_kw (ld_blt I hg hm rfl ?_)
  refine PyProof.Rows.callWith_kw (thn ((pa_cons ha pa_nil hsa).run pos pins s σ H (one1 (qSortLam T Q)) I h) fun us s1 ⟨vs, H1, I1, r1, q1⟩ => ?_) he hpl rfl rfl
  obtain ⟨x, rfl⟩ : ∃ x, vs = [x] := by
    match vs, q1 with
    | [x], _ => exact ⟨x, rfl⟩
  obtain ⟨l, xs, bs, rfl, hs, hp, hl, hT, q⟩ : qSortLam T Q x H1 := q1
  obtain rfl := Vals.ref1 r1
  show wpAny _ _ (evalAll [(do let v ← eval (.Lambda params body scope lpos) X.env; standAt pos; pure v)]) _ _ s1
  refine wpAny_evalAll_cons (wpAny_bind ?_)
  have hfree : ∀ y ∈ scope.names, y.2 = .free → ∃ c, X.env.cells.lookup y.1 = some c := fun y hy e => absurd e (hnf y hy)
  refine LamX.lam_make2 I1 TB hcode hmT hu hT hdef hfree fun f c' pm ctv H2 s2 I2 eN T2 hf hfn hfr hco => ?_
  rw [hclo] at hf
  refine wpAny_bind (wpAny_standAt (wpAny_pure (wpAny_evalAll_nil ?_)))
  show wpAny _ _ (call (.builtin "sorted") [.ref l] [(Str.ofString "key", .ref f)]) _ _ s2
  have hs2 : SqL X.K H2 l xs := SqL.of (eN _ _ hs fun _ z => by cases z)
  refine sortLam_run (bs := bs) I2 hs2 (Paired.mono (fun a b r => r.upN eN) hp) hl hr.units (fun s' H' v u b J sm kp rv prv => ?_) fun ys p H3 hn sm hp3 hys => ?_
  · refine wpAny_call (codeAny_mono (lam_run (k := k) (vs := [v]) (us := [u]) (Q := fun r H2 => ∃ t, r = .ref t ∧ Same H' H2 ∧ H2 t = some (.tup [.int (stp b), v])) (E := E0) S (kp f _ hf hfn hfr) (sm _ _ hco) hr.in1.in1 (env_in1 (env_in1 J.env0)) (hbind _ _ _ _ _) (.cons rv .nil) rfl ⟨tl, hbody _ _ _ _ _ _ _ ((hr.in1.in1).deeper _), htl _ _ _ _ prv fun t H2 sm2 ht => ⟨t, rfl, sm2, ht⟩⟩) fun r s3 hq => ?_)
    cases r with
    | error e => exact (show False from hq).elim
    | ok fl =>
      cases fl with
      | ret u =>
        obtain ⟨v', H9, os, bare, un, hok, rv', t, rfl, sm3, ht⟩ := id hq
        obtain rfl : u = Value.ref t := rv'
        obtain ⟨v'', H3', J3, rv3, qq⟩ := J.after (Q := fun r H2 => r = .ref t ∧ H2 = H9) ⟨.ref t, H9, os, bare, un, hok, rfl, rfl, rfl⟩
        obtain ⟨rfl, rfl⟩ := qq
        exact ⟨t, H3', rfl, J3, sm3, ht, fun a o e n nf => ⟨un.keep a o e n nf (by simp), un.free a o e n (by simp)⟩⟩
      | next => exact False.elim hq
      | brk => exact False.elim hq
      | cont => exact False.elim hq
  · have eN3 : LamX.ExtN H1 H3 := eN.trans (.of sm)
    exact q ys p H3 eN3 (T2.ext sm) hp3 (Paired.mono (fun a b r => r.up sm) hys)
end
end Cp
end
section
namespace Cp
open PySem PySem.Spec PyProof.Rows L2
/-- the names of the top that are built-ins', and the two texts -/
structure Gs (mg : Str → Option Value) : Prop where
  range : mg "range" = none
  len : mg "len" = none
  sorted : mg "sorted" = none
  abs : mg "abs" = none
  zip : mg "zip" = none
  list : mg "list" = none
  tuple : mg "tuple" = none
  int : mg "int" = none
  bool : mg "bool" = none
  min : mg "min" = none
  max : mg "max" = none
  isinstance : mg "isinstance" = none
  rising : ∃ t, mg "RISING" = some (.str "rising" t)
  falling : ∃ t, mg "FALLING" = some (.str "falling" t)
theorem hu65 {k : Nat} {A : Around} (r : Room k A) : A.units + 65 < cLine := by have := r.un; omega

section
variable {prog : Program} {w : World} {A : Around} {E : Value → Shared → Prop} {s : Shared}
theorem args_min4 (a b c d : Value) : argsOk "min" ⟨[a, b, c, d], []⟩ := by unfold argsOk; kernel_rfl
theorem call_min_four {a b c d : Value} {Q : Value → Shared → Prop}
    (h : wpAny (model prog w) A.in1 (pyIter (.ref s.heap.objs.size)) (fun it s₂ => ∃ I fp wr n P St bt, it = .ref I ∧ Walks prog w A.in1 I fp wr n P St ∧ St 0 s₂.heap ∧ (∀ b ∈ fp, b < s₂.heap.objs.size) ∧ 0 < n ∧ CmpOf prog w A.in1 .Lt P bt ∧
      ∀ v h' tk, P (argBest bt (n - 1)) v → (∀ b o, b ∉ wr → s₂.heap.get? b = some o → h'.get? b = some o) → Q v { s₂ with heap := h', toks := tk }) E
      { s with heap := s.heap.push { cls := .type "tuple", data := .seq #[a, b, c, d] } }) :
    wpAny (model prog w) A (call (.builtin "min") [a, b, c, d]) Q E s := by
  have hname : (toString "min" ++ toString ".loop" : String) = "min.loop" := by decide
  refine call_function_tree PySem.F.kind_min PySem.F.plain_min PySem.F.entry_min (args_min4 _ _ _ _) ?_
  show wpAny _ A.in1 (Builtin.Builtins.bindParams "min" ["key", "default"] 0 ⟨[], []⟩ >>= _) _ _ s
  refine wpAny_bind (wpAny_of_eq (show Builtin.Builtins.bindParams "min" ["key", "default"] 0 ⟨[], []⟩ = pure [none, none] from rfl) ?_)
  show wpAny _ A.in1 (newTuple [a, b, c, d] >>= _) _ _ s
  refine wpAny_bind (wpAny_newObj_type ?_)
  refine wpAny_bind (wpAny_mono h (fun it s₂ h₂ => ?_) fun _ _ e => e)
  obtain ⟨I, fp, wr, n, P, St, bt, rfl, W, hst, hfp, hn, hcmp, hQ⟩ := h₂
  refine wpAny_bind (wpAny_newObj_type ?_)
  have hSf : s₂.heap.objs.size ∉ fp := fun hm => Nat.lt_irrefl _ (hfp _ hm)
  rw [hname]
  refine wpAny_pure ⟨plainId_quiet PySem.F.plain_min_loop _, codeAny_min_loop_first W bt hcmp s₂.heap.objs.size hSf hn (W.frame _ _ _ hst fun b _ o e => Heap.get?_push_of_some _ e) (Heap.get?_push_size _ rfl) fun v h' tk hP hk => ?_⟩
  exact hQ v h' tk hP fun b o hbw e => hk b o hbw (Nat.ne_of_lt (Heap.lt_size e)) (Heap.get?_push_of_some _ e)
theorem min_four_ints {a b c d : Int} {t u x y : Tok} {Q : Value → Shared → Prop} (hh : A.handled = none)
    (h : ∀ h' tk m tm, (∀ d o, s.heap.get? d = some o → h'.get? d = some o) → Q (.int m tm) { s with heap := h', toks := tk }) :
    wpAny (model prog w) A (call (.builtin "min") [.int a t, .int b u, .int c x, .int d y]) Q E s := by
  have hT : (s.heap.push { cls := .type "tuple", data := .seq #[.int a t, .int b u, .int c x, .int d y] }).IsTuple s.heap.objs.size (intItems #[(a, t), (b, u), (c, x), (d, y)]) := ⟨_, Heap.get?_push_size _ rfl, rfl, 0, by simp [intItems]⟩
  refine call_min_four (wpAny_pyIter_tuple hT ?_)
  have hsz : (s.heap.push { cls := .type "tuple", data := .seq #[.int a t, .int b u, .int c x, .int d y] }).objs.size = s.heap.objs.size + 1 := Heap.size_push ..
  refine ⟨_, [_, s.heap.objs.size], [_], _, _, _, _, rfl, Walks.tuple (A := A.in1) hh _ s.heap.objs.size (by rw [hsz]; exact Nat.ne_of_lt (Nat.lt_succ_self _)) (intItems #[(a, t), (b, u), (c, x), (d, y)]),
    ⟨⟨_, Heap.get?_push_size _ rfl, rfl, rfl⟩, hT.push _⟩, fun e he => ?_, by simp [intItems], CmpOf.ints_lt (numAt #[(a, t), (b, u), (c, x), (d, y)]) (fun _ _ => intItems_at), fun v h' tk hP hk => ?_⟩
  · show e < ((s.heap.push _).push _).objs.size
    rw [Heap.size_push, hsz]
    rcases List.mem_cons.mp he with rfl | he
    · rw [hsz]; exact Nat.lt_succ_self _
    · rcases List.mem_cons.mp he with rfl | he
      · exact Nat.lt_succ_of_lt (Nat.lt_succ_self _)
      · cases he
  · have hold : ∀ d o, s.heap.get? d = some o → h'.get? d = some o := fun d o e => by
      refine hk d o (fun hm => ?_) (Heap.get?_push_of_some _ (Heap.get?_push_of_some _ e))
      rcases List.mem_cons.mp hm with e1 | hm
      · have := Heap.lt_size e; rw [e1, hsz] at this; exact Nat.lt_irrefl _ (Nat.lt_of_succ_lt this)
      · cases hm
    have hv : ∃ m tm, v = .int m tm := by
      have hm : v ∈ intItems #[(a, t), (b, u), (c, x), (d, y)] := Array.mem_of_getElem? hP
      simp [intItems] at hm
      rcases hm with rfl | rfl | rfl | rfl <;> exact ⟨_, _, rfl⟩
    obtain ⟨m, tm, rfl⟩ := hv
    exact h h' tk m tm hold
end
section
variable {X : Cx} {pos : Pos} {a b c d : Expr} {ta tb tc td : TE}
theorem call_min4 (hc : X.calm = true) : CallR X (.builtin "min") (fun xs H Q => ∃ i j k l, xs = [.int i, .int j, .int k, .int l] ∧ ∀ m, Q (.int m) H) := by
  intro pins s σ H xs us Q I r h
  obtain ⟨i, j, k, l, rfl, q⟩ := h
  cases r with
  | cons r1 r => cases r with
    | cons r2 r => cases r with
      | cons r3 r => cases r with
        | cons r4 r =>
          cases r
          obtain ⟨t1, rfl⟩ := r1
          obtain ⟨t2, rfl⟩ := r2
          obtain ⟨t3, rfl⟩ := r3
          obtain ⟨t4, rfl⟩ := r4
          exact min_four_ints (I.ok.hd hc) fun h' tk m tm kp => ⟨.int m, H, I.kept kp, ⟨tm, rfl⟩, q m⟩
/-- a op1 b op2 c op3 d -/
def tChain3 (r r' r'' : R2) (ta tb tc td : TE) : TE := fun σ H Q => ta σ H fun x H1 => tb σ H1 fun y H2 => r x y H2 fun z H3 => ∃ k, z = .bl k ∧
  (if k = true then tc σ H3 fun w' H4 => r' y w' H4 fun z' H5 => ∃ k', z' = .bl k' ∧ (if k' = true then td σ H5 fun v' H6 => r'' w' v' H6 Q else Q (.bl false) H5) else Q (.bl false) H3)
theorem pt_chain3 {op op' op'' : CmpOp} {r r' r'' : R2} (ho : OpR X (compareOp op) r) (ho' : OpR X (compareOp op') r') (ho'' : OpR X (compareOp op'') r'') (ha : PE X a ta) (hb : PE X b tb) (hc : PE X c tc) (hd : PE X d td)
    (hm : lastMarks [op, op', op''] [b, c, d] = false := by with_unfolding_all rfl) : PT X (.Compare a [op, op', op''] [b, c, d] pos) (tTest (tChain3 r r' r'' ta tb tc td)) := by
  refine ⟨fun pins s σ H Q I h => ?_⟩
  refine isTrue_chain (thn (ha.run pins s σ H _ I h) fun v s1 ⟨x, H1, I1, r1, q1⟩ => test_link (thn (hb.run pins s1 σ H1 _ I1 q1) fun u s2 ⟨y, H2, I2, r2, q2⟩ =>
    thn (ho pins s2 σ H2 x y v u _ I2 r1 r2 q2) fun d s3 ⟨z, H3, I3, r3, k, e, q3⟩ => ?_)) hm
  subst e
  cases r3
  refine wpAny_truthy_bool ?_
  cases k with
  | false =>
    obtain ⟨k2, e2, q4⟩ := q3
    have e3 : k2 = false := by injection e2 with e2; exact e2.symm
    subst e3
    exact ite_ff ⟨H3, I3, q4⟩
  | true =>
    refine ite_tt (test_link (thn (hc.run pins s3 σ H3 _ I3 q3) fun w' s4 ⟨z', H4, I4, r4, q4⟩ => thn (ho' pins s4 σ H4 y z' u w' _ I4 r2 r4 q4) fun d2 s5 ⟨z2, H5, I5, r5, k2, e2, q5⟩ => ?_))
    subst e2
    cases r5
    refine wpAny_truthy_bool ?_
    cases k2 with
    | false =>
      obtain ⟨k2, e2, q4⟩ := q5
      have e3 : k2 = false := by injection e2 with e2; exact e2.symm
      subst e3
      exact ite_ff ⟨H5, I5, q4⟩
    | true =>
      refine ite_tt (test_last (thn (hd.run pins s5 σ H5 _ I5 q5) fun w2 s6 ⟨z3, H6, I6, r6, q6⟩ => thn (ho'' pins s6 σ H6 z' z3 w' w2 _ I6 r4 r6 q6) fun d3 s7 ⟨z4, H7, I7, r7, k3, e3, q7⟩ => ?_))
      subst e3
      cases r7
      exact wpAny_truthy_bool ⟨H7, I7, q7⟩
/-- xs.remove(y), data -/
def rRemD (K : PySem.W.Frag) : V → List V → Hp → VK → Prop := fun x xs H Q => ∃ (l : Addr) (ys : List V) (y : V) (d : PyData) (ds : List PyData) (j : Nat) (z : PyData), x = .ref l ∧ xs = [y] ∧ H l = some (.lst ys) ∧ DpAll K H ys ds ∧ Dp K H y d ∧
  SeqAt.shaped (.list ds) = true ∧ SeqAt.shaped d = true ∧ ds[j]? = some z ∧ PyData.eqv z d = true ∧ (∀ (m : Nat) (z' : PyData), m < j → ds[m]? = some z' → PyData.eqv z' d = false) ∧ Q .non (upd H l (.lst (ys.eraseIdx j)))
theorem mt_removeD (hu : X.A.units + 65 < cLine) : MtM X "list.remove" (rRemD X.K) := by
  intro pins s σ H x xs v us Q I rx rxs h
  obtain ⟨l, ys, y, d, ds, j, z, rfl, rfl, hH, ha, hy, sl, sd, hz, hzj, hno, q⟩ := h
  cases rx
  obtain ⟨u, rfl, ry⟩ := rxs.one
  obtain ⟨bs, r1⟩ := Dp.reads I d y u hy ry
  have hxs : PyData.canLayAll0 ds = true := SeqAt.canLay_of_shaped sl
  have hroom : X.A.units + 1 + min (PyData.depthAll ds) d.depth < cLine := room_in_shaped sd hu
  obtain ⟨hlen, its, n, r, hle, e⟩ := I.lstM hH
  obtain ⟨as, h4⟩ := Dp.readsAll I ds _ its ha r
  have hn : its.length = ds.length := SeqAt.ReadsAll.length ds its as h4
  have hmap : its.map (SeqAt.readOf s.heap) = ds := SeqAt.readsAll_map ds its as hxs h4
  obtain ⟨hjd, _⟩ := List.getElem?_eq_some_iff.mp hz
  have hjl : j < its.length := by omega
  have hj : j < its.toArray.size := by simpa using hjl
  have at_ : ∀ (m : Nat) (hm : m < its.toArray.size) (z' : PyData), ds[m]? = some z' → SeqAt.readOf s.heap its.toArray[m] = z' := by
    intro m hm z' hz'
    have hml : m < its.length := by simpa using hm
    rw [← hmap, List.getElem?_map, List.getElem?_eq_getElem hml] at hz'
    have e1 : SeqAt.readOf s.heap its[m] = z' := Option.some.inj (show some (SeqAt.readOf s.heap its[m]) = some z' from hz')
    simpa using e1
  have hvl := r.length
  refine call_meets PySem.F.slot_list_remove ⟨_, e, rfl⟩ PySem.F.entry_list_remove (PySem.F.args_list_remove_2 _ _)
    (SeqAt.list_removeAt l its.toArray n none #[] u (fun u => PyData.eqv (SeqAt.readOf s.heap u) d) j hj ?_ ?_ (by rw [List.size_toArray]; omega)) ⟨e, SeqAt.items_eqAt (vs := its.toArray) (show ReadsAll s.heap its.toArray.toList ds as from h4) r1 hxs (SeqAt.canLay_of_shaped sd) hroom, ?_⟩
  · show PyData.eqv (SeqAt.readOf s.heap its.toArray[j]) d = true
    rw [at_ j hj z hz]
    exact hzj
  · intro m hm hmj
    have hmd : m < ds.length := by omega
    have hz' : ds[m]? = some ds[m] := List.getElem?_eq_getElem hmd
    show PyData.eqv (SeqAt.readOf s.heap its.toArray[m]) d = false
    rw [at_ m hm _ hz']
    exact hno m _ hmj hz'
  · refine ⟨.non, _, I.lset (its' := its.eraseIdx j) (t' := s.toks) hH e ?_ (r.eraseIdx j) ?_, rfl, q⟩
    · show its.toArray.eraseIdxIfInBounds j = (its.eraseIdx j).toArray
      rw [List.eraseIdxIfInBounds_toArray]
    · have : (ys.eraseIdx j).length ≤ ys.length := List.length_eraseIdx_le ..
      omega
end
end Cp
end
section
namespace Cp
open PySem PySem.Spec PyProof.Rows L2
/-! ### what the plane's words mean -/
def mv (c : Pt) (l : Str) : Pt := if l = "E" then (c.1 + 1, c.2) else if l = "N" then (c.1, c.2 + 1) else (c.1, c.2 - 1)
def bk (c : Pt) (l : Str) : Pt := if l = "E" then (c.1 - 1, c.2) else if l = "N" then (c.1, c.2 - 1) else (c.1, c.2 + 1)
abbrev Fn := Pq → Str
def ltr (F : Fn) (p q : Pt) : Str := if p.2 = q.2 then "E" else if p.1 = q.1 then (if p.2 < q.2 then "N" else "S") else F (p, q)
def nx (F : Fn) (p q : Pt) : Pt := mv p (ltr F p q)
def dst (p q : Pt) : Nat := (p.1 - q.1).natAbs + (p.2 - q.2).natAbs
def walkN (F : Fn) (q : Pt) : Nat → Pt → List Pt
  | 0, p => [p]
  | n + 1, p => if p = q then [p] else p :: walkN F q n (nx F p q)
def walk (F : Fn) (p q : Pt) : List Pt := walkN F q (dst p q) p
def ltP (p q : Pt) : Bool := decide (p.1 < q.1) || (decide (p.1 = q.1) && decide (p.2 < q.2))
def line (F : Fn) (p q : Pt) : List Pt := if ltP q p then (walk F q p).reverse else walk F p q
def cornersL (w h : Nat) : List Pt := (List.range (w + 1)).flatMap fun (x : Nat) => (List.range (h + 1)).map fun (y : Nat) => ((x : Int), (y : Int))
def onB (b : Pt) (c : Pt) : Bool := (decide (0 ≤ c.1) && decide (c.1 ≤ b.1)) && (decide (0 ≤ c.2) && decide (c.2 ≤ b.2))
/-- the pair needs a letter of the table -/
def Skew (p q : Pt) : Prop := p.1 < q.1 ∧ p.2 ≠ q.2
theorem NTab.up {κ : Type} [DecidableEq κ] {T : KT κ} {P : Program} {w : World} {H H' : Hp} {d : Addr} {kvs : List (κ × V)} (h : NTab T P w H d kvs) (s : Same H H') : NTab T P w H' d kvs := by
  obtain ⟨o, a, b, c, d, xs, ys, es, ep, e1, e2, e3, e4, e5, e6⟩ := h
  exact ⟨o, s _ _ a, b, c, d, xs, ys, es, ep, e1, e2, e3, e4, e5, fun x hx => T.up (fun a xs h => s a _ h) (e6 x hx)⟩
/-- .. where only the dict itself stands, and the tuples -/
theorem NTab.upD {κ : Type} [DecidableEq κ] {T : KT κ} {P : Program} {w : World} {H H' : Hp} {d : Addr} {kvs : List (κ × V)} (h : NTab T P w H d kvs) (s : ∀ o, H d = some (NDo d o) → H' d = some (NDo d o)) (t : ∀ a xs, H a = some (.tup xs) → H' a = some (.tup xs)) : NTab T P w H' d kvs := by
  obtain ⟨o, a, b, c, d, xs, ys, es, ep, e1, e2, e3, e4, e5, e6⟩ := h
  exact ⟨o, s _ a, b, c, d, xs, ys, es, ep, e1, e2, e3, e4, e5, fun x hx => T.up t (e6 x hx)⟩
section
variable {P : Program} {w : World} {K : PySem.W.Frag} {mg : Str → Option Value} {base : Heap} {C f : Addr} {ps : List Str} {k : Nat} {sp : Sp} {m x : Str}
theorem Met.mk' (cl : Cls K C) (mt : Meth K C m f) (h : ∃ fd, Binds K fd ps [] ∧ PySem.W.keepIn K (.ref f) = true ∧ FnOk P w K mg base CX0 k f fd ps sp) : Met P w K mg base k C m ps sp := by
  obtain ⟨fd, b, kp, F⟩ := h
  exact ⟨f, fd, cl, mt, b, F⟩
theorem Mak.mk' (hm : mg x = some (.ref C)) (mk : Mk K C f) (h : ∃ fd, Binds K fd ps [] ∧ PySem.W.keepIn K (.ref f) = true ∧ FnOk P w K mg base CX0 k f fd ps sp) : Mak P w K mg base k x C ps sp := by
  obtain ⟨fd, b, kp, F⟩ := h
  exact ⟨f, fd, hm, mk, b, F⟩
end
section
variable {σ : L2.St} {H : Hp} {D : Ends} {Q : VK} {t u : TS} {te ta tb : TE} {tl : TA} {v x y z : V} {n m : Int} {K : PySem.W.Frag} {P : Program} {w : World}
/-! named questions -/
def qTup (xs : List V) (H : Hp) (Q : VK) : Prop := xs.length ≤ sizeLine ∧ ∀ p, H p = none → Q (.ref p) (upd H p (.tup xs))
def qLst (xs : List V) (H : Hp) (Q : VK) : Prop := xs.length ≤ sizeLine ∧ ∀ p, H p = none → Q (.ref p) (upd H p (.lst xs))
def uTup (t : TA) : TE := fun σ H Q => t σ H fun xs H1 => qTup xs H1 Q
def uLst (t : TA) : TE := fun σ H Q => t σ H fun xs H1 => qLst xs H1 Q
theorem pe_utup {X : Cx} {es : List Expr} {t : TA} {pos : Pos} {x1} (h : PA X es t) : PE X (.Tuple es x1 pos) (uTup t) := pe_tup h
theorem pe_ulst {X : Cx} {es : List Expr} {t : TA} {pos : Pos} (h : PA X es t) : PE X (.List es pos) (uLst t) := pe_lst h
def rAbs : List V → Hp → VK → Prop := fun xs H Q => ∃ i, xs = [.int i] ∧ Q (.int (if i < 0 then -i else i)) H
theorem cr_abs {X : Cx} : CallR X (.builtin "abs") rAbs := call_abs
def rLenQ (K : PySem.W.Frag) : List V → Hp → VK → Prop := fun xs H Q => ∃ p ys, xs = [.ref p] ∧ (SqL K H p ys ∨ SqT K H p ys) ∧ Q (.int ys.length) H
theorem cr_len {X : Cx} : CallR X (.builtin "len") (rLenQ X.K) := call_len_seq
def rInt1 : List V → Hp → VK → Prop := fun xs H Q => (∃ i, xs = [.int i] ∧ Q (.int i) H) ∨ ∃ k, xs = [.bl k] ∧ Q (.int (if k then 1 else 0)) H
theorem cr_int1 {X : Cx} : CallR X (.type "int") rInt1 := call_int1
def rMin2 : List V → Hp → VK → Prop := fun xs H Q => ∃ i j, xs = [.int i, .int j] ∧ Q (.int (if j < i then j else i)) H
theorem cr_min2 {X : Cx} (hc : X.calm = true) : CallR X (.builtin "min") rMin2 := call_min2 hc
def rMin4 : List V → Hp → VK → Prop := fun xs H Q => ∃ i j k l, xs = [.int i, .int j, .int k, .int l] ∧ ∀ m, Q (.int m) H
theorem cr_min4 {X : Cx} (hc : X.calm = true) : CallR X (.builtin "min") rMin4 := call_min4 hc
def rListOf (K : PySem.W.Frag) : List V → Hp → VK → Prop := fun xs H Q => ∃ p ys, xs = [.ref p] ∧ (SqL K H p ys ∨ SqT K H p ys) ∧ ∀ l, H l = none → Q (.ref l) (upd H l (.lst ys))
theorem cr_listOf {X : Cx} : CallR X (.type "list") (rListOf X.K) := call_list_of
def rTupleOf (K : PySem.W.Frag) : List V → Hp → VK → Prop := fun xs H Q => ∃ p ys, xs = [.ref p] ∧ ((SqL K H p ys ∧ ∀ l, H l = none → Q (.ref l) (upd H l (.tup ys))) ∨ (SqT K H p ys ∧ Q (.ref p) H))
theorem cr_tupleOf {X : Cx} : CallR X (.type "tuple") (rTupleOf X.K) := call_tuple_of
def qNGet {κ : Type} [DecidableEq κ] (T : KT κ) (P : Program) (w : World) (x y : V) (H2 : Hp) (Q : VK) : Prop := ∃ (d : Addr) (kvs : List (κ × V)) (k : κ) (v : V), x = .ref d ∧ NTab T P w H2 d kvs ∧ T.is H2 y k ∧ look kvs k = some v ∧ Q v H2
def qFld (K : PySem.W.Frag) (f : Str) (x : V) (H1 : Hp) (Q : VK) : Prop := ∃ a C dx fs v, x = .ref a ∧ H1 a = some (.ins C dx fs) ∧ Cls K C ∧ NoAttr K C f ∧ fs.lookup f = some v ∧ Q v H1
def qMth (C : Addr) (m : Str) (sp : Sp) (E : XK) (t : TA) (σ : L2.St) (x : V) (H1 : Hp) (Q : VK) : Prop := ∃ a dx fs, x = .ref a ∧ H1 a = some (.ins C dx fs) ∧ fs.lookup m = none ∧ t σ H1 fun vs H2 => sp (x :: (vs ++ [])) H2 Q E
def qBM (K : PySem.W.Frag) (T : String) (r : V → List V → Hp → VK → Prop) (t : TA) (σ : L2.St) (x : V) (H1 : Hp) (Q : VK) : Prop := tyV K T x H1 ∧ t σ H1 fun xs H2 => r x xs H2 Q
theorem u_tup (h : tl σ H fun xs H1 => qTup xs H1 Q) : uTup tl σ H Q := h
theorem u_lst (h : tl σ H fun xs H1 => qLst xs H1 Q) : uLst tl σ H Q := h
theorem u_newT {xs : List V} (hz : Nat.ble xs.length 1000 = true) (q : ∀ p H1, H p = none → Same H H1 → H1 p = some (.tup xs) → Q (.ref p) H1) : qTup xs H Q :=
  ⟨Nat.le_trans (Nat.le_of_ble_eq_true hz) (by decide), fun p hp => q p _ hp (Same.new hp) upd_same⟩
theorem u_newL {xs : List V} (hz : Nat.ble xs.length 1000 = true) (q : ∀ p H1, H p = none → Same H H1 → H1 p = some (.lst xs) → Q (.ref p) H1) : qLst xs H Q :=
  ⟨Nat.le_trans (Nat.le_of_ble_eq_true hz) (by decide), fun p hp => q p _ hp (Same.new hp) upd_same⟩
theorem s_abs (q : Q (.int n.natAbs) H) : rAbs [V.int n] H Q := ⟨n, rfl, by
  have e : (if n < 0 then -n else n) = (n.natAbs : Int) := by split <;> omega
  rw [e]; exact q⟩
theorem s_lenL {p : Addr} {xs : List V} (h : H p = some (.lst xs)) (q : Q (.int xs.length) H) : rLenQ K [V.ref p] H Q := ⟨p, xs, rfl, .inl (SqL.of h), q⟩
theorem s_lenT {p : Addr} {xs : List V} (h : H p = some (.tup xs)) (q : Q (.int xs.length) H) : rLenQ K [V.ref p] H Q := ⟨p, xs, rfl, .inr (SqT.of h), q⟩
theorem s_int1 (q : Q (.int n) H) : rInt1 [V.int n] H Q := .inl ⟨n, rfl, q⟩
theorem s_min2 (q : Q (.int (if m < n then m else n)) H) : rMin2 [V.int n, V.int m] H Q := ⟨n, m, rfl, q⟩
theorem s_min4 {i j k l : Int} (q : ∀ m, Q (.int m) H) : rMin4 [V.int i, V.int j, V.int k, V.int l] H Q := ⟨i, j, k, l, rfl, q⟩
theorem s_listL {p : Addr} {xs : List V} (h : H p = some (.lst xs)) (q : ∀ l H1, H l = none → Same H H1 → H1 l = some (.lst xs) → Q (.ref l) H1) : rListOf K [V.ref p] H Q := ⟨p, xs, rfl, .inl (SqL.of h), fun l hl => q l _ hl (Same.new hl) upd_same⟩
theorem s_listT {p : Addr} {xs : List V} (h : H p = some (.tup xs)) (q : ∀ l H1, H l = none → Same H H1 → H1 l = some (.lst xs) → Q (.ref l) H1) : rListOf K [V.ref p] H Q := ⟨p, xs, rfl, .inr (SqT.of h), fun l hl => q l _ hl (Same.new hl) upd_same⟩
theorem s_tupL {p : Addr} {xs : List V} (h : H p = some (.lst xs)) (q : ∀ l H1, H l = none → Same H H1 → H1 l = some (.tup xs) → Q (.ref l) H1) : rTupleOf K [V.ref p] H Q := ⟨p, xs, rfl, .inl ⟨SqL.of h, fun l hl => q l _ hl (Same.new hl) upd_same⟩⟩
theorem s_nget {κ : Type} [DecidableEq κ] {T : KT κ} (h : ta σ H fun x H1 => tb σ H1 fun y H2 => qNGet T P w x y H2 Q) : tNGet T P w ta tb σ H Q := h
theorem u_nget {κ : Type} [DecidableEq κ] {T : KT κ} {d : Addr} {kvs : List (κ × V)} {k : κ} {y v : V} (h : NTab T P w H d kvs) (hk : T.is H y k) (hl : look kvs k = some v) (q : Q v H) : qNGet T P w (.ref d) y H Q := ⟨d, kvs, k, v, rfl, h, hk, hl, q⟩
theorem s_mth {C : Addr} {m : Str} {sp : Sp} {E : XK} (h : ta σ H fun x H1 => qMth C m sp E tl σ x H1 Q) : tMeth C m sp [] E ta tl σ H Q := h
theorem u_mth {C : Addr} {m : Str} {sp : Sp} {E : XK} {a : Addr} {dx} {fs} (h : H a = some (.ins C dx fs)) (hf : fs.lookup m = none) (q : tl σ H fun vs H2 => sp (.ref a :: (vs ++ [])) H2 Q E) : qMth C m sp E tl σ (.ref a) H Q := ⟨a, dx, fs, rfl, h, hf, q⟩
theorem s_fld {f : Str} (h : ta σ H fun x H1 => qFld K f x H1 Q) : tFld K ta f σ H Q := h
theorem u_fld {f : Str} {a C : Addr} {dx} {fs} {v : V} (h : H a = some (.ins C dx fs)) (cl : Cls K C) (na : NoAttr K C f) (e : fs.lookup f = some v) (q : Q v H) : qFld K f (.ref a) H Q := ⟨a, C, dx, fs, v, rfl, h, cl, na, e, q⟩
theorem s_isN {t : V} (q : Q (.bl (decide (x = .non))) H) : Q (.bl (decide (x = .non))) H := q
end
end Cp
end
section
namespace Cp
open PySem PySem.Spec PyProof.Rows L2
/-! ### loops and lists in the making -/
def TupK (H H' : Hp) : Prop := ∀ a xs, H a = some (.tup xs) → H' a = some (.tup xs)
theorem TupK.refl (H : Hp) : TupK H H := fun _ _ h => h
theorem TupK.trans {H H1 H2 : Hp} (a : TupK H H1) (b : TupK H1 H2) : TupK H H2 := fun c xs h => b c xs (a c xs h)
theorem TupK.of {H H' : Hp} (s : Same H H') : TupK H H' := fun a _ h => s a _ h
/-- all but the object at p stays -/
def But (p : Addr) (H H' : Hp) : Prop := ∀ b o, b ≠ p → H b = some o → H' b = some o
theorem But.tup {p : Addr} {H H' : Hp} {o : HO} (b : But p H H') (hp : H p = some o) (n : ∀ xs, o ≠ .tup xs) : TupK H H' := fun a xs h => b a _ (fun z => by
  rw [z, hp] at h
  exact n xs (Option.some.inj h)) h
theorem But.upd (p : Addr) (H : Hp) (o : HO) : But p H (upd H p o) := fun b u hb h => by rw [upd_ne hb]; exact h
/-- what stood in H0 still stands, the object at p being newer -/
theorem But.same {p : Addr} {H0 H H' : Hp} (b : But p H H') (s : Same H0 H) (f : H0 p = none) : Same H0 H' := fun a o h => b a o (ne_of_none h f) (s a o h)
/-- relations that tuples carry -/
structure Tr {α : Type} (R : Hp → V → α → Prop) : Prop where
  up : ∀ {H H' : Hp} {v : V} {a : α}, TupK H H' → R H v a → R H' v a
theorem trC : Tr Cn := ⟨fun s h => h.upT s⟩
theorem trP : Tr Pr := ⟨fun s h => h.upT s⟩
def In (_ : Hp) (v : V) (n : Int) : Prop := v = .int n
theorem trI : Tr In := ⟨fun _ h => h⟩
def LsR {α : Type} (R : Hp → V → α → Prop) (H : Hp) (p : Addr) (as : List α) : Prop := ∃ xs, H p = some (.lst xs) ∧ Paired (R H) xs as
def TsR {α : Type} (R : Hp → V → α → Prop) (H : Hp) (p : Addr) (as : List α) : Prop := ∃ xs, H p = some (.tup xs) ∧ Paired (R H) xs as
section
variable {α : Type} {R : Hp → V → α → Prop} {H H' H0 : Hp} {p : Addr} {as bs : List α} {a : α} {v : V}
theorem LsR.up (t : Tr R) (h : LsR R H p as) (s : Same H H') : LsR R H' p as := by
  obtain ⟨xs, e, q⟩ := h
  exact ⟨xs, s _ _ e, Paired.mono (fun a b r => t.up (.of s) r) q⟩
theorem LsR.up2 (t : Tr R) (h : LsR R H p as) (k : TupK H H') (s : ∀ xs, H p = some (.lst xs) → H' p = some (.lst xs)) : LsR R H' p as := by
  obtain ⟨xs, e, q⟩ := h
  exact ⟨xs, s _ e, Paired.mono (fun a b r => t.up k r) q⟩
theorem LsR.len (h : LsR R H p as) : ∃ xs, H p = some (.lst xs) ∧ xs.length = as.length := by
  obtain ⟨xs, e, q⟩ := h
  exact ⟨xs, e, Paired.length q⟩
theorem LsR.int {ns : List Int} (h : LsR In H p ns) : H p = some (.lst (ns.map V.int)) := by
  obtain ⟨xs, e, q⟩ := h
  rw [e]
  congr 2
  clear e
  induction q with
  | nil => rfl
  | cons r _ ih => rw [List.map_cons, ← ih, show _ = V.int _ from r]
theorem LsR.of_int {ns : List Int} (h : H p = some (.lst (ns.map V.int))) : LsR In H p ns := by
  refine ⟨_, h, ?_⟩
  clear h
  induction ns with
  | nil => exact .nil
  | cons n ns ih => exact .cons rfl ih
/-- a list at D, made after H0, holds as -/
structure Bld (R : Hp → V → α → Prop) (H0 H : Hp) (D : Addr) (as : List α) : Prop where
  same : Same H0 H
  fresh : H0 D = none
  ls : LsR R H D as
theorem Bld.up (t : Tr R) (b : Bld R H0 H p as) (s : Same H H') : Bld R H0 H' p as := ⟨Same.trans b.same s, b.fresh, b.ls.up t s⟩
theorem Bld.new {H1 : Hp} (s0 : Same H0 H) (hp : H p = none) (s : Same H H1) (h : H1 p = some (.lst [])) : Bld R H0 H1 p [] := by
  refine ⟨Same.trans s0 s, ?_, [], h, .nil⟩
  cases e : H0 p with
  | none => rfl
  | some o => rw [s0 _ _ e] at hp; cases hp
/-- behind an append -/
theorem Bld.push (t : Tr R) (b : Bld R H0 H p as) (m : But p H H') (e : ∀ xs, H p = some (.lst xs) → H' p = some (.lst (xs ++ [v]))) (r : R H v a) : Bld R H0 H' p (as ++ [a]) := by
  obtain ⟨s, f, xs, h, q⟩ := b
  have k : TupK H H' := m.tup h fun _ z => by cases z
  exact ⟨m.same s f, f, _, e _ h, Paired.snoc (Paired.mono (fun a b r => t.up k r) q) (t.up k r)⟩
def qAcc (D : Addr) (y : V) (H4 : Hp) (Nx : Hp → Prop) : Prop := ∃ acc, H4 D = some (.lst acc) ∧ acc.length < sizeLine ∧ Nx (upd H4 D (.lst (acc ++ [y])))
/-- .. in a comprehension's turn -/
theorem Bld.lc {Nx : Hp → Prop} {H4 : Hp} (t : Tr R) (b : Bld R H0 H p as) (s : Same H H4) (r : R H4 v a) (hz : as.length < 100000) (q : ∀ H5, But p H4 H5 → Bld R H0 H5 p (as ++ [a]) → Nx H5) :
    qAcc p v H4 Nx := by
  have b4 := b.up t s
  obtain ⟨xs, h, qq⟩ := id b4.ls
  have hl := Paired.length qq
  refine ⟨xs, h, Nat.lt_of_lt_of_le (by omega : xs.length < 100000) (by decide), q _ (But.upd _ _ _) (b4.push t (But.upd _ _ _) (fun ys e => ?_) r)⟩
  rw [h] at e
  cases e
  rw [upd_same]
end
section
variable {σ : L2.St} {H : Hp} {D : Ends} {Q : VK} {tb : TS} {te ta : TE} {g : TG} {tt : TT} {tl : TA} {wi wi1 : TI} {v x y z : V} {n m : Nat} {lo i j : Int} {K : PySem.W.Frag} {P : Program} {w : World} {R : It → Hp → Prop} {J : It} {vs vs1 : List Nat}
def qRng1 (vs : List V) (H1 : Hp) (R : It → Hp → Prop) : Prop := ∃ j : Int, vs = [.int j] ∧ -(2 ^ 62) ≤ j ∧ j < 2 ^ 62 ∧ R (Itr 0 j.toNat) H1
def qRng2 (vs : List V) (H1 : Hp) (R : It → Hp → Prop) : Prop := ∃ i j : Int, vs = [.int i, .int j] ∧ (-(2 ^ 62) ≤ i ∧ i < 2 ^ 62 ∧ -(2 ^ 62) ≤ j ∧ j < 2 ^ 62) ∧ R (Itr i (j - i).toNat) H1
theorem s_rng1 (h : tl σ H fun vs H1 => qRng1 vs H1 R) : iRng1 tl σ H R := h
theorem s_rng2 (h : tl σ H fun vs H1 => qRng2 vs H1 R) : iRng2 tl σ H R := h
theorem u_rng1 (h1 : -1000000 ≤ j) (h2 : j ≤ 1000000) (q : R (Itr 0 j.toNat) H) : qRng1 [.int j] H R := ⟨j, rfl, by omega, by omega, q⟩
theorem u_rng2 (h1 : -1000000 ≤ i) (h2 : i ≤ 1000000) (h3 : -1000000 ≤ j) (h4 : j ≤ 1000000) (q : R (Itr i (j - i).toNat) H) : qRng2 [.int i, .int j] H R := ⟨i, j, rfl, ⟨by omega, by omega, by omega, by omega⟩, q⟩
def qList (K : PySem.W.Frag) (x : V) (H1 : Hp) (R : It → Hp → Prop) : Prop := ∃ a, x = .ref a ∧ (∃ xs, SqL K H1 a xs) ∧ R (Itl K a) H1
theorem s_list (h : te σ H fun x H1 => qList K x H1 R) : iList K te σ H R := h
theorem u_list {a : Addr} {xs : List V} (h : H a = some (.lst xs)) (q : R (Itl K a) H) : qList K (.ref a) H R := ⟨a, rfl, ⟨xs, SqL.of h⟩, q⟩
def qStr (x : V) (H1 : Hp) (R : It → Hp → Prop) : Prop := ∃ z, x = .str z ∧ R (Its z) H1
theorem s_istr (h : te σ H fun x H1 => qStr x H1 R) : iStr te σ H R := h
theorem u_str {z : Str} (q : R (Its z) H) : qStr (.str z) H R := ⟨z, rfl, q⟩
def qFor (J : It) (g : TG) (tb : TS) (D : Ends) (σ : L2.St) (H1 : Hp) : Prop := ∃ W : Nat → Nat → L2.St → Hp → Prop, (∃ m, W 0 m σ H1) ∧ ∀ i m σ H, W i m σ H →
  (J.stop i H ∧ D.nx σ H) ∨ (J.go i H ∧ ∃ N : L2.St → Hp → Prop, (∀ σ' H', N σ' H' → ∃ m', m' < m ∧ W (i + 1) m' σ' H') ∧ ∀ x H', J.yld i H x H' → g x σ H' fun σ2 H2 => tb { D with nx := N, ct := N, bk := D.nx } σ2 H2)
theorem s_for (h : wi σ H fun J H1 => qFor J g tb D σ H1) : tFor wi g tb D σ H := h
theorem u_range (Pv : Nat → L2.St → Hp → Prop) (h0 : Pv 0 σ H) (hs : ∀ i σ H, i < n → Pv i σ H → g (.int (lo + i)) σ H fun σ2 H2 => tb { D with nx := Pv (i + 1), ct := Pv (i + 1), bk := D.nx } σ2 H2) (hd : ∀ σ H, Pv n σ H → D.nx σ H) : qFor (Itr lo n) g tb D σ H := for_range Pv h0 hs hd
theorem u_items {α : Type} {Rr : Hp → V → α → Prop} {a : Addr} {as : List α} (Pv : Nat → L2.St → Hp → Prop) (h0 : Pv 0 σ H) (hl : ∀ i σ H, i ≤ as.length → Pv i σ H → LsR Rr H a as)
    (hs : ∀ i (c : α) x σ H, as[i]? = some c → Rr H x c → Pv i σ H → g x σ H fun σ2 H2 => tb { D with nx := Pv (i + 1), ct := Pv (i + 1), bk := D.nx } σ2 H2) (hd : ∀ σ H, Pv as.length σ H → D.nx σ H) : qFor (Itl K a) g tb D σ H := by
  obtain ⟨xs, e0, q0⟩ := hl 0 σ H (Nat.zero_le _) h0
  have hx := Paired.length q0
  refine ⟨fun i m σ H => m = as.length - i ∧ i ≤ as.length ∧ Pv i σ H, ⟨as.length, by simp, Nat.zero_le _, h0⟩, ?_⟩
  rintro i m σ H ⟨rfl, hi, p⟩
  obtain ⟨ys, e, q⟩ := hl i σ H hi p
  have hy := Paired.length q
  by_cases hlt : i < as.length
  · have hys : ys[i]? = some (ys[i]'(by omega)) := List.getElem?_eq_getElem _
    refine .inr ⟨⟨ys, _, SqL.of e, hys⟩, Pv (i + 1), fun σ' H' p' => ⟨as.length - (i + 1), by omega, rfl, hlt, p'⟩, fun x H' yl => ?_⟩
    obtain ⟨e', yl⟩ := yl
    subst e'
    have hxi := yl ys (SqL.of e)
    obtain ⟨c, hc, r⟩ := paired_at q hxi
    exact hs i c x σ H' hc r p
  · have e' : i = as.length := by omega
    subst e'
    exact .inl ⟨⟨ys, SqL.of e, by omega⟩, hd σ H p⟩
def rLenS : List V → Hp → VK → Prop := fun xs H Q => ∃ z, xs = [.str z] ∧ z.length ≤ sizeLine ∧ Q (.int z.length) H
theorem cr_lenS {X : Cx} : CallR X (.builtin "len") rLenS := call_len_str
theorem s_lenS {z : Str} (hz : z.length ≤ sizeLine) (q : Q (.int z.length) H) : rLenS [V.str z] H Q := ⟨z, rfl, hz, q⟩
def rAddS : R2 := fun x y H Q => ∃ i j, x = .str i ∧ y = .str j ∧ i.length + j.length ≤ sizeLine ∧ Q (.str (i ++ j)) H
theorem op_addS {X : Cx} : OpR X (binaryOp .Add) rAddS := op_add_str
theorem s_addS {a b : Str} (hz : a.length + b.length ≤ sizeLine) (q : Q (.str (a ++ b)) H) : rAddS (.str a) (.str b) H Q := ⟨a, b, rfl, rfl, hz, q⟩
theorem u_chars {s : Str} {cs : List Str} (hc : s.cps.toList.map (fun c => (⟨#[c]⟩ : Str)) = cs) (Pv : Nat → L2.St → Hp → Prop) (h0 : Pv 0 σ H)
    (hs : ∀ i (c : Str) σ H, cs[i]? = some c → Pv i σ H → g (.str c) σ H fun σ2 H2 => tb { D with nx := Pv (i + 1), ct := Pv (i + 1), bk := D.nx } σ2 H2) (hd : ∀ σ H, Pv cs.length σ H → D.nx σ H) : qFor (Its s) g tb D σ H := by
  have hl : s.cps.size = cs.length := by rw [← hc]; simp
  refine ⟨fun i m σ H => m = cs.length - i ∧ i ≤ cs.length ∧ Pv i σ H, ⟨cs.length, by simp, Nat.zero_le _, h0⟩, ?_⟩
  rintro i m σ H ⟨rfl, hi, p⟩
  by_cases hlt : i < cs.length
  · refine .inr ⟨(by omega : i < s.cps.size), Pv (i + 1), fun σ' H' p' => ⟨cs.length - (i + 1), by omega, rfl, hlt, p'⟩, fun x H' yl => ?_⟩
    obtain ⟨e', c, hc', rfl⟩ := yl
    subst e'
    refine hs i _ σ H' ?_ p
    rw [← hc, List.getElem?_map, Array.getElem?_toList, hc']
    rfl
  · have e' : i = cs.length := by omega
    subst e'
    exact .inl ⟨(by omega : s.cps.size ≤ _), hd σ H p⟩
theorem s_gsub {ti : TE} {t : TSet} {Q : L2.St → Hp → Prop} (h : te σ H fun o H1 => ti σ H1 fun i H2 => t o i v H2 fun H3 => Q σ H3) : gSub te ti t v σ H Q := h
theorem u_nset {κ : Type} [DecidableEq κ] {T : KT κ} {d : Addr} {kvs : List (κ × V)} {k : κ} {Q : Hp → Prop} (h : NTab T P w H d kvs) (hl : kvs.length < 100000) (hk : T.is H y k) (q : ∀ H', NTab T P w H' d (put kvs k v) → But d H H' → (∀ b, H' b = none → H b = none) → Q H') : rNSet T P w (.ref d) y v H Q :=
  ⟨d, kvs, k, rfl, h, hl, hk, fun H' a b c => q H' a b c⟩
theorem NTab.tupK {κ : Type} [DecidableEq κ] {T : KT κ} {d : Addr} {kvs : List (κ × V)} {H' : Hp} (h : NTab T P w H d kvs) (b : But d H H') : TupK H H' := by
  obtain ⟨o, ho⟩ := h
  exact b.tup ho.at_ fun xs z => NDo_ne z
theorem NTab.but {κ κ' : Type} [DecidableEq κ] [DecidableEq κ'] {T : KT κ} {T' : KT κ'} {d d' : Addr} {kvs : List (κ × V)} {kvs' : List (κ' × V)} {H' : Hp} (h : NTab T P w H d kvs) (h' : NTab T' P w H d' kvs') (b : But d' H H') (n : d ≠ d') : NTab T P w H' d kvs :=
  h.upD (fun o e => b _ _ n e) (h'.tupK b)
theorem LsR.but {κ' α : Type} [DecidableEq κ'] {T' : KT κ'} {R : Hp → V → α → Prop} {d' p : Addr} {kvs' : List (κ' × V)} {as : List α} {H' : Hp} (t : Tr R) (h : LsR R H p as) (h' : NTab T' P w H d' kvs') (b : But d' H H') : LsR R H' p as :=
  h.up2 t (h'.tupK b) fun xs e => b _ _ (fun z => by
    obtain ⟨o, ho⟩ := h'
    rw [z, ho.at_] at e
    cases e) e
def qWhile (c : TT) (tb : TS) (D : Ends) (σ : L2.St) (H : Hp) : Prop := tWhile c tb D σ H
/-- the question of a comprehension's walk, any body -/
theorem w_range {lo : Int} {n : Nat} {B : V → Hp → (Hp → Prop) → Prop} {Qd : Hp → Prop} (Pv : Nat → Hp → Prop) (h0 : Pv 0 H) (hs : ∀ i H, i < n → Pv i H → B (.int (lo + i)) H (Pv (i + 1))) (hd : ∀ H, Pv n H → Qd H) :
    ∃ W : Nat → Nat → Hp → Prop, (∃ m, W 0 m H) ∧ ∀ i m H, W i m H → ((Itr lo n).stop i H ∧ Qd H) ∨ ((Itr lo n).go i H ∧ ∃ Nx : Hp → Prop, (∀ H', Nx H' → ∃ m', m' < m ∧ W (i + 1) m' H') ∧ ∀ x H', (Itr lo n).yld i H x H' → B x H' Nx) := by
  refine ⟨fun i m H => m = n - i ∧ i ≤ n ∧ Pv i H, ⟨n, by simp, Nat.zero_le _, h0⟩, ?_⟩
  rintro i m H ⟨rfl, hi, p⟩
  by_cases hlt : i < n
  · refine .inr ⟨hlt, Pv (i + 1), fun H' p' => ⟨n - (i + 1), by omega, rfl, hlt, p'⟩, fun x H' y => ?_⟩
    obtain ⟨e, rfl⟩ := y
    subst e
    exact hs i _ hlt p
  · have e : i = n := by omega
    subst e
    exact .inl ⟨Nat.le_refl _, hd H p⟩
theorem w_items {α : Type} {Rr : Hp → V → α → Prop} {a : Addr} {as : List α} {B : V → Hp → (Hp → Prop) → Prop} {Qd : Hp → Prop} (Pv : Nat → Hp → Prop) (h0 : Pv 0 H) (hl : ∀ i H, i ≤ as.length → Pv i H → LsR Rr H a as)
    (hs : ∀ i (c : α) x H, as[i]? = some c → Rr H x c → Pv i H → B x H (Pv (i + 1))) (hd : ∀ H, Pv as.length H → Qd H) :
    ∃ W : Nat → Nat → Hp → Prop, (∃ m, W 0 m H) ∧ ∀ i m H, W i m H → ((Itl K a).stop i H ∧ Qd H) ∨ ((Itl K a).go i H ∧ ∃ Nx : Hp → Prop, (∀ H', Nx H' → ∃ m', m' < m ∧ W (i + 1) m' H') ∧ ∀ x H', (Itl K a).yld i H x H' → B x H' Nx) := by
  refine ⟨fun i m H => m = as.length - i ∧ i ≤ as.length ∧ Pv i H, ⟨as.length, by simp, Nat.zero_le _, h0⟩, ?_⟩
  rintro i m H ⟨rfl, hi, p⟩
  obtain ⟨ys, e, q⟩ := hl i H hi p
  have hy := Paired.length q
  by_cases hlt : i < as.length
  · have hys : ys[i]? = some (ys[i]'(by omega)) := List.getElem?_eq_getElem _
    refine .inr ⟨⟨ys, _, SqL.of e, hys⟩, Pv (i + 1), fun H' p' => ⟨as.length - (i + 1), by omega, rfl, hlt, p'⟩, fun x H' yl => ?_⟩
    obtain ⟨e', yl⟩ := yl
    subst e'
    have hxi := yl ys (SqL.of e)
    obtain ⟨c, hc, r⟩ := paired_at q hxi
    exact hs i c x H' hc r p
  · have e' : i = as.length := by omega
    subst e'
    exact .inl ⟨⟨ys, SqL.of e, by omega⟩, hd H p⟩
def qLc (J : It) (g : TG) (tt : TT) (te : TE) (vs : List Nat) (σ : L2.St) (H1 : Hp) (Q : VK) : Prop := ∀ D, H1 D = none → ∃ W : Nat → Nat → Hp → Prop, (∃ m, W 0 m (upd H1 D (.lst []))) ∧ ∀ i m H, W i m H →
  (J.stop i H ∧ Q (.ref D) H) ∨ (J.go i H ∧ ∃ Nx : Hp → Prop, (∀ H', Nx H' → ∃ m', m' < m ∧ W (i + 1) m' H') ∧ ∀ x H', J.yld i H x H' → g x (wipe σ vs) H' fun σ2 H2 => wipe σ2 vs = wipe σ vs ∧ tt σ2 H2 fun b H3 =>
    if b = true then te σ2 H3 fun y H4 => qAcc D y H4 Nx else Nx H3)
theorem s_lc (h : wi σ H fun J H1 => qLc J g tt te vs σ H1 Q) : tLc wi g tt te vs σ H Q := h
def qLc2 (J : It) (g : TG) (tt : TT) (wi1 : TI) (g1 : TG) (tt1 : TT) (te : TE) (vs vs1 : List Nat) (σ : L2.St) (H1 : Hp) (Q : VK) : Prop := ∀ D, H1 D = none → ∃ W : Nat → Nat → Hp → Prop, (∃ m, W 0 m (upd H1 D (.lst []))) ∧ ∀ i m H, W i m H →
  (J.stop i H ∧ Q (.ref D) H) ∨ (J.go i H ∧ ∃ Nx : Hp → Prop, (∀ H', Nx H' → ∃ m', m' < m ∧ W (i + 1) m' H') ∧ ∀ x H', J.yld i H x H' → g x (wipe σ vs) H' fun σ2 H2 => wipe σ2 vs = wipe σ vs ∧ tt σ2 H2 fun b H3 =>
    if b = true then wi1 σ2 H3 fun J1 H4 => ∃ W1 : Nat → Nat → Hp → Prop, (∃ m, W1 0 m H4) ∧ ∀ j k H, W1 j k H →
      (J1.stop j H ∧ Nx H) ∨ (J1.go j H ∧ ∃ Nx1 : Hp → Prop, (∀ H', Nx1 H' → ∃ k', k' < k ∧ W1 (j + 1) k' H') ∧ ∀ x H', J1.yld j H x H' → g1 x (wipe σ2 vs1) H' fun σ3 H5 => wipe σ3 vs1 = wipe σ2 vs1 ∧ tt1 σ3 H5 fun b H6 =>
        if b = true then te σ3 H6 fun y H7 => qAcc D y H7 Nx1 else Nx1 H6)
    else Nx H3)
theorem s_lc2 {g1 : TG} {tt1 : TT} (h : wi σ H fun J H1 => qLc2 J g tt wi1 g1 tt1 te vs vs1 σ H1 Q) : tLc2 wi g tt wi1 g1 tt1 te vs vs1 σ H Q := h
theorem s_yes {Q : Bool → Hp → Prop} (q : Q true H) : tYes σ H Q := q
theorem s_bm {T : String} {r : V → List V → Hp → VK → Prop} (h : te σ H fun x H1 => qBM K T r tl σ x H1 Q) : tBM K T r te tl σ H Q := h
theorem u_bmL {r : V → List V → Hp → VK → Prop} {p : Addr} {xs : List V} (h : H p = some (.lst xs)) (q : tl σ H fun xs H2 => r (.ref p) xs H2 Q) : qBM K "list" r tl σ (.ref p) H Q := ⟨s_lty h, q⟩
theorem u_append {p : Addr} {α : Type} {Rr : Hp → V → α → Prop} {H0 : Hp} {as : List α} {a : α} (t : Tr Rr) (b : Bld Rr H0 H p as) (r : Rr H v a) (hl : as.length < 100000) (q : ∀ H1, But p H H1 → Bld Rr H0 H1 p (as ++ [a]) → (∀ b, H1 b = none → H b = none) → Q .non H1) : rAppend (.ref p) [v] H Q := by
  obtain ⟨xs, e, qq⟩ := id b.ls
  have hx := Paired.length qq
  refine s_append e (by omega) fun H1 h1 h2 h3 => q H1 h1 (b.push t h1 (fun ys e2 => ?_) r) h3
  rw [e] at e2
  cases e2
  exact h2
end
end Cp
end
section
namespace Cp
open PySem PySem.Spec PyProof.Rows L2
local macro_rules | `(tactic| walk_at "f") => `(tactic| first | assumption | (refine' keep_of ?_ (by assumption); walk_at "f") | (refine Cn.up ?_ (by assumption); walk_at "f") | (refine Pr.up ?_ (by assumption); walk_at "f") | (refine NTab.up ?_ (by assumption); walk_at "f") | (refine LsR.up (by first | exact trC | exact trP | exact trI | assumption) ?_ (by assumption); walk_at "f"))
local macro_rules | `(tactic| walk_at "sm") => `(tactic| first | exact Same.refl _ | assumption | (refine same_tr ?_ (by assumption); walk_at "sm"))
local macro_rules | `(tactic| walk_at "fr") => `(tactic| first | assumption | (refine nof ?_ (by assumption); walk_at "fr"))
local macro_rules | `(tactic| walk_at "s1") => `(tactic| first
  | with_reducible refine s_seq ?_ | with_reducible refine s_ret ?_ | with_reducible refine s_asg ?_ | with_reducible refine s_if ?_ | with_reducible refine s_next ?_ | with_reducible refine s_drop ?_
  | ((with_reducible refine' s_var ?h ?q); (case h => exact rfl)) | with_reducible refine s_c ?_ | with_reducible refine s_op ?_ | with_reducible refine s_I0 ?_
  | with_reducible refine s_eqI ?_ | with_reducible refine s_neI ?_ | with_reducible refine s_eqS ?_ | with_reducible refine s_neS ?_
  | with_reducible refine s_test ?_ | with_reducible refine s_tB ?_ | with_reducible refine s_bl ?_ | with_reducible refine s_and ?_ | with_reducible refine s_or ?_ | with_reducible refine s_not ?_ | with_reducible refine s_andV ?_ | with_reducible refine s_chain ?_
  | with_reducible refine s_cons ?_ | with_reducible refine s_nil ?_ | with_reducible refine s_tup ?_ | with_reducible refine s_lst ?_
  | with_reducible refine s_CB ?_ | with_reducible refine s_call ?_ | with_reducible refine s_gname ?_ | with_reducible refine s_gcons ?_ | with_reducible refine s_gnil ?_
  | ((with_reducible refine' s_gtup ?h ?e ?q); (case h => walk_at "f"); (case e => exact rfl))
  | ((with_reducible refine' s_ixT ?h ?e ?q); (case h => walk_at "f"); (case e => exact rfl))
  | (with_reducible refine s_BM ?_) | ((with_reducible refine s_new ?z ?q); (case z => exact rfl); intro p H1 hp hs hv))
local macro_rules | `(tactic| walk_at "s2") => `(tactic| first
  | walk_at "s1" | with_reducible refine iteF ?_ | with_reducible refine iteT ?_ | with_reducible refine u_tup ?_ | with_reducible refine u_lst ?_ | ((with_reducible refine u_newT ?z ?q); (case z => exact rfl); intro p H1 hp hs hv) | ((with_reducible refine u_newL ?z ?q); (case z => exact rfl); intro p H1 hp hs hv) | with_reducible refine s_min2 ?_ | with_reducible refine s_gsub ?_ | ((with_reducible refine s_lenS ?z ?q); (case z => assumption)) | with_reducible refine s_rng1 ?_ | with_reducible refine s_rng2 ?_ | with_reducible refine s_list ?_ | with_reducible refine s_istr ?_ | with_reducible refine u_str ?_ | with_reducible refine s_for ?_ | with_reducible refine s_lc ?_ | with_reducible refine s_lc2 ?_ | with_reducible refine s_yes ?_ | with_reducible refine s_bm ?_ | with_reducible refine s_mth ?_ | with_reducible refine s_abs ?_ | with_reducible refine s_int1 ?_ | with_reducible refine s_nget ?_ | with_reducible refine s_fld ?_
  | ((with_reducible refine' s_lenL ?h ?q); (case h => walk_at "f"))
  | ((with_reducible refine' s_lenT ?h ?q); (case h => walk_at "f")))
local macro_rules | `(tactic| walk_at "go") => `(tactic| repeat walk_at "s2")
section
variable {P : Program} {w : World} {K : PySem.W.Frag} {mg : Str → Option Value} {base : Heap} {C : Addr}
def corL (W Hh : Nat) (i : Nat) : List Pt := (List.range i).flatMap fun (x : Nat) => (List.range (Hh + 1)).map fun (y : Nat) => ((x : Int), (y : Int))
theorem corL_len (W Hh i : Nat) : (corL W Hh i).length = i * (Hh + 1) := by
  unfold corL
  induction i with
  | zero => simp
  | succ i ih => rw [List.range_succ (n := i), List.flatMap_append, List.length_append, ih]; simp [Nat.succ_mul]
theorem corL_succ (W Hh i : Nat) : corL W Hh (i + 1) = corL W Hh i ++ (List.range (Hh + 1)).map fun (y : Nat) => ((i : Int), (y : Int)) := by
  unfold corL
  rw [List.range_succ (n := i), List.flatMap_append]
  simp
def spCorners : Sp := fun vs H Q _ => ∃ vb, ∃ W Hh : Nat, vs = [vb] ∧ Cn H vb ((W : Int), (Hh : Int)) ∧ W ≤ 8 ∧ Hh ≤ 8 ∧ ∀ p H', H p = none → Same H H' → LsR Cn H' p (cornersL W Hh) → Q (.ref p) H'
theorem sc_corners_of : FnScope ["board", "width", "height", "x", "y"] ["board"] (defScope s_corners_of) := ⟨rfl, rfl, rfl, by decide +kernel, rfl, by decide +kernel, by decide +kernel⟩
theorem c_corners_of (g : Gs mg)  {f : Addr} (hm : mg "corners_of" = some (.ref f)) (F : Fd K "corners_of" "corners_of" s_corners_of f) : Cal P w K mg base 1 "corners_of" ["board"] spCorners := by
  refine Cal.mk' hm (fn_mk (k := 0) F sc_corners_of (fun _ _ _ _ _ _ us hl => match us, hl with | [_], _ => rfl) (fun vs H Q E h => ?_) (fun cdv A outer s H vs Q E hr h => ?_))
  · obtain ⟨_, _, _, rfl, _⟩ := h; rfl
  · obtain ⟨vb, W, Hh, rfl, ⟨tb, rfl, hb⟩, hW, hH, k⟩ := h
    refine ⟨_, (pss_cons (ps_asg (pv 0) (pg_tup rfl (pgs_cons (pg_name (i := 1) sc_corners_of.nd rfl (.inl rfl)) (pgs_cons (pg_name (i := 2) sc_corners_of.nd rfl (.inr rfl)) pgs_nil))))
      (pss_one (ps_ret (pe_lc2 (own := [("x", 3), ("y", 4)]) (g := gName 3) (g1 := gName 4) (vs1 := [4]) rfl sc_corners_of.nd (pi_range1 (by rfl) g.range (pa_cons (pe_op op_add (pv 1) (pe_int)) pa_nil)) (blkOk_by (own := [("x", 3), ("y", 4)]) (N := ["board", "width", "height", "x", "y"]) (sc := defScope s_corners_of) (by decide +kernel)) (by decide) (fun _ _ _ _ _ => pg_name (i := 3) sc_corners_of.nd rfl (Or.inl rfl)) (fun _ _ _ _ _ => pts_nil) (fun _ _ _ _ _ => pi_range1 (by rfl) g.range (pa_cons (pe_op op_add (pv 2) (pe_int)) pa_nil)) (fun _ _ _ _ _ => pg_name (i := 4) sc_corners_of.nd rfl (Or.inl rfl)) (fun _ _ _ _ _ => pts_nil) (fun _ _ _ _ _ => pe_utup (pa_cons (pv 3) (pa_cons (pv 4) pa_nil))))))), ?_⟩
    walk_at "go"
    refine u_rng1 (by omega) (by omega) ?_
    intro D hD
    refine w_range (fun i H1 => i ≤ W + 1 ∧ Bld Cn H H1 D (corL W Hh i)) ⟨Nat.zero_le _, ⟨Same.new hD, hD, [], upd_same, .nil⟩⟩ (fun i H1 hi hb1 => ?_) (fun H1 hb1 => ?_)
    · obtain ⟨_, hb1⟩ := hb1
      walk_at "go"
      refine ⟨rfl, ?_⟩
      walk_at "go"
      refine u_rng1 (by omega) (by omega) ?_
      refine w_range (fun j H2 => j ≤ Hh + 1 ∧ Bld Cn H H2 D (corL W Hh i ++ (List.range j).map fun (y : Nat) => ((i : Int), (y : Int)))) ⟨Nat.zero_le _, by simpa using hb1⟩ (fun j H2 hj hb2 => ?_) (fun H2 hb2 => ?_)
      · obtain ⟨_, hb2⟩ := hb2
        walk_at "go"
        refine ⟨rfl, ?_⟩
        walk_at "go"
        have hi2 : i < W + 1 := by omega
        have hj2 : j < Hh + 1 := by omega
        refine hb2.lc trC (by walk_at "sm") (a := ((i : Int), (j : Int))) ⟨_, rfl, ?_⟩ ?_ fun H5 _ hb5 => ⟨by omega, ?_⟩
        · have e1 : (0 : Int) + (i : Nat) = (i : Int) := by simp
          have e2 : (0 : Int) + (j : Nat) = (j : Int) := by simp
          show _ = some (HO.tup [V.int (i : Int), V.int (j : Int)])
          rw [← e1, ← e2]
          assumption
        · rw [List.length_append, corL_len, List.length_map, List.length_range]
          have : i * (Hh + 1) ≤ 9 * 9 := Nat.mul_le_mul (by omega) (by omega)
          omega
        · rw [List.range_succ, List.map_append, ← List.append_assoc]
          exact hb5
      · obtain ⟨_, hb2⟩ := hb2
        refine ⟨by omega, ?_⟩
        have e : ((Hh : Int) + 1).toNat = Hh + 1 := by omega
        rw [e] at hb2
        rw [corL_succ]
        exact hb2
    · obtain ⟨_, s, f, xs, h, q⟩ := hb1
      have e : ((W : Int) + 1).toNat = W + 1 := by omega
      rw [e] at q
      exact k D _ f s ⟨xs, h, q⟩

def rgI (lo hi : Int) : List Int := (List.range (hi - lo).toNat).map fun (i : Nat) => lo + (i : Int)
def rowR (p : Pt) (x lo hi : Int) : List Pq := (rgI lo hi).map fun y => (p, (x, y))
def atR (p : Pt) (W lo hi : Int) : List Pq := (rgI (p.1 + 1) (W + 1)).flatMap fun x => rowR p x lo hi
def risingL (W Hh : Nat) : List Pq := (cornersL W Hh).flatMap fun p => atR p W (p.2 + 1) (Hh + 1)
def fallingL (W Hh : Nat) : List Pq := (cornersL W Hh).flatMap fun p => atR p W 0 p.2
theorem take_flat {α β : Type} (f : α → List β) (as : List α) (i : Nat) (a : α) (h : as[i]? = some a) : (as.take (i + 1)).flatMap f = (as.take i).flatMap f ++ f a := by
  rw [List.take_add_one, h]
  simp [List.flatMap_append]
theorem flat_len {α β : Type} {f : α → List β} {n : Nat} : ∀ (as : List α), (∀ a ∈ as, (f a).length ≤ n) → (as.flatMap f).length ≤ as.length * n
  | [], _ => by simp
  | a :: as, h => by
    have h1 := h a (by simp)
    have h2 := flat_len as fun b hb => h b (List.mem_cons_of_mem _ hb)
    rw [List.flatMap_cons, List.length_append, List.length_cons, Nat.succ_mul]
    omega
theorem cornersL_mem {W Hh : Nat} {c : Pt} : c ∈ cornersL W Hh ↔ 0 ≤ c.1 ∧ c.1 ≤ W ∧ 0 ≤ c.2 ∧ c.2 ≤ Hh := by
  unfold cornersL
  obtain ⟨a, b⟩ := c
  simp only [List.mem_flatMap, List.mem_map, List.mem_range, Prod.mk.injEq]
  constructor
  · rintro ⟨x, hx, y, hy, rfl, rfl⟩
    omega
  · rintro ⟨h1, h2, h3, h4⟩
    exact ⟨a.toNat, by omega, b.toNat, by omega, by omega, by omega⟩
theorem cornersL_len (W Hh : Nat) : (cornersL W Hh).length = (W + 1) * (Hh + 1) := corL_len W Hh (W + 1)
theorem rowR_len (p : Pt) (x lo hi : Int) : (rowR p x lo hi).length = (hi - lo).toNat := by simp [rowR, rgI]
theorem rgI_len (lo hi : Int) : (rgI lo hi).length = (hi - lo).toNat := by simp [rgI]
theorem rgI_mem {lo hi x : Int} : x ∈ rgI lo hi ↔ lo ≤ x ∧ x < hi := by
  unfold rgI
  simp only [List.mem_map, List.mem_range]
  constructor
  · rintro ⟨i, hi, rfl⟩; omega
  · rintro ⟨h1, h2⟩
    exact ⟨(x - lo).toNat, by omega, by omega⟩
theorem rgI_at {lo hi : Int} {i : Nat} (h : i < (hi - lo).toNat) : (rgI lo hi)[i]? = some (lo + (i : Int)) := by
  unfold rgI
  rw [List.getElem?_map, List.getElem?_range h]
  rfl
theorem rgI_take {lo hi : Int} {i : Nat} (h : i < (hi - lo).toNat) : (rgI lo hi).take (i + 1) = (rgI lo hi).take i ++ [lo + (i : Int)] := by
  rw [List.take_add_one, rgI_at h]
  rfl
theorem rgI_all {lo hi : Int} : (rgI lo hi).take (hi - lo).toNat = rgI lo hi := List.take_of_length_le (by rw [rgI_len]; exact Nat.le_refl _)
/-- the letters' pairs at p up to a column, to a row -/
def accR (cs : List Pt) (W : Int) (lo hi : Pt → Int) : List Pq := cs.flatMap fun p => atR p W (lo p) (hi p)
theorem accR_len {W Hh : Nat} {lo hi : Pt → Int} {i : Nat} (hW : W ≤ 8) (hH : Hh ≤ 8) (hh : ∀ p, p ∈ cornersL W Hh → (hi p - lo p).toNat ≤ 9) : (accR ((cornersL W Hh).take i) W lo hi).length ≤ 81 * 81 := by
  have h1 : ((cornersL W Hh).take i).length ≤ 81 := by
    rw [List.length_take, cornersL_len]
    have : (W + 1) * (Hh + 1) ≤ 9 * 9 := Nat.mul_le_mul (by omega) (by omega)
    omega
  refine Nat.le_trans (flat_len (n := 81) _ fun p hp => ?_) (Nat.mul_le_mul_right _ h1)
  have hp' := List.mem_of_mem_take hp
  unfold atR
  refine Nat.le_trans (flat_len (n := 9) _ fun x _ => ?_) ?_
  · rw [rowR_len]; exact hh p hp'
  · rw [rgI_len]
    have := (cornersL_mem.mp hp')
    have : ((W : Int) + 1 - (p.1 + 1)).toNat ≤ 9 := by omega
    exact Nat.mul_le_mul_right 9 this
def spRP (l : Nat → Nat → List Pq) : Sp := fun vs H Q _ => ∃ vb, ∃ W Hh : Nat, vs = [vb] ∧ Cn H vb ((W : Int), (Hh : Int)) ∧ W ≤ 8 ∧ Hh ≤ 8 ∧ ∀ p H', H p = none → Same H H' → LsR Pr H' p (l W Hh) → Q (.ref p) H'
theorem sc_rising_pairs : FnScope ["board", "found", "p", "x", "y"] ["board"] (defScope s_rising_pairs) := ⟨rfl, rfl, rfl, by decide +kernel, rfl, by decide +kernel, by decide +kernel⟩
theorem c_rising_pairs (g : Gs mg) (c_corners_of : Cal P w K mg base 1 "corners_of" ["board"] spCorners) {f : Addr} (hm : mg "rising_pairs" = some (.ref f)) (F : Fd K "rising_pairs" "rising_pairs" s_rising_pairs f) : Cal P w K mg base 2 "rising_pairs" ["board"] (spRP risingL) := by
  refine Cal.mk' hm (fn_mk (k := 1) F sc_rising_pairs (fun _ _ _ _ _ _ us hl => match us, hl with | [_], _ => rfl) (fun vs H Q E h => ?_) (fun cdv A outer s H vs Q E hr h => ?_))
  · obtain ⟨_, _, _, rfl, _⟩ := h; rfl
  · obtain ⟨vb, W, Hh, rfl, ⟨tb, rfl, hb⟩, hW, hH, k⟩ := h
    refine ⟨_, (pss_cons (ps_asg (pe_ulst pa_nil) (pg_name (i := 1) sc_rising_pairs.nd rfl (.inl rfl)))
      (pss_cons (ps_for PassesOwn.never rfl (pi_list (pc c_corners_of hr (pa_cons (pv 0) pa_nil))) (pg_name (i := 2) sc_rising_pairs.nd rfl (.inl rfl)) (pss_one (ps_for PassesOwn.never rfl (pi_range2 (by rfl) g.range (pa_cons (pe_op op_add (pe_ix ix_tup (pv 2) (pe_int) (fun _ _ => rfl)) (pe_int)) (pa_cons (pe_op op_add (pe_ix ix_tup (pv 0) (pe_int) (fun _ _ => rfl)) (pe_int)) pa_nil))) (pg_name (i := 3) sc_rising_pairs.nd rfl (.inl rfl)) (pss_one (ps_for PassesOwn.never rfl (pi_range2 (by rfl) g.range (pa_cons (pe_op op_add (pe_ix ix_tup (pv 2) (pe_int) (fun _ _ => rfl)) (pe_int)) (pa_cons (pe_op op_add (pe_ix ix_tup (pv 0) (pe_int) (fun _ _ => rfl)) (pe_int)) pa_nil))) (pg_name (i := 4) sc_rising_pairs.nd rfl (.inl rfl)) (pss_one (ps_expr (pe_bm PySem.F.plainAttrs_list PySem.F.slot_list_append PySem.F.type_list_append mt_append (pv 1) (pa_cons (pe_utup (pa_cons (pv 2) (pa_cons (pe_utup (pa_cons (pv 3) (pa_cons (pv 4) pa_nil))) pa_nil))) pa_nil)))))))))
      (pss_one (ps_ret (pv 1))))), ?_⟩
    walk_at "go"
    rename_i D H1 hD hs1 hl1
    refine ⟨_, W, Hh, rfl, ⟨tb, rfl, by walk_at "f"⟩, hW, hH, fun cl H2 hcl hs2 hcs => ?_⟩
    have hDcl : cl ≠ D := fun z => by rw [z, hl1] at hcl; cases hcl
    have B0 : Bld Pr H H2 D [] := (Bld.new (Same.refl _) hD hs1 hl1).up trP hs2
    obtain ⟨xs0, hx0, _⟩ := id hcs
    refine u_list hx0 ?_
    refine u_items (fun i σ H3 => ∃ a b c, σ = [some (.ref tb), some (.ref D), a, b, c] ∧ Bld Pr H H3 D (accR ((cornersL W Hh).take i) W (fun p => p.2 + 1) fun _ => Hh + 1) ∧ LsR Cn H3 cl (cornersL W Hh)) ⟨_, _, _, rfl, B0, hcs⟩ (fun i σ H3 _ h => by obtain ⟨_, _, _, _, _, h⟩ := h; exact h) (fun i p x σ H3 hi hx h => ?_) (fun σ H3 h => ?_)
    · obtain ⟨a, b, c, rfl, B, hcs3⟩ := h
      obtain ⟨tp, rfl, hp⟩ := hx
      have hpm : p ∈ cornersL W Hh := List.mem_of_getElem? hi
      obtain ⟨g1, g2, g3, g4⟩ := cornersL_mem.mp hpm
      have hb3 : H3 tb = some (.tup [.int W, .int Hh]) := B.same _ _ hb
      walk_at "go"
      refine u_rng2 (by omega) (by omega) (by omega) (by omega) ?_
      refine u_range (fun j σ H4 => ∃ b c, σ = [some (.ref tb), some (.ref D), some (.ref tp), b, c] ∧ Bld Pr H H4 D (accR ((cornersL W Hh).take i) W (fun p => p.2 + 1) (fun _ => Hh + 1) ++ ((rgI (p.1 + 1) (W + 1)).take j).flatMap fun x => rowR p x (p.2 + 1) (Hh + 1)) ∧ LsR Cn H4 cl (cornersL W Hh) ∧ H4 tp = some (.tup [.int p.1, .int p.2])) ⟨_, _, rfl, by simpa using B, hcs3, hp⟩ (fun j σ H4 hj h => ?_) (fun σ H4 h => ?_)
      · obtain ⟨b, c, rfl, B4, hcs4, hp4⟩ := h
        have hb4 : H4 tb = some (.tup [.int W, .int Hh]) := B4.same _ _ hb
        walk_at "go"
        refine u_rng2 (by omega) (by omega) (by omega) (by omega) ?_
        refine u_range (fun m σ H5 => ∃ c, σ = [some (.ref tb), some (.ref D), some (.ref tp), some (.int (p.1 + 1 + (j : Int))), c] ∧ Bld Pr H H5 D (accR ((cornersL W Hh).take i) W (fun p => p.2 + 1) (fun _ => Hh + 1) ++ (((rgI (p.1 + 1) (W + 1)).take j).flatMap fun x => rowR p x (p.2 + 1) (Hh + 1)) ++ ((rgI (p.2 + 1) (Hh + 1)).take m).map fun y => (p, (p.1 + 1 + (j : Int), y))) ∧ LsR Cn H5 cl (cornersL W Hh) ∧ H5 tp = some (.tup [.int p.1, .int p.2])) ⟨_, rfl, by simpa using B4, hcs4, hp4⟩ (fun m σ H5 hm h => ?_) (fun σ H5 h => ?_)
        · obtain ⟨c, rfl, B5, hcs5, hp5⟩ := h
          obtain ⟨ys5, hy5, _⟩ := id B5.ls
          walk_at "go"
          refine u_bmL hy5 ?_
          walk_at "go"
          refine u_append trP (B5.up trP (by walk_at "sm")) (a := (p, (p.1 + 1 + (j : Int), p.2 + 1 + (m : Int)))) ⟨_, _, _, rfl, by assumption, ⟨_, rfl, by walk_at "f"⟩, ⟨_, rfl, by walk_at "f"⟩⟩ ?_ fun H6 bu B6 _ => ?_
          · have l1 := accR_len (W := W) (Hh := Hh) (lo := fun p => p.2 + 1) (hi := fun _ => (Hh : Int) + 1) (i := i) hW hH fun p hp => by
              have := cornersL_mem.mp hp
              show ((Hh : Int) + 1 - (p.2 + 1)).toNat ≤ 9
              omega
            have l2 : (((rgI (p.1 + 1) (W + 1)).take j).flatMap fun x => rowR p x (p.2 + 1) (Hh + 1)).length ≤ 9 * 9 := by
              refine Nat.le_trans (flat_len (n := 9) _ fun x _ => by rw [rowR_len]; omega) (Nat.mul_le_mul_right 9 ?_)
              rw [List.length_take, rgI_len]
              omega
            have l3 : ((rgI (p.2 + 1) (Hh + 1)).take m).length ≤ 9 := by
              rw [List.length_take, rgI_len]
              omega
            rw [List.length_append, List.length_append, List.length_map]
            omega
          · have tk := bu.tup (o := .lst ys5) (by walk_at "f") fun _ z => by cases z
            refine ⟨_, rfl, ?_, (show LsR Cn _ cl (cornersL W Hh) from by walk_at "f").up2 trC tk fun xs e => bu _ _ hDcl e, tk _ _ (by walk_at "f")⟩
            rw [rgI_take hm, List.map_append, ← List.append_assoc]
            exact B6
        · obtain ⟨c, rfl, B5, hcs5, hp5⟩ := h
          rw [rgI_all] at B5
          refine ⟨_, _, rfl, ?_, hcs5, hp5⟩
          rw [take_flat _ _ _ _ (rgI_at hj), ← List.append_assoc]
          exact B5
      · obtain ⟨b, c, rfl, B4, hcs4, hp4⟩ := h
        rw [rgI_all] at B4
        refine ⟨_, _, _, rfl, ?_, hcs4⟩
        unfold accR
        rw [take_flat _ _ _ _ hi]
        exact B4
    · obtain ⟨a, b, c, rfl, B, hcs3⟩ := h
      rw [List.take_length] at B
      walk_at "go"
      exact k D _ B.fresh B.same B.ls
theorem sc_falling_pairs : FnScope ["board", "found", "p", "x", "y"] ["board"] (defScope s_falling_pairs) := ⟨rfl, rfl, rfl, by decide +kernel, rfl, by decide +kernel, by decide +kernel⟩
theorem c_falling_pairs (g : Gs mg) (c_corners_of : Cal P w K mg base 1 "corners_of" ["board"] spCorners) {f : Addr} (hm : mg "falling_pairs" = some (.ref f)) (F : Fd K "falling_pairs" "falling_pairs" s_falling_pairs f) : Cal P w K mg base 2 "falling_pairs" ["board"] (spRP fallingL) := by
  refine Cal.mk' hm (fn_mk (k := 1) F sc_falling_pairs (fun _ _ _ _ _ _ us hl => match us, hl with | [_], _ => rfl) (fun vs H Q E h => ?_) (fun cdv A outer s H vs Q E hr h => ?_))
  · obtain ⟨_, _, _, rfl, _⟩ := h; rfl
  · obtain ⟨vb, W, Hh, rfl, ⟨tb, rfl, hb⟩, hW, hH, k⟩ := h
    refine ⟨_, (pss_cons (ps_asg (pe_ulst pa_nil) (pg_name (i := 1) sc_falling_pairs.nd rfl (.inl rfl)))
      (pss_cons (ps_for PassesOwn.never rfl (pi_list (pc c_corners_of hr (pa_cons (pv 0) pa_nil))) (pg_name (i := 2) sc_falling_pairs.nd rfl (.inl rfl)) (pss_one (ps_for PassesOwn.never rfl (pi_range2 (by rfl) g.range (pa_cons (pe_op op_add (pe_ix ix_tup (pv 2) (pe_int) (fun _ _ => rfl)) (pe_int)) (pa_cons (pe_op op_add (pe_ix ix_tup (pv 0) (pe_int) (fun _ _ => rfl)) (pe_int)) pa_nil))) (pg_name (i := 3) sc_falling_pairs.nd rfl (.inl rfl)) (pss_one (ps_for PassesOwn.never rfl (pi_range1 (by rfl) g.range (pa_cons (pe_ix ix_tup (pv 2) (pe_int) (fun _ _ => rfl)) pa_nil)) (pg_name (i := 4) sc_falling_pairs.nd rfl (.inl rfl)) (pss_one (ps_expr (pe_bm PySem.F.plainAttrs_list PySem.F.slot_list_append PySem.F.type_list_append mt_append (pv 1) (pa_cons (pe_utup (pa_cons (pv 2) (pa_cons (pe_utup (pa_cons (pv 3) (pa_cons (pv 4) pa_nil))) pa_nil))) pa_nil)))))))))
      (pss_one (ps_ret (pv 1))))), ?_⟩
    walk_at "go"
    rename_i D H1 hD hs1 hl1
    refine ⟨_, W, Hh, rfl, ⟨tb, rfl, by walk_at "f"⟩, hW, hH, fun cl H2 hcl hs2 hcs => ?_⟩
    have hDcl : cl ≠ D := fun z => by rw [z, hl1] at hcl; cases hcl
    have B0 : Bld Pr H H2 D [] := (Bld.new (Same.refl _) hD hs1 hl1).up trP hs2
    obtain ⟨xs0, hx0, _⟩ := id hcs
    refine u_list hx0 ?_
    refine u_items (fun i σ H3 => ∃ a b c, σ = [some (.ref tb), some (.ref D), a, b, c] ∧ Bld Pr H H3 D (accR ((cornersL W Hh).take i) W (fun _ => 0) fun p => p.2) ∧ LsR Cn H3 cl (cornersL W Hh)) ⟨_, _, _, rfl, B0, hcs⟩ (fun i σ H3 _ h => by obtain ⟨_, _, _, _, _, h⟩ := h; exact h) (fun i p x σ H3 hi hx h => ?_) (fun σ H3 h => ?_)
    · obtain ⟨a, b, c, rfl, B, hcs3⟩ := h
      obtain ⟨tp, rfl, hp⟩ := hx
      have hpm : p ∈ cornersL W Hh := List.mem_of_getElem? hi
      obtain ⟨g1, g2, g3, g4⟩ := cornersL_mem.mp hpm
      have hb3 : H3 tb = some (.tup [.int W, .int Hh]) := B.same _ _ hb
      walk_at "go"
      refine u_rng2 (by omega) (by omega) (by omega) (by omega) ?_
      refine u_range (fun j σ H4 => ∃ b c, σ = [some (.ref tb), some (.ref D), some (.ref tp), b, c] ∧ Bld Pr H H4 D (accR ((cornersL W Hh).take i) W (fun _ => 0) (fun p => p.2) ++ ((rgI (p.1 + 1) (W + 1)).take j).flatMap fun x => rowR p x 0 p.2) ∧ LsR Cn H4 cl (cornersL W Hh) ∧ H4 tp = some (.tup [.int p.1, .int p.2])) ⟨_, _, rfl, by simpa using B, hcs3, hp⟩ (fun j σ H4 hj h => ?_) (fun σ H4 h => ?_)
      · obtain ⟨b, c, rfl, B4, hcs4, hp4⟩ := h
        have hb4 : H4 tb = some (.tup [.int W, .int Hh]) := B4.same _ _ hb
        walk_at "go"
        refine u_rng1 (by omega) (by omega) ?_
        refine u_range (fun m σ H5 => ∃ c, σ = [some (.ref tb), some (.ref D), some (.ref tp), some (.int (p.1 + 1 + (j : Int))), c] ∧ Bld Pr H H5 D (accR ((cornersL W Hh).take i) W (fun _ => 0) (fun p => p.2) ++ (((rgI (p.1 + 1) (W + 1)).take j).flatMap fun x => rowR p x 0 p.2) ++ ((rgI 0 p.2).take m).map fun y => (p, (p.1 + 1 + (j : Int), y))) ∧ LsR Cn H5 cl (cornersL W Hh) ∧ H5 tp = some (.tup [.int p.1, .int p.2])) ⟨_, rfl, by simpa using B4, hcs4, hp4⟩ (fun m σ H5 hm h => ?_) (fun σ H5 h => ?_)
        · obtain ⟨c, rfl, B5, hcs5, hp5⟩ := h
          obtain ⟨ys5, hy5, _⟩ := id B5.ls
          walk_at "go"
          refine u_bmL hy5 ?_
          walk_at "go"
          refine u_append trP (B5.up trP (by walk_at "sm")) (a := (p, (p.1 + 1 + (j : Int), 0 + (m : Int)))) ⟨_, _, _, rfl, by assumption, ⟨_, rfl, by walk_at "f"⟩, ⟨_, rfl, by walk_at "f"⟩⟩ ?_ fun H6 bu B6 _ => ?_
          · have l1 := accR_len (W := W) (Hh := Hh) (lo := fun _ => 0) (hi := fun p => p.2) (i := i) hW hH fun p hp => by
              have := cornersL_mem.mp hp
              show (p.2 - 0).toNat ≤ 9
              omega
            have l2 : (((rgI (p.1 + 1) (W + 1)).take j).flatMap fun x => rowR p x 0 p.2).length ≤ 9 * 9 := by
              refine Nat.le_trans (flat_len (n := 9) _ fun x _ => by rw [rowR_len]; omega) (Nat.mul_le_mul_right 9 ?_)
              rw [List.length_take, rgI_len]
              omega
            have l3 : ((rgI 0 p.2).take m).length ≤ 9 := by
              rw [List.length_take, rgI_len]
              omega
            rw [List.length_append, List.length_append, List.length_map]
            omega
          · have tk := bu.tup (o := .lst ys5) (by walk_at "f") fun _ z => by cases z
            refine ⟨_, rfl, ?_, (show LsR Cn _ cl (cornersL W Hh) from by walk_at "f").up2 trC tk fun xs e => bu _ _ hDcl e, tk _ _ (by walk_at "f")⟩
            rw [rgI_take (lo := 0) (hi := p.2) (by omega), List.map_append, ← List.append_assoc]
            exact B6
        · obtain ⟨c, rfl, B5, hcs5, hp5⟩ := h
          rw [show p.2.toNat = (p.2 - 0).toNat by omega, rgI_all] at B5
          refine ⟨_, _, rfl, ?_, hcs5, hp5⟩
          rw [take_flat _ _ _ _ (rgI_at hj), ← List.append_assoc]
          exact B5
      · obtain ⟨b, c, rfl, B4, hcs4, hp4⟩ := h
        rw [rgI_all] at B4
        refine ⟨_, _, _, rfl, ?_, hcs4⟩
        unfold accR
        rw [take_flat _ _ _ _ hi]
        exact B4
    · obtain ⟨a, b, c, rfl, B, hcs3⟩ := h
      rw [List.take_length] at B
      walk_at "go"
      exact k D _ B.fresh B.same B.ls

def pairsL (W Hh : Nat) (half : Str) : List Pq := if half = "rising" then risingL W Hh else fallingL W Hh
def spPairs : Sp := fun vs H Q _ => ∃ vb, ∃ W Hh : Nat, ∃ half, vs = [vb, .str half] ∧ Cn H vb ((W : Int), (Hh : Int)) ∧ W ≤ 8 ∧ Hh ≤ 8 ∧ ∀ p H', H p = none → Same H H' → LsR Pr H' p (pairsL W Hh half) → Q (.ref p) H'
theorem sc_pairs_of : FnScope ["board", "half"] ["board", "half"] (defScope s_pairs_of) := ⟨rfl, rfl, rfl, by decide +kernel, rfl, by decide +kernel, by decide +kernel⟩
theorem c_pairs_of (g : Gs mg) (c_rising_pairs : Cal P w K mg base 2 "rising_pairs" ["board"] (spRP risingL)) (c_falling_pairs : Cal P w K mg base 2 "falling_pairs" ["board"] (spRP fallingL)) {f : Addr} (hm : mg "pairs_of" = some (.ref f)) (F : Fd K "pairs_of" "pairs_of" s_pairs_of f) : Cal P w K mg base 3 "pairs_of" ["board", "half"] spPairs := by
  refine Cal.mk' hm (fn_mk (k := 2) F sc_pairs_of (fun _ _ _ _ _ _ us hl => match us, hl with | [_, _], _ => rfl) (fun vs H Q E h => ?_) (fun cdv A outer s H vs Q E hr h => ?_))
  · obtain ⟨_, _, _, _, rfl, _⟩ := h; rfl
  · obtain ⟨vb, W, Hh, half, rfl, ⟨tb, rfl, hb⟩, hW, hH, k⟩ := h
    refine ⟨_, (pss_cons (ps_if (pt_cmpR op_eq (pv 1) (pe_glob (v := .str "rising") rfl (g.rising).choose_spec ⟨_, rfl⟩) (nomark _)) (pss_one (ps_ret (pc c_rising_pairs hr (pa_cons (pv 0) pa_nil)))) pss_nil)
      (pss_one (ps_ret (pc c_falling_pairs hr (pa_cons (pv 0) pa_nil))))), ?_⟩
    unfold pairsL at k
    walk_at "go"
    refine ite3 (fun h1 => ?_) (fun h1 => ?_)
    · walk_at "go"
      rw [if_pos h1] at k
      exact ⟨_, W, Hh, rfl, ⟨_, rfl, hb⟩, hW, hH, k⟩
    walk_at "go"
    rw [if_neg h1] at k
    exact ⟨_, W, Hh, rfl, ⟨_, rfl, hb⟩, hW, hH, k⟩
end
end Cp
end
section
namespace Cp
open PySem PySem.Spec PyProof.Rows L2
/-! ### rows sorted by a leading number -/
section
variable {β : Type} {enc : β → PyData} {f : β → Int} {r : β → List PyData}
theorem le_first (he : ∀ b, enc b = .tuple (.int (f b) :: r b)) {a b : β} (h : PySem.W.dataLe false enc a b = true) : f a ≤ f b := by
  have h1 : (!PySem.W.dataLt (enc b) (enc a)) = true := h
  rw [he a, he b] at h1
  rw [PySem.W.dataLt_tuple, PySem.W.dataLt_cons (by simp [PySem.W.alike])] at h1
  by_cases q : f b < f a
  · have e : PyData.eqv (.int (f b)) (.int (f a)) = false := by
      simp only [PyData.eqv]
      exact beq_eq_false_iff_ne.mpr (by omega)
    rw [e, if_neg Bool.false_ne_true, PySem.W.dataLt_int] at h1
    simp [q] at h1
  · omega
theorem sorted_first (he : ∀ b, enc b = .tuple (.int (f b) :: r b)) (bs : List β) : (bs.mergeSort (PySem.W.dataLe false enc)).Pairwise fun a b => f a ≤ f b := by
  have h := PySem.W.sort_pairwise (PySem.W.sortLe_total (PyProof.Rows.listOrd PyProof.Rows.itemOrd) false fun b => PySem.W.keyToks (enc b)) bs
  exact List.Pairwise.imp (fun h => le_first he h) h
/-- what is less stands ahead -/
theorem earlier {ss : List β} (h : ss.Pairwise fun a b => f a ≤ f b) {i : Nat} {a b : β} (hi : ss[i]? = some a) (hb : b ∈ ss) (hlt : f b < f a) : b ∈ ss.take i := by
  obtain ⟨j, hj, e⟩ := List.mem_iff_getElem.mp hb
  obtain ⟨hi', e2⟩ := List.getElem?_eq_some_iff.mp hi
  have : j < i := by
    rcases Nat.lt_trichotomy j i with q | q | q
    · exact q
    · subst q
      rw [e] at e2
      rw [e2] at hlt
      exact absurd hlt (Int.lt_irrefl _)
    · have := List.pairwise_iff_getElem.mp h i j hi' hj q
      rw [e, e2] at this
      omega
  exact List.mem_iff_getElem.mpr ⟨j, by rw [List.length_take]; omega, by rw [List.getElem_take]; exact e⟩
end
end Cp
end
section
namespace Cp
open PySem PySem.Spec PyProof.Rows L2
local macro_rules | `(tactic| walk_at "f") => `(tactic| first | assumption | (refine' keep_of ?_ (by assumption); walk_at "f") | (refine Cn.up ?_ (by assumption); walk_at "f") | (refine Pr.up ?_ (by assumption); walk_at "f") | (refine NTab.up ?_ (by assumption); walk_at "f") | (refine LsR.up (by first | exact trC | exact trP | exact trI | assumption) ?_ (by assumption); walk_at "f"))
local macro_rules | `(tactic| walk_at "sm") => `(tactic| first | exact Same.refl _ | assumption | (refine same_tr ?_ (by assumption); walk_at "sm"))
local macro_rules | `(tactic| walk_at "fr") => `(tactic| first | assumption | (refine nof ?_ (by assumption); walk_at "fr"))
local macro_rules | `(tactic| walk_at "s1") => `(tactic| first
  | with_reducible refine s_seq ?_ | with_reducible refine s_ret ?_ | with_reducible refine s_asg ?_ | with_reducible refine s_if ?_ | with_reducible refine s_next ?_ | with_reducible refine s_drop ?_
  | ((with_reducible refine' s_var ?h ?q); (case h => exact rfl)) | with_reducible refine s_c ?_ | with_reducible refine s_op ?_ | with_reducible refine s_I0 ?_
  | with_reducible refine s_eqI ?_ | with_reducible refine s_neI ?_ | with_reducible refine s_eqS ?_ | with_reducible refine s_neS ?_
  | with_reducible refine s_test ?_ | with_reducible refine s_tB ?_ | with_reducible refine s_bl ?_ | with_reducible refine s_and ?_ | with_reducible refine s_or ?_ | with_reducible refine s_not ?_ | with_reducible refine s_andV ?_ | with_reducible refine s_chain ?_
  | with_reducible refine s_cons ?_ | with_reducible refine s_nil ?_ | with_reducible refine s_tup ?_ | with_reducible refine s_lst ?_
  | with_reducible refine s_CB ?_ | with_reducible refine s_call ?_ | with_reducible refine s_gname ?_ | with_reducible refine s_gcons ?_ | with_reducible refine s_gnil ?_
  | ((with_reducible refine' s_gtup ?h ?e ?q); (case h => walk_at "f"); (case e => exact rfl))
  | ((with_reducible refine' s_ixT ?h ?e ?q); (case h => walk_at "f"); (case e => exact rfl))
  | (with_reducible refine s_BM ?_) | ((with_reducible refine s_new ?z ?q); (case z => exact rfl); intro p H1 hp hs hv))
local macro_rules | `(tactic| walk_at "s2") => `(tactic| first
  | walk_at "s1" | with_reducible refine iteF ?_ | with_reducible refine iteT ?_ | with_reducible refine u_tup ?_ | with_reducible refine u_lst ?_ | ((with_reducible refine u_newT ?z ?q); (case z => exact rfl); intro p H1 hp hs hv) | ((with_reducible refine u_newL ?z ?q); (case z => exact rfl); intro p H1 hp hs hv) | with_reducible refine s_min2 ?_ | with_reducible refine s_gsub ?_ | ((with_reducible refine s_lenS ?z ?q); (case z => assumption)) | with_reducible refine s_rng1 ?_ | with_reducible refine s_rng2 ?_ | with_reducible refine s_list ?_ | with_reducible refine s_istr ?_ | with_reducible refine u_str ?_ | with_reducible refine s_for ?_ | with_reducible refine s_lc ?_ | with_reducible refine s_lc2 ?_ | with_reducible refine s_yes ?_ | with_reducible refine s_bm ?_ | with_reducible refine s_mth ?_ | with_reducible refine s_abs ?_ | with_reducible refine s_int1 ?_ | with_reducible refine s_nget ?_ | with_reducible refine s_fld ?_
  | ((with_reducible refine' s_lenL ?h ?q); (case h => walk_at "f"))
  | ((with_reducible refine' s_lenT ?h ?q); (case h => walk_at "f")))
local macro_rules | `(tactic| walk_at "go") => `(tactic| repeat walk_at "s2")
section
variable {P : Program} {w : World} {K : PySem.W.Frag} {mg : Str → Option Value} {base : Heap} {C : Addr}
def spOnBoard : Sp := fun vs H Q _ => ∃ vb vc b c, vs = [vb, vc] ∧ Cn H vb b ∧ Cn H vc c ∧ Q (.bl (onB b c)) H
theorem sc_on_board : FnScope ["board", "corner"] ["board", "corner"] (defScope s_on_board) := ⟨rfl, rfl, rfl, by decide +kernel, rfl, by decide +kernel, by decide +kernel⟩
theorem c_on_board (g : Gs mg)  {f : Addr} (hm : mg "on_board" = some (.ref f)) (F : Fd K "on_board" "on_board" s_on_board f) : Cal P w K mg base 1 "on_board" ["board", "corner"] spOnBoard := by
  refine Cal.mk' hm (fn_mk (k := 0) F sc_on_board (fun _ _ _ _ _ _ us hl => match us, hl with | [_, _], _ => rfl) (fun vs H Q E h => ?_) (fun cdv A outer s H vs Q E hr h => ?_))
  · obtain ⟨_, _, _, _, rfl, _⟩ := h; rfl
  · obtain ⟨vb, vc, b, c, rfl, ⟨tb, rfl, hb⟩, ⟨tc, rfl, hc⟩, k⟩ := h
    refine ⟨_, (pss_one (ps_ret (pe_and (pe_chain op_le op_le (pe_int) (pe_ix ix_tup (pv 1) (pe_int) (fun _ _ => rfl)) (pe_ix ix_tup (pv 0) (pe_int) (fun _ _ => rfl))) (pe_one (pe_chain op_le op_le (pe_int) (pe_ix ix_tup (pv 1) (pe_int) (fun _ _ => rfl)) (pe_ix ix_tup (pv 0) (pe_int) (fun _ _ => rfl))))))), ?_⟩
    have e : onB b c = (decide (0 ≤ c.1) && decide (c.1 ≤ b.1) && (decide (0 ≤ c.2) && decide (c.2 ≤ b.2))) := rfl
    rw [e] at k
    walk_at "go"
    refine ite3 (fun h1 => ?_) (fun h1 => ?_)
    · walk_at "go"
      refine ite3 (fun h2 => ?_) (fun h2 => ?_)
      · walk_at "go"
        refine ite3 (fun h3 => ?_) (fun h3 => ?_)
        · walk_at "go"
          simpa [h1, h2, h3] using k
        · walk_at "go"
          simpa [h1, h2, h3] using k
      · simpa [h1, h2] using k
    · walk_at "go"
      simpa [h1] using k
def spSteps : Sp := fun vs H Q _ => ∃ vp vq p q, vs = [vp, vq] ∧ Cn H vp p ∧ Cn H vq q ∧ Q (.int (dst p q)) H
theorem sc_steps_between : FnScope ["p", "q"] ["p", "q"] (defScope s_steps_between) := ⟨rfl, rfl, rfl, by decide +kernel, rfl, by decide +kernel, by decide +kernel⟩
theorem c_steps_between (g : Gs mg)  {f : Addr} (hm : mg "steps_between" = some (.ref f)) (F : Fd K "steps_between" "steps_between" s_steps_between f) : Cal P w K mg base 1 "steps_between" ["p", "q"] spSteps := by
  refine Cal.mk' hm (fn_mk (k := 0) F sc_steps_between (fun _ _ _ _ _ _ us hl => match us, hl with | [_, _], _ => rfl) (fun vs H Q E h => ?_) (fun cdv A outer s H vs Q E hr h => ?_))
  · obtain ⟨_, _, _, _, rfl, _⟩ := h; rfl
  · obtain ⟨vp, vq, p, q, rfl, ⟨tp, rfl, hp⟩, ⟨tq, rfl, hq⟩, k⟩ := h
    refine ⟨_, (pss_one (ps_ret (pe_op op_add (pe_callB cr_abs (by rfl) g.abs (by rfl) (pa_cons (pe_op op_sub (pe_ix ix_tup (pv 0) (pe_int) (fun _ _ => rfl)) (pe_ix ix_tup (pv 1) (pe_int) (fun _ _ => rfl))) pa_nil)) (pe_callB cr_abs (by rfl) g.abs (by rfl) (pa_cons (pe_op op_sub (pe_ix ix_tup (pv 0) (pe_int) (fun _ _ => rfl)) (pe_ix ix_tup (pv 1) (pe_int) (fun _ _ => rfl))) pa_nil))))), ?_⟩
    walk_at "go"
    have e : ((dst p q : Nat) : Int) = ((p.1 - q.1).natAbs : Int) + ((p.2 - q.2).natAbs : Int) := by unfold dst; omega
    rw [e] at k
    exact k
def spSteep : Sp := fun vs H Q _ => ∃ h, vs = [.str h] ∧ Q (.str (if h = "rising" then "N" else "S")) H
theorem sc_steep_letter : FnScope ["half"] ["half"] (defScope s_steep_letter) := ⟨rfl, rfl, rfl, by decide +kernel, rfl, by decide +kernel, by decide +kernel⟩
theorem c_steep_letter (g : Gs mg)  {f : Addr} (hm : mg "steep_letter" = some (.ref f)) (F : Fd K "steep_letter" "steep_letter" s_steep_letter f) : Cal P w K mg base 1 "steep_letter" ["half"] spSteep := by
  refine Cal.mk' hm (fn_mk (k := 0) F sc_steep_letter (fun _ _ _ _ _ _ us hl => match us, hl with | [_], _ => rfl) (fun vs H Q E h => ?_) (fun cdv A outer s H vs Q E hr h => ?_))
  · obtain ⟨_, rfl, _⟩ := h; rfl
  · obtain ⟨h, rfl, k⟩ := h
    refine ⟨_, (pss_cons (ps_if (pt_cmpR op_eq (pv 0) (pe_glob (v := .str "rising") rfl (g.rising).choose_spec ⟨_, rfl⟩) (nomark _)) (pss_one (ps_ret (pe_str))) pss_nil)
      (pss_one (ps_ret (pe_str)))), ?_⟩
    walk_at "go"
    refine ite3 (fun h1 => ?_) (fun h1 => ?_)
    · walk_at "go"
      rw [if_pos h1] at k; exact k
    walk_at "go"
    rw [if_neg h1] at k; exact k
def spMoved : Sp := fun vs H Q _ => ∃ vc c l, vs = [vc, .str l] ∧ Cn H vc c ∧ ∀ r H', H r = none → Same H H' → H' r = some (.tup [.int (mv c l).1, .int (mv c l).2]) → Q (.ref r) H'
theorem sc_moved : FnScope ["corner", "letter", "x", "y"] ["corner", "letter"] (defScope s_moved) := ⟨rfl, rfl, rfl, by decide +kernel, rfl, by decide +kernel, by decide +kernel⟩
theorem c_moved (g : Gs mg)  {f : Addr} (hm : mg "moved" = some (.ref f)) (F : Fd K "moved" "moved" s_moved f) : Cal P w K mg base 1 "moved" ["corner", "letter"] spMoved := by
  refine Cal.mk' hm (fn_mk (k := 0) F sc_moved (fun _ _ _ _ _ _ us hl => match us, hl with | [_, _], _ => rfl) (fun vs H Q E h => ?_) (fun cdv A outer s H vs Q E hr h => ?_))
  · obtain ⟨_, _, _, rfl, _⟩ := h; rfl
  · obtain ⟨vc, c, l, rfl, ⟨t, rfl, ht⟩, k⟩ := h
    refine ⟨_, (pss_cons (ps_asg (pv 0) (pg_tup rfl (pgs_cons (pg_name (i := 2) sc_moved.nd rfl (.inl rfl)) (pgs_cons (pg_name (i := 3) sc_moved.nd rfl (.inl rfl)) pgs_nil))))
      (pss_cons (ps_if (pt_cmpR op_eq (pv 1) (pe_str) (nomark _)) (pss_one (ps_ret (pe_utup (pa_cons (pe_op op_add (pv 2) (pe_int)) (pa_cons (pv 3) pa_nil))))) pss_nil)
      (pss_cons (ps_if (pt_cmpR op_eq (pv 1) (pe_str) (nomark _)) (pss_one (ps_ret (pe_utup (pa_cons (pv 2) (pa_cons (pe_op op_add (pv 3) (pe_int)) pa_nil))))) pss_nil)
      (pss_one (ps_ret (pe_utup (pa_cons (pv 2) (pa_cons (pe_op op_sub (pv 3) (pe_int)) pa_nil)))))))), ?_⟩
    unfold mv at k
    walk_at "go"
    refine ite3 (fun h1 => ?_) (fun h1 => ?_)
    · walk_at "go"
      exact k _ _ (by walk_at "fr") (by walk_at "sm") (by rw [if_pos h1]; walk_at "f")
    walk_at "go"
    refine ite3 (fun h2 => ?_) (fun h2 => ?_)
    · walk_at "go"
      exact k _ _ (by walk_at "fr") (by walk_at "sm") (by rw [if_neg h1, if_pos h2]; walk_at "f")
    walk_at "go"
    exact k _ _ (by walk_at "fr") (by walk_at "sm") (by rw [if_neg h1, if_neg h2]; walk_at "f")
theorem sc_l_moved : FnScope ["_law_corner", "_law_letter_here"] ["_law_corner", "_law_letter_here"] (defScope s_l_moved) := ⟨rfl, rfl, rfl, by decide +kernel, rfl, by decide +kernel, by decide +kernel⟩
theorem c_l_moved (g : Gs mg)  {f : Addr} (hm : mg "_law_moved" = some (.ref f)) (F : Fd K "_law_moved" "_law_moved" s_l_moved f) : Cal P w K mg base 1 "_law_moved" ["_law_corner", "_law_letter_here"] spMoved := by
  refine Cal.mk' hm (fn_mk (k := 0) F sc_l_moved (fun _ _ _ _ _ _ us hl => match us, hl with | [_, _], _ => rfl) (fun vs H Q E h => ?_) (fun cdv A outer s H vs Q E hr h => ?_))
  · obtain ⟨_, _, _, rfl, _⟩ := h; rfl
  · obtain ⟨vc, c, l, rfl, ⟨t, rfl, ht⟩, k⟩ := h
    refine ⟨_, (pss_cons (ps_if (pt_cmpR op_eq (pv 1) (pe_str) (nomark _)) (pss_one (ps_ret (pe_utup (pa_cons (pe_op op_add (pe_ix ix_tup (pv 0) (pe_int) (fun _ _ => rfl)) (pe_int)) (pa_cons (pe_ix ix_tup (pv 0) (pe_int) (fun _ _ => rfl)) pa_nil))))) pss_nil)
      (pss_cons (ps_if (pt_cmpR op_eq (pv 1) (pe_str) (nomark _)) (pss_one (ps_ret (pe_utup (pa_cons (pe_ix ix_tup (pv 0) (pe_int) (fun _ _ => rfl)) (pa_cons (pe_op op_add (pe_ix ix_tup (pv 0) (pe_int) (fun _ _ => rfl)) (pe_int)) pa_nil))))) pss_nil)
      (pss_one (ps_ret (pe_utup (pa_cons (pe_ix ix_tup (pv 0) (pe_int) (fun _ _ => rfl)) (pa_cons (pe_op op_sub (pe_ix ix_tup (pv 0) (pe_int) (fun _ _ => rfl)) (pe_int)) pa_nil))))))), ?_⟩
    unfold mv at k
    walk_at "go"
    refine ite3 (fun h1 => ?_) (fun h1 => ?_)
    · walk_at "go"
      exact k _ _ (by walk_at "fr") (by walk_at "sm") (by rw [if_pos h1]; walk_at "f")
    walk_at "go"
    refine ite3 (fun h2 => ?_) (fun h2 => ?_)
    · walk_at "go"
      exact k _ _ (by walk_at "fr") (by walk_at "sm") (by rw [if_neg h1, if_pos h2]; walk_at "f")
    walk_at "go"
    exact k _ _ (by walk_at "fr") (by walk_at "sm") (by rw [if_neg h1, if_neg h2]; walk_at "f")
def spBefore : Sp := fun vs H Q _ => ∃ vc c l, vs = [vc, .str l] ∧ Cn H vc c ∧ ∀ r H', H r = none → Same H H' → H' r = some (.tup [.int (bk c l).1, .int (bk c l).2]) → Q (.ref r) H'
theorem sc_before : FnScope ["q", "letter", "x", "y"] ["q", "letter"] (defScope s_before) := ⟨rfl, rfl, rfl, by decide +kernel, rfl, by decide +kernel, by decide +kernel⟩
theorem c_before (g : Gs mg)  {f : Addr} (hm : mg "before" = some (.ref f)) (F : Fd K "before" "before" s_before f) : Cal P w K mg base 1 "before" ["q", "letter"] spBefore := by
  refine Cal.mk' hm (fn_mk (k := 0) F sc_before (fun _ _ _ _ _ _ us hl => match us, hl with | [_, _], _ => rfl) (fun vs H Q E h => ?_) (fun cdv A outer s H vs Q E hr h => ?_))
  · obtain ⟨_, _, _, rfl, _⟩ := h; rfl
  · obtain ⟨vc, c, l, rfl, ⟨t, rfl, ht⟩, k⟩ := h
    refine ⟨_, (pss_cons (ps_asg (pv 0) (pg_tup rfl (pgs_cons (pg_name (i := 2) sc_before.nd rfl (.inl rfl)) (pgs_cons (pg_name (i := 3) sc_before.nd rfl (.inl rfl)) pgs_nil))))
      (pss_cons (ps_if (pt_cmpR op_eq (pv 1) (pe_str) (nomark _)) (pss_one (ps_ret (pe_utup (pa_cons (pe_op op_sub (pv 2) (pe_int)) (pa_cons (pv 3) pa_nil))))) pss_nil)
      (pss_cons (ps_if (pt_cmpR op_eq (pv 1) (pe_str) (nomark _)) (pss_one (ps_ret (pe_utup (pa_cons (pv 2) (pa_cons (pe_op op_sub (pv 3) (pe_int)) pa_nil))))) pss_nil)
      (pss_one (ps_ret (pe_utup (pa_cons (pv 2) (pa_cons (pe_op op_add (pv 3) (pe_int)) pa_nil)))))))), ?_⟩
    unfold bk at k
    walk_at "go"
    refine ite3 (fun h1 => ?_) (fun h1 => ?_)
    · walk_at "go"
      exact k _ _ (by walk_at "fr") (by walk_at "sm") (by rw [if_pos h1]; walk_at "f")
    walk_at "go"
    refine ite3 (fun h2 => ?_) (fun h2 => ?_)
    · walk_at "go"
      exact k _ _ (by walk_at "fr") (by walk_at "sm") (by rw [if_neg h1, if_pos h2]; walk_at "f")
    walk_at "go"
    exact k _ _ (by walk_at "fr") (by walk_at "sm") (by rw [if_neg h1, if_neg h2]; walk_at "f")
def spLetter (P : Program) (w : World) : Sp := fun vs H Q _ => ∃ d vp vq p q F kvs, vs = [.ref d, vp, vq] ∧ NTab kt2 P w H d kvs ∧ Cn H vp p ∧ Cn H vq q ∧ (p.2 ≠ q.2 → p.1 ≠ q.1 → look kvs (p, q) = some (.str (F (p, q)))) ∧ ∀ H', Same H H' → Q (.str (ltr F p q)) H'
theorem sc_first_letter : FnScope ["table", "p", "q"] ["table", "p", "q"] (defScope s_first_letter) := ⟨rfl, rfl, rfl, by decide +kernel, rfl, by decide +kernel, by decide +kernel⟩
theorem c_first_letter (g : Gs mg)  {f : Addr} (hm : mg "first_letter" = some (.ref f)) (F : Fd K "first_letter" "first_letter" s_first_letter f) : Cal P w K mg base 1 "first_letter" ["table", "p", "q"] (spLetter P w) := by
  refine Cal.mk' hm (fn_mk (k := 0) F sc_first_letter (fun _ _ _ _ _ _ us hl => match us, hl with | [_, _, _], _ => rfl) (fun vs H Q E h => ?_) (fun cdv A outer s H vs Q E hr h => ?_))
  · obtain ⟨_, _, _, _, _, _, _, rfl, _⟩ := h; rfl
  · obtain ⟨d, vp, vq, p, q, F, kvs, rfl, hd, ⟨tp, rfl, hp⟩, ⟨tq, rfl, hq⟩, hl, k⟩ := h
    refine ⟨_, (pss_cons (ps_if (pt_cmpR op_eq (pe_ix ix_tup (pv 1) (pe_int) (fun _ _ => rfl)) (pe_ix ix_tup (pv 2) (pe_int) (fun _ _ => rfl)) (nomark _)) (pss_one (ps_ret (pe_str))) pss_nil)
      (pss_cons (ps_if (pt_cmpR op_eq (pe_ix ix_tup (pv 1) (pe_int) (fun _ _ => rfl)) (pe_ix ix_tup (pv 2) (pe_int) (fun _ _ => rfl)) (nomark _)) (pss_cons (ps_if (pt_cmpR op_lt (pe_ix ix_tup (pv 1) (pe_int) (fun _ _ => rfl)) (pe_ix ix_tup (pv 2) (pe_int) (fun _ _ => rfl)) (nomark _)) (pss_one (ps_ret (pe_str))) pss_nil)
      (pss_one (ps_ret (pe_str)))) pss_nil)
      (pss_one (ps_ret (pe_nget kt2 hr.units (pv 0) (pe_utup (pa_cons (pv 1) (pa_cons (pv 2) pa_nil))) (fun _ _ => rfl)))))), ?_⟩
    unfold ltr at k
    walk_at "go"
    refine ite3 (fun h1 => ?_) (fun h1 => ?_)
    · walk_at "go"
      rw [if_pos h1] at k; exact k _ (Same.refl _)
    rw [if_neg h1] at k
    walk_at "go"
    refine ite3 (fun h2 => ?_) (fun h2 => ?_)
    · rw [if_pos h2] at k
      walk_at "go"
      refine ite3 (fun h3 => ?_) (fun h3 => ?_)
      · walk_at "go"
        rw [if_pos h3] at k; exact k _ (Same.refl _)
      · walk_at "go"
        rw [if_neg h3] at k; exact k _ (Same.refl _)
    rw [if_neg h2] at k
    walk_at "go"
    refine u_nget (k := (p, q)) (kvs := kvs) (by walk_at "f") ⟨_, _, _, rfl, by assumption, ⟨_, rfl, by walk_at "f"⟩, ⟨_, rfl, by walk_at "f"⟩⟩ (hl h1 h2) (k _ (by walk_at "sm"))
theorem sc_l_letter : FnScope ["_law_table", "_law_p", "_law_q"] ["_law_table", "_law_p", "_law_q"] (defScope s_l_letter) := ⟨rfl, rfl, rfl, by decide +kernel, rfl, by decide +kernel, by decide +kernel⟩
theorem c_l_letter (g : Gs mg)  {f : Addr} (hm : mg "_law_letter" = some (.ref f)) (F : Fd K "_law_letter" "_law_letter" s_l_letter f) : Cal P w K mg base 1 "_law_letter" ["_law_table", "_law_p", "_law_q"] (spLetter P w) := by
  refine Cal.mk' hm (fn_mk (k := 0) F sc_l_letter (fun _ _ _ _ _ _ us hl => match us, hl with | [_, _, _], _ => rfl) (fun vs H Q E h => ?_) (fun cdv A outer s H vs Q E hr h => ?_))
  · obtain ⟨_, _, _, _, _, _, _, rfl, _⟩ := h; rfl
  · obtain ⟨d, vp, vq, p, q, F, kvs, rfl, hd, ⟨tp, rfl, hp⟩, ⟨tq, rfl, hq⟩, hl, k⟩ := h
    refine ⟨_, (pss_cons (ps_if (pt_cmpR op_eq (pe_ix ix_tup (pv 1) (pe_int) (fun _ _ => rfl)) (pe_ix ix_tup (pv 2) (pe_int) (fun _ _ => rfl)) (nomark _)) (pss_one (ps_ret (pe_str))) pss_nil)
      (pss_cons (ps_if (pt_cmpR op_eq (pe_ix ix_tup (pv 1) (pe_int) (fun _ _ => rfl)) (pe_ix ix_tup (pv 2) (pe_int) (fun _ _ => rfl)) (nomark _)) (pss_cons (ps_if (pt_cmpR op_lt (pe_ix ix_tup (pv 1) (pe_int) (fun _ _ => rfl)) (pe_ix ix_tup (pv 2) (pe_int) (fun _ _ => rfl)) (nomark _)) (pss_one (ps_ret (pe_str))) pss_nil)
      (pss_one (ps_ret (pe_str)))) pss_nil)
      (pss_one (ps_ret (pe_nget kt2 hr.units (pv 0) (pe_utup (pa_cons (pv 1) (pa_cons (pv 2) pa_nil))) (fun _ _ => rfl)))))), ?_⟩
    unfold ltr at k
    walk_at "go"
    refine ite3 (fun h1 => ?_) (fun h1 => ?_)
    · walk_at "go"
      rw [if_pos h1] at k; exact k _ (Same.refl _)
    rw [if_neg h1] at k
    walk_at "go"
    refine ite3 (fun h2 => ?_) (fun h2 => ?_)
    · rw [if_pos h2] at k
      walk_at "go"
      refine ite3 (fun h3 => ?_) (fun h3 => ?_)
      · walk_at "go"
        rw [if_pos h3] at k; exact k _ (Same.refl _)
      · walk_at "go"
        rw [if_neg h3] at k; exact k _ (Same.refl _)
    rw [if_neg h2] at k
    walk_at "go"
    refine u_nget (k := (p, q)) (kvs := kvs) (by walk_at "f") ⟨_, _, _, rfl, by assumption, ⟨_, rfl, by walk_at "f"⟩, ⟨_, rfl, by walk_at "f"⟩⟩ (hl h1 h2) (k _ (by walk_at "sm"))
end
end Cp
end
section
namespace Cp
open PySem PySem.Spec PyProof.Rows L2
local macro_rules | `(tactic| walk_at "f") => `(tactic| first | assumption | (refine' keep_of ?_ (by assumption); walk_at "f") | (refine Cn.up ?_ (by assumption); walk_at "f") | (refine Pr.up ?_ (by assumption); walk_at "f") | (refine NTab.up ?_ (by assumption); walk_at "f") | (refine LsR.up (by first | exact trC | exact trP | exact trI | assumption) ?_ (by assumption); walk_at "f"))
local macro_rules | `(tactic| walk_at "sm") => `(tactic| first | exact Same.refl _ | assumption | (refine same_tr ?_ (by assumption); walk_at "sm"))
local macro_rules | `(tactic| walk_at "fr") => `(tactic| first | assumption | (refine nof ?_ (by assumption); walk_at "fr"))
local macro_rules | `(tactic| walk_at "s1") => `(tactic| first
  | with_reducible refine s_seq ?_ | with_reducible refine s_ret ?_ | with_reducible refine s_asg ?_ | with_reducible refine s_if ?_ | with_reducible refine s_next ?_ | with_reducible refine s_drop ?_
  | ((with_reducible refine' s_var ?h ?q); (case h => exact rfl)) | with_reducible refine s_c ?_ | with_reducible refine s_op ?_ | with_reducible refine s_I0 ?_
  | with_reducible refine s_eqI ?_ | with_reducible refine s_neI ?_ | with_reducible refine s_eqS ?_ | with_reducible refine s_neS ?_
  | with_reducible refine s_test ?_ | with_reducible refine s_tB ?_ | with_reducible refine s_bl ?_ | with_reducible refine s_and ?_ | with_reducible refine s_or ?_ | with_reducible refine s_not ?_ | with_reducible refine s_andV ?_ | with_reducible refine s_chain ?_
  | with_reducible refine s_cons ?_ | with_reducible refine s_nil ?_ | with_reducible refine s_tup ?_ | with_reducible refine s_lst ?_
  | with_reducible refine s_CB ?_ | with_reducible refine s_call ?_ | with_reducible refine s_gname ?_ | with_reducible refine s_gcons ?_ | with_reducible refine s_gnil ?_
  | ((with_reducible refine' s_gtup ?h ?e ?q); (case h => walk_at "f"); (case e => exact rfl))
  | ((with_reducible refine' s_ixT ?h ?e ?q); (case h => walk_at "f"); (case e => exact rfl))
  | (with_reducible refine s_BM ?_) | ((with_reducible refine s_new ?z ?q); (case z => exact rfl); intro p H1 hp hs hv))
local macro_rules | `(tactic| walk_at "s2") => `(tactic| first
  | walk_at "s1" | with_reducible refine iteF ?_ | with_reducible refine iteT ?_ | with_reducible refine u_tup ?_ | with_reducible refine u_lst ?_ | ((with_reducible refine u_newT ?z ?q); (case z => exact rfl); intro p H1 hp hs hv) | ((with_reducible refine u_newL ?z ?q); (case z => exact rfl); intro p H1 hp hs hv) | with_reducible refine s_min2 ?_ | with_reducible refine s_gsub ?_ | ((with_reducible refine s_lenS ?z ?q); (case z => assumption)) | with_reducible refine s_rng1 ?_ | with_reducible refine s_rng2 ?_ | with_reducible refine s_list ?_ | with_reducible refine s_istr ?_ | with_reducible refine u_str ?_ | with_reducible refine s_for ?_ | with_reducible refine s_lc ?_ | with_reducible refine s_lc2 ?_ | with_reducible refine s_yes ?_ | with_reducible refine s_bm ?_ | with_reducible refine s_mth ?_ | with_reducible refine s_abs ?_ | with_reducible refine s_int1 ?_ | with_reducible refine s_nget ?_ | with_reducible refine s_fld ?_
  | ((with_reducible refine' s_lenL ?h ?q); (case h => walk_at "f"))
  | ((with_reducible refine' s_lenT ?h ?q); (case h => walk_at "f")))
local macro_rules | `(tactic| walk_at "go") => `(tactic| repeat walk_at "s2")
section
variable {P : Program} {w : World} {K : PySem.W.Frag} {mg : Str → Option Value} {base : Heap} {C : Addr}
/-- a def of the text, its code object told -/
def CodeAt (K : PySem.W.Frag) (f c : Addr) : Prop := ∃ (oc : Value) (od : Option Addr) (fd : FuncData) (osl : Array (Option Value)), K.lookup f = some ⟨oc, od, .func fd, osl⟩ ∧ fd.code = .ref c
theorem fn_mkC {x qual : Str} {st : Stmt} {N ps : List Str} {k : Nat} {sp : Sp} {f : Addr} (F : Fd K x qual st f) (S : FnScope N ps (defScope st))
    (hb : ∀ (kV doc pm : Value) (an : Option Addr) (cdv ct : Value) (us : List Value), us.length = ps.length → bindArgs (PySem.W.fnOf x qual (defArgs st) (defBody st) (defScope st) .none kV doc pm an cdv ct) ⟨us, []⟩ = pure (ps.zip us))
    (len : ∀ vs H Q E, sp vs H Q E → vs.length = ps.length)
    (hbody : ∀ (c : Addr) (A : Around) (outer : List Env) (s : Shared) (H : Hp) (vs : List V) (Q : VK) (E : XK), CodeAt K f c → Room k (A.deeper (envOfC qual (defScope st) s.heap.objs.size f (.ref c))) → sp vs H Q E →
      ∃ t, PSs (cxOf CX0 P w K mg base N qual (defScope st) f (.ref c) A outer s H E).nox (defBody st) t ∧ t { nx := fun _ H' => Q .non H', rt := Q } (start N vs) H) :
    ∃ fd, Binds K fd ps [] ∧ PySem.W.keepIn K (.ref f) = true ∧ FnOk P w K mg base CX0 (k + 1) f fd ps sp := by
  obtain ⟨fd, F⟩ := F
  refine ⟨fd, F.bindsN hb, F.kp, ?_⟩
  obtain ⟨oc, od, dV, kV, doc, pm, an, cdv, ct, osl, rfl, lk, hcd, _, _⟩ := F.ex
  obtain ⟨c, rfl⟩ := He.codeIn_ref hcd
  refine fn_of lk hcd S len fun A outer s H vs Q E hr hsp => ?_
  obtain ⟨t, h1, h2⟩ := hbody c A outer s H vs Q E ⟨_, _, _, _, lk, rfl⟩ hr hsp
  exact ⟨t, PSs.nox h1, h2⟩
def lamQ : Str := (envOfC "pairs_by_steps" (defScope s_pairs_by_steps) 0 0 .none).qual ++ "<lambda>"
abbrev lamT (Pt : Addr) : List (Addr × Str) := [(Pt, lamQ)]
theorem s_sl {T : List (Addr × Str)} {te : TE} {σ : L2.St} {H : Hp} {Q : VK} (h : te σ H (qSortLam T Q)) : tSortLam T te σ H Q := h
def sortS (bs : List Pq) : List Pq := bs.mergeSort (PySem.W.dataLe false encS)
def LsN {α : Type} (R : Hp → V → α → Prop) (H : Hp) (p : Addr) (as : List α) : Prop := LsR R H p as
def spByS (Pt : Addr) : Sp := fun vs H Q _ => ∃ vb, ∃ W Hh : Nat, ∃ half, vs = [vb, .str half] ∧ Cn H vb ((W : Int), (Hh : Int)) ∧ W ≤ 8 ∧ Hh ≤ 8 ∧ LamX.Tabs (lamT Pt) H ∧ ∀ p H', LamX.ExtN H H' → LamX.Tabs (lamT Pt) H' → LsR Pr H' p (sortS (pairsL W Hh half)) → Q (.ref p) H'
theorem sc_pairs_by_steps : FnScope ["board", "half"] ["board", "half"] (defScope s_pairs_by_steps) := ⟨rfl, rfl, rfl, by decide +kernel, rfl, by decide +kernel, by decide +kernel⟩
theorem stp_dst (b : Pq) : stp b = (dst b.1 b.2 : Nat) := by unfold stp dst; omega
theorem pairsL_len {W Hh : Nat} {half : Str} (hW : W ≤ 8) (hH : Hh ≤ 8) : (pairsL W Hh half).length ≤ 81 * 81 := by
  unfold pairsL
  split
  · have h := accR_len (W := W) (Hh := Hh) (lo := fun p => p.2 + 1) (hi := fun _ => (Hh : Int) + 1) (i := (cornersL W Hh).length) hW hH fun p hp => by
      have := cornersL_mem.mp hp
      show ((Hh : Int) + 1 - (p.2 + 1)).toNat ≤ 9
      omega
    rw [List.take_length] at h
    exact h
  · have h := accR_len (W := W) (Hh := Hh) (lo := fun _ => 0) (hi := fun p => p.2) (i := (cornersL W Hh).length) hW hH fun p hp => by
      have := cornersL_mem.mp hp
      show (p.2 - 0).toNat ≤ 9
      omega
    rw [List.take_length] at h
    exact h
theorem c_pairs_by_steps (g : Gs mg) {Pt : Addr} (c_pairs_of : Cal P w K mg base 3 "pairs_of" ["board", "half"] spPairs) (c_steps_between : Cal P w K mg base 1 "steps_between" ["p", "q"] spSteps) {f : Addr} (TB : ∀ c, CodeAt K f c → LamX.TabB base mg c Pt) (hm : mg "pairs_by_steps" = some (.ref f)) (F : Fd K "pairs_by_steps" "pairs_by_steps" s_pairs_by_steps f) : Cal P w K mg base 6 "pairs_by_steps" ["board", "half"] (spByS Pt) := by
  refine Cal.mk' hm (fn_mkC (k := 5) F sc_pairs_by_steps (fun _ _ _ _ _ _ us hl => match us, hl with | [_, _], _ => rfl) (fun vs H Q E h => ?_) (fun c A outer s H vs Q E hc hr h => ?_))
  · obtain ⟨_, _, _, _, rfl, _⟩ := h; rfl
  · obtain ⟨vb, W, Hh, half, rfl, ⟨tb, rfl, hb⟩, hW, hH, hT, k⟩ := h
    refine ⟨_, pss_one (ps_ret (pe_sortLam (T := lamT Pt) (N := ["pair"]) (pa := "pair") (c := c) (Pt := Pt) (k := 1) rfl g.sorted (pc c_pairs_of hr (pa_cons (pv 0) (pa_cons (pv 1) pa_nil))) (TB c hc) rfl (List.mem_singleton.mpr rfl) (fun p hp _ => by rw [List.mem_singleton.mp hp]; rfl) (hr.mono (by decide)) rfl (by decide +kernel) rfl
      ⟨rfl, rfl, rfl, by decide +kernel, rfl, by decide +kernel, by decide +kernel⟩ (fun q pm cv ctv u => rfl)
      (fun A2 outer2 s2 H2 E2 f2 c2 hr2 => pe_utup (pa_cons (pc c_steps_between hr2 (pa_cons (pe_ix (r := rIxT K) ix_tup (pv 0) (pe_int) (fun _ _ => rfl)) (pa_cons (pe_ix (r := rIxT K) ix_tup (pv 0) (pe_int) (fun _ _ => rfl)) pa_nil))) (pa_cons (pv 0) pa_nil)))
      (fun H2 v b Q2 hv hk => ?_))), ?_⟩
    · obtain ⟨t, v1, v2, rfl, ht, h1, h2⟩ := hv
      walk_at "go"
      refine ⟨v1, v2, b.1, b.2, rfl, h1, h2, ?_⟩
      walk_at "go"
      refine hk _ _ (by walk_at "sm") ?_
      rw [stp_dst]
      assumption
    · walk_at "go"
      refine s_sl ?_
      walk_at "go"
      refine ⟨_, W, Hh, half, rfl, ⟨tb, rfl, hb⟩, hW, hH, fun p H1 hp hs hl => ?_⟩
      obtain ⟨xs, hx, hp2⟩ := id hl
      refine ⟨p, xs, pairsL W Hh half, rfl, hx, hp2, Nat.le_trans (pairsL_len hW hH) (by decide), hT.ext hs, fun ys p2 H2 eN hT2 hy hys => ?_⟩
      exact k p2 H2 (LamX.ExtN.trans (.of hs) eN) hT2 ⟨ys, hy, hys⟩
theorem LsR.upN {α : Type} {R : Hp → V → α → Prop} {H H' : Hp} {p : Addr} {as : List α} (t : Tr R) (h : LsR R H p as) (s : LamX.ExtN H H') : LsR R H' p as :=
  h.up2 t (fun a xs e => s a _ e fun _ z => by cases z) fun xs e => s p _ e fun _ z => by cases z
theorem NTab.upN {κ : Type} [DecidableEq κ] {T : KT κ} {P : Program} {w : World} {H H' : Hp} {d : Addr} {kvs : List (κ × V)} (h : NTab T P w H d kvs) (s : LamX.ExtN H H') : NTab T P w H' d kvs :=
  h.upD (fun o e => s d _ e fun _ z => by cases z) fun a xs e => s a _ e fun _ z => by cases z
def TX (z : Str) (cs : List Str) : Prop := z.length ≤ 100000 ∧ z.cps.toList.map (fun c => (⟨#[c]⟩ : Str)) = cs
theorem TX.len {z : Str} {cs : List Str} (h : TX z cs) : z.length = cs.length := by
  rw [← h.2]; simp [PySem.Str.length]
def steepL (half : Str) : Str := if half = "rising" then "N" else "S"
def spForm : Sp := fun vs H Q _ => ∃ vb, ∃ W Hh : Nat, ∃ half z, ∃ F : Fn, vs = [vb, .str half, .str z] ∧ Cn H vb ((W : Int), (Hh : Int)) ∧ W ≤ 8 ∧ Hh ≤ 8 ∧ TX z ((pairsL W Hh half).map F) ∧ (∀ b ∈ pairsL W Hh half, F b = "E" ∨ F b = steepL half) ∧ ∀ H', Same H H' → Q (.bl true) H'
theorem sc_has_table_form : FnScope ["board", "half", "letters", "letter"] ["board", "half", "letters"] (defScope s_has_table_form) := ⟨rfl, rfl, rfl, by decide +kernel, rfl, by decide +kernel, by decide +kernel⟩
theorem c_has_table_form (g : Gs mg) (c_pairs_of : Cal P w K mg base 3 "pairs_of" ["board", "half"] spPairs) (c_steep_letter : Cal P w K mg base 1 "steep_letter" ["half"] spSteep) {f : Addr} (hm : mg "has_table_form" = some (.ref f)) (F : Fd K "has_table_form" "has_table_form" s_has_table_form f) : Cal P w K mg base 4 "has_table_form" ["board", "half", "letters"] spForm := by
  refine Cal.mk' hm (fn_mk (k := 3) F sc_has_table_form (fun _ _ _ _ _ _ us hl => match us, hl with | [_, _, _], _ => rfl) (fun vs H Q E h => ?_) (fun cdv A outer s H vs Q E hr h => ?_))
  · obtain ⟨_, _, _, _, _, _, rfl, _⟩ := h; rfl
  · obtain ⟨vb, W, Hh, half, z, F, rfl, ⟨tb, rfl, hb⟩, hW, hH, tx, hF, k⟩ := h
    refine ⟨_, (pss_cons (ps_if (pt_cmpR op_ne (pe_callB cr_lenS (by rfl) g.len (by rfl) (pa_cons (pv 2) pa_nil)) (pe_callB cr_len (by rfl) g.len (by rfl) (pa_cons (pc c_pairs_of hr (pa_cons (pv 0) (pa_cons (pv 1) pa_nil))) pa_nil)) (nomark _)) (pss_one (ps_ret (pe_bl))) pss_nil)
      (pss_cons (ps_for PassesOwn.never rfl (pi_str (pv 2)) (pg_name (i := 3) sc_has_table_form.nd rfl (.inl rfl)) (pss_one (ps_if (pt_cmpR op_notIn_seq (pv 3) (pe_utup (pa_cons (pe_str) (pa_cons (pc c_steep_letter hr (pa_cons (pv 1) pa_nil)) pa_nil))) (by with_unfolding_all rfl)) (pss_one (ps_ret (pe_bl))) pss_nil)))
      (pss_one (ps_ret (pe_bl))))), ?_⟩
    have hz : z.length ≤ sizeLine := Nat.le_trans tx.1 (by decide)
    walk_at "go"
    refine ⟨_, W, Hh, half, rfl, ⟨tb, rfl, hb⟩, hW, hH, fun p H1 hp hs hl => ?_⟩
    obtain ⟨xs, hx, hp2⟩ := id hl
    have hxl := Paired.length hp2
    walk_at "go"
    have e1 : (z.length : Int) = (xs.length : Int) := by rw [tx.len, List.length_map, hxl]
    refine ite3n (fun h1 => absurd e1 h1) (fun _ => ?_)
    walk_at "go"
    refine u_chars tx.2 (fun i σ H2 => ∃ a, σ = [some (.ref tb), some (.str half), some (.str z), a] ∧ Same H H2) ⟨_, rfl, hs⟩ (fun i c σ H2 hi h => ?_) (fun σ H2 h => ?_)
    · obtain ⟨a, rfl, s2⟩ := h
      walk_at "go"
      refine ⟨half, rfl, ?_⟩
      walk_at "go"
      refine ⟨_, _, rfl, .inr (SqT.of (by assumption)), rfl, rfl, ?_⟩
      have hc : c = "E" ∨ c = steepL half := by
        rw [List.getElem?_map] at hi
        cases e : (pairsL W Hh half)[i]? with
        | none => rw [e] at hi; cases hi
        | some b =>
          rw [e] at hi
          have : F b = c := Option.some.inj hi
          rw [← this]
          exact hF b (List.mem_of_getElem? e)
      have e2 : inV (V.str c) [V.str "E", V.str (if half = "rising" then "N" else "S")] = true := by
        show inV (V.str c) [V.str "E", V.str (steepL half)] = true
        unfold inV
        rcases hc with rfl | rfl <;> simp [eqV]
      rw [if_pos rfl, e2]
      walk_at "go"
      exact ⟨_, rfl, Same.trans s2 (by walk_at "sm")⟩
    · obtain ⟨a, rfl, s2⟩ := h
      walk_at "go"
      exact k _ s2
end
end Cp
end
section
namespace Cp
open PySem PySem.Spec PyProof.Rows L2
local macro_rules | `(tactic| walk_at "f") => `(tactic| first | assumption | (refine' keep_of ?_ (by assumption); walk_at "f") | (refine Cn.up ?_ (by assumption); walk_at "f") | (refine Pr.up ?_ (by assumption); walk_at "f") | (refine NTab.up ?_ (by assumption); walk_at "f") | (refine LsR.up (by first | exact trC | exact trP | exact trI | assumption) ?_ (by assumption); walk_at "f"))
local macro_rules | `(tactic| walk_at "sm") => `(tactic| first | exact Same.refl _ | assumption | (refine same_tr ?_ (by assumption); walk_at "sm"))
local macro_rules | `(tactic| walk_at "fr") => `(tactic| first | assumption | (refine nof ?_ (by assumption); walk_at "fr"))
local macro_rules | `(tactic| walk_at "s1") => `(tactic| first
  | with_reducible refine s_seq ?_ | with_reducible refine s_ret ?_ | with_reducible refine s_asg ?_ | with_reducible refine s_if ?_ | with_reducible refine s_next ?_ | with_reducible refine s_drop ?_
  | ((with_reducible refine' s_var ?h ?q); (case h => exact rfl)) | with_reducible refine s_c ?_ | with_reducible refine s_op ?_ | with_reducible refine s_I0 ?_
  | with_reducible refine s_eqI ?_ | with_reducible refine s_neI ?_ | with_reducible refine s_eqS ?_ | with_reducible refine s_neS ?_
  | with_reducible refine s_test ?_ | with_reducible refine s_tB ?_ | with_reducible refine s_bl ?_ | with_reducible refine s_and ?_ | with_reducible refine s_or ?_ | with_reducible refine s_not ?_ | with_reducible refine s_andV ?_ | with_reducible refine s_chain ?_
  | with_reducible refine s_cons ?_ | with_reducible refine s_nil ?_ | with_reducible refine s_tup ?_ | with_reducible refine s_lst ?_
  | with_reducible refine s_CB ?_ | with_reducible refine s_call ?_ | with_reducible refine s_gname ?_ | with_reducible refine s_gcons ?_ | with_reducible refine s_gnil ?_
  | ((with_reducible refine' s_gtup ?h ?e ?q); (case h => walk_at "f"); (case e => exact rfl))
  | ((with_reducible refine' s_ixT ?h ?e ?q); (case h => walk_at "f"); (case e => exact rfl))
  | (with_reducible refine s_BM ?_) | ((with_reducible refine s_new ?z ?q); (case z => exact rfl); intro p H1 hp hs hv))
local macro_rules | `(tactic| walk_at "s2") => `(tactic| first
  | walk_at "s1" | with_reducible refine iteF ?_ | with_reducible refine iteT ?_ | with_reducible refine u_tup ?_ | with_reducible refine u_lst ?_ | ((with_reducible refine u_newT ?z ?q); (case z => exact rfl); intro p H1 hp hs hv) | ((with_reducible refine u_newL ?z ?q); (case z => exact rfl); intro p H1 hp hs hv) | with_reducible refine s_min2 ?_ | with_reducible refine s_gsub ?_ | ((with_reducible refine s_lenS ?z ?q); (case z => assumption)) | with_reducible refine s_rng1 ?_ | with_reducible refine s_rng2 ?_ | with_reducible refine s_list ?_ | with_reducible refine s_istr ?_ | with_reducible refine u_str ?_ | with_reducible refine s_for ?_ | with_reducible refine s_lc ?_ | with_reducible refine s_lc2 ?_ | with_reducible refine s_yes ?_ | with_reducible refine s_bm ?_ | with_reducible refine s_mth ?_ | with_reducible refine s_abs ?_ | with_reducible refine s_int1 ?_ | with_reducible refine s_nget ?_ | with_reducible refine s_fld ?_
  | ((with_reducible refine' s_lenL ?h ?q); (case h => walk_at "f"))
  | ((with_reducible refine' s_lenT ?h ?q); (case h => walk_at "f")))
local macro_rules | `(tactic| walk_at "go") => `(tactic| repeat walk_at "s2")
theorem nodup_flat {α β : Type} {f : α → List β} {l : List α} (hl : l.Nodup) (h1 : ∀ a ∈ l, (f a).Nodup) (h2 : ∀ a b x, x ∈ f a → x ∈ f b → a = b) : (l.flatMap f).Nodup := by
  unfold List.Nodup at *
  rw [List.pairwise_flatMap]
  refine ⟨h1, hl.imp fun {a b} hab x hx y hy e => ?_⟩
  subst e
  exact hab (h2 a b x hx hy)
theorem nodup_map {α β : Type} {f : α → β} {l : List α} (hl : l.Nodup) (h : ∀ a b, f a = f b → a = b) : (l.map f).Nodup := by
  unfold List.Nodup at *
  rw [List.pairwise_map]
  exact hl.imp fun {a b} hab e => hab (h a b e)
theorem cornersL_nodup (W Hh : Nat) : (cornersL W Hh).Nodup := by
  unfold cornersL
  refine nodup_flat List.nodup_range (fun a _ => nodup_map List.nodup_range fun b c e => ?_) fun a b x hx hy => ?_
  · have := congrArg Prod.snd e
    have h2 : ((b : Nat) : Int) = (c : Nat) := this
    omega
  · obtain ⟨c, _, rfl⟩ := List.mem_map.mp hx
    obtain ⟨d, _, e⟩ := List.mem_map.mp hy
    have := congrArg Prod.fst e
    have h2 : ((b : Nat) : Int) = (a : Nat) := this
    omega
theorem rgI_nodup (lo hi : Int) : (rgI lo hi).Nodup := nodup_map List.nodup_range fun a b e => by omega
theorem rowR_mem {p : Pt} {x lo hi : Int} {b : Pq} : b ∈ rowR p x lo hi ↔ b.1 = p ∧ b.2.1 = x ∧ lo ≤ b.2.2 ∧ b.2.2 < hi := by
  unfold rowR
  obtain ⟨b1, b2, b3⟩ := b
  simp only [List.mem_map, rgI_mem]
  constructor
  · rintro ⟨y, hy, e⟩
    cases e
    exact ⟨rfl, rfl, hy⟩
  · rintro ⟨rfl, rfl, hy⟩
    exact ⟨b3, hy, rfl⟩
theorem atR_mem {p : Pt} {W lo hi : Int} {b : Pq} : b ∈ atR p W lo hi ↔ b.1 = p ∧ (p.1 + 1 ≤ b.2.1 ∧ b.2.1 < W + 1) ∧ lo ≤ b.2.2 ∧ b.2.2 < hi := by
  unfold atR
  rw [List.mem_flatMap]
  constructor
  · rintro ⟨x, hx, hb⟩
    obtain ⟨h1, h2, h3⟩ := rowR_mem.mp hb
    subst h2
    exact ⟨h1, rgI_mem.mp hx, h3⟩
  · rintro ⟨h1, h2, h3⟩
    exact ⟨_, rgI_mem.mpr h2, rowR_mem.mpr ⟨h1, rfl, h3⟩⟩
theorem atR_nodup (p : Pt) (W lo hi : Int) : (atR p W lo hi).Nodup := by
  refine nodup_flat (rgI_nodup _ _) (fun x _ => nodup_map (rgI_nodup _ _) fun a b e => ?_) fun a b x hx hy => ?_
  · cases e; rfl
  · rw [← (rowR_mem.mp hx).2.1, ← (rowR_mem.mp hy).2.1]
theorem accR_nodup {W Hh : Nat} {lo hi : Pt → Int} : (accR (cornersL W Hh) W lo hi).Nodup :=
  nodup_flat (cornersL_nodup W Hh) (fun p _ => atR_nodup _ _ _ _) fun a b x hx hy => by rw [← (atR_mem.mp hx).1, ← (atR_mem.mp hy).1]
theorem pairsL_nodup (W Hh : Nat) (half : Str) : (pairsL W Hh half).Nodup := by
  unfold pairsL
  split
  · exact accR_nodup (lo := fun p => p.2 + 1) (hi := fun _ => (Hh : Int) + 1)
  · exact accR_nodup (lo := fun _ => 0) (hi := fun p => p.2)
def OnB (W Hh : Nat) (c : Pt) : Prop := 0 ≤ c.1 ∧ c.1 ≤ W ∧ 0 ≤ c.2 ∧ c.2 ≤ Hh
/-- the half's pairs -/
theorem rising_mem {W Hh : Nat} {b : Pq} : b ∈ risingL W Hh ↔ OnB W Hh b.1 ∧ OnB W Hh b.2 ∧ b.1.1 < b.2.1 ∧ b.1.2 < b.2.2 := by
  unfold risingL OnB
  rw [List.mem_flatMap]
  constructor
  · rintro ⟨p, hp, hb⟩
    obtain ⟨h1, h2, h3⟩ := atR_mem.mp hb
    have h4 := cornersL_mem.mp hp
    subst h1
    omega
  · rintro ⟨h1, h2, h3⟩
    exact ⟨b.1, cornersL_mem.mpr h1, atR_mem.mpr ⟨rfl, by omega, by omega⟩⟩
theorem falling_mem {W Hh : Nat} {b : Pq} : b ∈ fallingL W Hh ↔ OnB W Hh b.1 ∧ OnB W Hh b.2 ∧ b.1.1 < b.2.1 ∧ b.2.2 < b.1.2 := by
  unfold fallingL OnB
  rw [List.mem_flatMap]
  constructor
  · rintro ⟨p, hp, hb⟩
    obtain ⟨h1, h2, h3⟩ := atR_mem.mp hb
    have h4 := cornersL_mem.mp hp
    subst h1
    omega
  · rintro ⟨h1, h2, h3⟩
    exact ⟨b.1, cornersL_mem.mpr h1, atR_mem.mpr ⟨rfl, by omega, by omega⟩⟩
def tabL (F : Fn) (ps : List Pq) : List (Pq × V) := ps.map fun b => (b, V.str (F b))
theorem look_tab {F : Fn} {b : Pq} : ∀ {ps : List Pq}, b ∈ ps → look (tabL F ps) b = some (.str (F b))
  | [], h => by cases h
  | c :: ps, h => by
    unfold tabL
    rw [List.map_cons, look_cons]
    by_cases e : c = b
    · subst e; rw [if_pos rfl]
    · rw [if_neg e]
      rcases List.mem_cons.mp h with h | h
      · exact absurd h.symm e
      · exact look_tab h
theorem tab_keys (F : Fn) (ps : List Pq) : (tabL F ps).map (·.1) = ps := by
  unfold tabL
  rw [List.map_map]
  exact List.map_id' _
theorem put_new {κ : Type} [DecidableEq κ] {kvs : List (κ × V)} {k : κ} {v : V} (h : k ∉ kvs.map (·.1)) : put kvs k v = kvs ++ [(k, v)] := by
  unfold put
  rw [look_none.mpr h]
  rfl
section
variable {P : Program} {w : World} {K : PySem.W.Frag} {mg : Str → Option Value} {base : Heap} {C : Addr}
theorem LsR.addrs {H : Hp} {p : Addr} {ps : List Pq} (h : LsR Pr H p ps) : ∃ es : List (Pq × Addr), es.map (·.1) = ps ∧ H p = some (.lst (es.map fun e => V.ref e.2)) ∧ ∀ e ∈ es, Pr H (.ref e.2) e.1 := by
  obtain ⟨xs, hx, q⟩ := h
  have : ∃ es : List (Pq × Addr), es.map (·.1) = ps ∧ xs = (es.map fun e => V.ref e.2) ∧ ∀ e ∈ es, Pr H (.ref e.2) e.1 := by
    clear hx
    induction q with
    | nil => exact ⟨[], rfl, rfl, fun e he => by cases he⟩
    | @cons a b xs ys r _ ih =>
      obtain ⟨es, e1, e2, e3⟩ := ih
      obtain ⟨t, v1, v2, rfl, r'⟩ := id r
      refine ⟨(b, t) :: es, by rw [List.map_cons, e1], by rw [List.map_cons, e2], fun e he => ?_⟩
      rcases List.mem_cons.mp he with rfl | he
      · exact r
      · exact e3 e he
  obtain ⟨es, e1, rfl, e3⟩ := this
  exact ⟨es, e1, hx, e3⟩
def spByP (P : Program) (w : World) : Sp := fun vs H Q _ => ∃ vb, ∃ W Hh : Nat, ∃ half z, ∃ F : Fn, vs = [vb, .str half, .str z] ∧ Cn H vb ((W : Int), (Hh : Int)) ∧ W ≤ 8 ∧ Hh ≤ 8 ∧ TX z ((pairsL W Hh half).map F) ∧ ∀ D H', H D = none → Same H H' → NTab kt2 P w H' D (tabL F (pairsL W Hh half)) → Q (.ref D) H'
theorem sc_letters_by_pair : FnScope ["board", "half", "letters"] ["board", "half", "letters"] (defScope s_letters_by_pair) := ⟨rfl, rfl, rfl, by decide +kernel, rfl, by decide +kernel, by decide +kernel⟩
theorem c_letters_by_pair (g : Gs mg) (c_pairs_of : Cal P w K mg base 3 "pairs_of" ["board", "half"] spPairs) {f : Addr} (hm : mg "letters_by_pair" = some (.ref f)) (F : Fd K "letters_by_pair" "letters_by_pair" s_letters_by_pair f) : Cal P w K mg base 4 "letters_by_pair" ["board", "half", "letters"] (spByP P w) := by
  refine Cal.mk' hm (fn_mk (k := 3) F sc_letters_by_pair (fun _ _ _ _ _ _ us hl => match us, hl with | [_, _, _], _ => rfl) (fun vs H Q E h => ?_) (fun cdv A outer s H vs Q E hr h => ?_))
  · obtain ⟨_, _, _, _, _, _, rfl, _⟩ := h; rfl
  · obtain ⟨vb, W, Hh, half, z, F, rfl, ⟨tb, rfl, hb⟩, hW, hH, tx, k⟩ := h
    refine ⟨_, pss_one (ps_ret (pe_ndc kt2 rfl hr.units g.zip (pa_cons (pc c_pairs_of hr (pa_cons (pv 0) (pa_cons (pv 1) pa_nil))) (pa_cons (pv 2) pa_nil)) rfl (by decide +kernel) (by decide +kernel) rfl rfl (by decide))), ?_⟩
    refine s_ret ?_
    unfold tNdc
    walk_at "go"
    refine ⟨_, W, Hh, half, rfl, ⟨tb, rfl, hb⟩, hW, hH, fun p H1 hp hs hl => ?_⟩
    walk_at "go"
    obtain ⟨es, e1, e2, e3⟩ := hl.addrs
    have hlen : es.length = z.cps.toList.length := by
      have h1 := congrArg List.length e1
      have h2 := congrArg List.length tx.2
      rw [List.length_map] at h1
      rw [List.length_map, List.length_map] at h2
      omega
    have hp2 := pairsL_len (half := half) hW hH
    refine ⟨p, es, z, rfl, e2, hlen, ?_, by rw [e1]; exact pairsL_nodup _ _ _, e3, fun D H2 hD hs2 nt => k D H2 (nof hD hs) (Same.trans hs hs2) ?_⟩
    · have h1 := congrArg List.length e1
      rw [List.length_map] at h1
      omega
    · have e4 : (es.map (·.1)).zip (z.cps.toList.map fun c => V.str ⟨#[c]⟩) = tabL F (pairsL W Hh half) := by
        rw [e1]
        have : (z.cps.toList.map fun c => V.str ⟨#[c]⟩) = ((pairsL W Hh half).map F).map V.str := by rw [← tx.2, List.map_map]; rfl
        rw [this, List.map_map]
        unfold tabL
        generalize pairsL W Hh half = l
        induction l with
        | nil => rfl
        | cons a l ih => rw [List.map_cons, List.zip_cons_cons, ih]; rfl
      rw [← e4]
      exact nt
theorem codeO_ndo {c : Addr} {q : Str} {o : Obj} {es : Array DictEntry} {ep : Nat} (hd : o.data = .dict es ep) : LamX.CodeO c q ≠ NDo c o := by
  intro h
  unfold LamX.CodeO NDo at h
  injection h with h
  have hg : (⟨Array.replicate (c + 1) o, {}⟩ : Heap).get? c = some o := by
    refine Heap.get?_some_iff.mpr ⟨by simp, ?_⟩
    obtain ⟨oc, od, dt, osl⟩ := o
    have e : dt = .dict es ep := hd
    subst e
    rfl
  have h2 := congrFun h ⟨Array.replicate (c + 1) o, {}⟩
  obtain ⟨oc, vs, t, e1, e2, e3⟩ := h2.mpr hg
  rw [hg] at e1
  cases e1
  rw [hd] at e2
  cases e2
theorem Tabs.but {κ : Type} [DecidableEq κ] {Tk : KT κ} {T : List (Addr × Str)} {H H' : Hp} {D : Addr} {kvs : List (κ × V)} (t : LamX.Tabs T H) (h : NTab Tk P w H D kvs) (b : But D H H') : LamX.Tabs T H' := by
  intro p hp
  obtain ⟨ps, h1, h2, h3⟩ := t p hp
  obtain ⟨o, ho⟩ := h
  obtain ⟨xs, ys, es, ep, _, _, _, hdt, _⟩ := id ho.ex
  refine ⟨ps, b _ _ (fun z => ?_) h1, h2, fun pos cv hc => ?_⟩
  · rw [z, ho.at_] at h1
    cases h1
  · obtain ⟨c, e1, e2⟩ := h3 pos cv hc
    refine ⟨c, e1, b _ _ (fun z => ?_) e2⟩
    subst z
    rw [ho.at_] at e2
    exact codeO_ndo hdt (Option.some.inj e2).symm
theorem ExtN.but {H H1 H' : Hp} {D : Addr} (e : LamX.ExtN H H1) (f : H D = none) (b : But D H1 H') : LamX.ExtN H H' := fun a o h n => b a o (ne_of_none h f) (e a o h n)
def LastOk (W Hh : Nat) (half : Str) (F G : Fn) : Prop := ∀ b ∈ pairsL W Hh half, G b = ltr G (mv b.1 (F b)) b.2 ∧ ((mv b.1 (F b)).2 ≠ b.2.2 → (mv b.1 (F b)).1 ≠ b.2.1 → (mv b.1 (F b), b.2) ∈ pairsL W Hh half ∧ stp (mv b.1 (F b), b.2) < stp b)
theorem sortS_mem {bs : List Pq} {b : Pq} : b ∈ sortS bs ↔ b ∈ bs := (List.mergeSort_perm bs _).mem_iff
theorem sortS_nodup {bs : List Pq} (h : bs.Nodup) : (sortS bs).Nodup := (List.mergeSort_perm bs _).nodup_iff.mpr h
theorem sortS_len {bs : List Pq} : (sortS bs).length = bs.length := List.length_mergeSort _
theorem sortS_first (bs : List Pq) : (sortS bs).Pairwise fun a b => stp a ≤ stp b := sorted_first (fun _ => rfl) bs
def spLast (P : Program) (w : World) (Pt : Addr) : Sp := fun vs H Q _ => ∃ vb, ∃ W Hh : Nat, ∃ half d, ∃ F G : Fn, ∃ kvs, vs = [vb, .str half, .ref d] ∧ Cn H vb ((W : Int), (Hh : Int)) ∧ W ≤ 8 ∧ Hh ≤ 8 ∧ NTab kt2 P w H d kvs ∧ (∀ b ∈ pairsL W Hh half, look kvs b = some (.str (F b))) ∧ LastOk W Hh half F G ∧ LamX.Tabs (lamT Pt) H ∧
  ∀ D H' kvs', LamX.ExtN H H' → LamX.Tabs (lamT Pt) H' → NTab kt2 P w H' D kvs' → (∀ b ∈ pairsL W Hh half, look kvs' b = some (.str (G b))) → Q (.ref D) H'
theorem sc_last_letters : FnScope ["board", "half", "table", "lasts", "p", "q"] ["board", "half", "table"] (defScope s_last_letters) := ⟨rfl, rfl, rfl, by decide +kernel, rfl, by decide +kernel, by decide +kernel⟩
theorem c_last_letters (g : Gs mg) {Pt : Addr} (c_pairs_by_steps : Cal P w K mg base 6 "pairs_by_steps" ["board", "half"] (spByS Pt)) (c_first_letter : Cal P w K mg base 1 "first_letter" ["table", "p", "q"] (spLetter P w)) (c_moved : Cal P w K mg base 1 "moved" ["corner", "letter"] spMoved) {f : Addr} (hm : mg "last_letters" = some (.ref f)) (F : Fd K "last_letters" "last_letters" s_last_letters f) : Cal P w K mg base 7 "last_letters" ["board", "half", "table"] (spLast P w Pt) := by
  refine Cal.mk' hm (fn_mk (k := 6) F sc_last_letters (fun _ _ _ _ _ _ us hl => match us, hl with | [_, _, _], _ => rfl) (fun vs H Q E h => ?_) (fun cdv A outer s H vs Q E hr h => ?_))
  · obtain ⟨_, _, _, _, _, _, _, _, rfl, _⟩ := h; rfl
  · obtain ⟨vb, W, Hh, half, d, F, G, kvs, rfl, ⟨tb, rfl, hb⟩, hW, hH, hd, hl, ok, hT, k⟩ := h
    refine ⟨_, (pss_cons (ps_asg (pe_nnew kt2) (pg_name (i := 3) sc_last_letters.nd rfl (.inl rfl)))
      (pss_cons (ps_for PassesOwn.never rfl (pi_list (pc c_pairs_by_steps hr (pa_cons (pv 0) (pa_cons (pv 1) pa_nil)))) (pg_tup rfl (pgs_cons (pg_name (i := 4) sc_last_letters.nd rfl (.inl rfl)) (pgs_cons (pg_name (i := 5) sc_last_letters.nd rfl (.inl rfl)) pgs_nil))) (pss_one (ps_asg (pc c_first_letter hr (pa_cons (pv 3) (pa_cons (pc c_moved hr (pa_cons (pv 4) (pa_cons (pe_nget kt2 hr.units (pv 2) (pe_utup (pa_cons (pv 4) (pa_cons (pv 5) pa_nil))) (fun _ _ => rfl)) pa_nil))) (pa_cons (pv 5) pa_nil)))) (pg_sub (pv 3) (pe_utup (pa_cons (pv 4) (pa_cons (pv 5) pa_nil))) (set_n kt2 hr.units)))))
      (pss_one (ps_ret (pv 3))))), ?_⟩
    refine s_seq ?_
    refine s_asg ?_
    intro D H1 hD hs1 hnt
    walk_at "go"
    refine ⟨_, W, Hh, half, rfl, ⟨tb, rfl, by walk_at "f"⟩, hW, hH, hT.ext hs1, fun p H2 eN hT2 hls => ?_⟩
    obtain ⟨xs, hx, _⟩ := id hls
    refine u_list hx ?_
    have hss := sortS_first (pairsL W Hh half)
    have hnd := sortS_nodup (pairsL_nodup W Hh half)
    have hln : (sortS (pairsL W Hh half)).length ≤ 81 * 81 := by rw [sortS_len]; exact pairsL_len hW hH
    have hDd : D ≠ d := fun z => by
      obtain ⟨o, ho⟩ := hd
      rw [z] at hD
      rw [ho.at_] at hD
      cases hD
    refine u_items (fun i σ H3 => ∃ a b, σ = [some (.ref tb), some (.str half), some (.ref d), some (.ref D), a, b] ∧ LsR Pr H3 p (sortS (pairsL W Hh half)) ∧ NTab kt2 P w H3 d kvs ∧ NTab kt2 P w H3 D (tabL G ((sortS (pairsL W Hh half)).take i)) ∧ LamX.ExtN H H3 ∧ LamX.Tabs (lamT Pt) H3)
      ⟨_, _, rfl, hls, (hd.up hs1).upN eN, hnt.upN eN, LamX.ExtN.trans (.of hs1) eN, hT2⟩ (fun i σ H3 _ h => by obtain ⟨_, _, _, h, _⟩ := h; exact h) (fun i b x σ H3 hi hx h => ?_) (fun σ H3 h => ?_)
    · obtain ⟨a, c, rfl, hls3, hd3, hD3, eN3, hT3⟩ := h
      obtain ⟨t, v1, v2, rfl, ht, hv1, hv2⟩ := hx
      have hbm : b ∈ pairsL W Hh half := sortS_mem.mp (List.mem_of_getElem? hi)
      obtain ⟨g1, g2⟩ := ok b hbm
      walk_at "go"
      refine u_nget (k := b) (kvs := kvs) (by walk_at "f") ⟨_, _, _, rfl, by assumption, by walk_at "f", by walk_at "f"⟩ (hl b hbm) ?_
      walk_at "go"
      refine ⟨v1, b.1, F b, rfl, by walk_at "f", fun r H4 hr4 hs4 hm4 => ?_⟩
      walk_at "go"
      refine ⟨D, _, _, mv b.1 (F b), b.2, G, _, rfl, hD3.up (by walk_at "sm"), ⟨r, rfl, hm4⟩, by walk_at "f", fun q1 q2 => ?_, fun H5 hs5 => ?_⟩
      · obtain ⟨g3, g4⟩ := g2 q1 q2
        exact look_tab (earlier hss hi (sortS_mem.mpr g3) g4)
      walk_at "go"
      have hkl : (tabL G ((sortS (pairsL W Hh half)).take i)).length ≤ 81 * 81 := by
        unfold tabL
        rw [List.length_map, List.length_take]
        omega
      refine u_nset (k := b) (kvs := tabL G ((sortS (pairsL W Hh half)).take i)) (by walk_at "f") (by omega) ⟨_, _, _, rfl, by assumption, by walk_at "f", by walk_at "f"⟩ fun H7 nt7 bu7 _ => ?_
      have e7 : put (tabL G ((sortS (pairsL W Hh half)).take i)) b (V.str (ltr G (mv b.1 (F b)) b.2)) = tabL G ((sortS (pairsL W Hh half)).take (i + 1)) := by
        rw [← g1, put_new, List.take_add_one, hi]
        · unfold tabL; simp
        · rw [tab_keys]
          intro hm
          obtain ⟨j, hj, e⟩ := List.mem_iff_getElem.mp hm
          rw [List.getElem_take] at e
          obtain ⟨hi', e2⟩ := List.getElem?_eq_some_iff.mp hi
          rw [List.length_take] at hj
          have := List.pairwise_iff_getElem.mp hnd j i (by omega) hi' (by omega)
          exact this (e.trans e2.symm)
      rw [e7] at nt7
      have hD6 : NTab kt2 P w _ D (tabL G ((sortS (pairsL W Hh half)).take i)) := hD3.up (Same.trans (Same.trans (show Same H3 _ by assumption) (by assumption)) (Same.trans hs5 (by assumption)))
      have hf : H D = none := hD
      refine ⟨_, _, rfl, LsR.but trP (by walk_at "f") hD6 bu7, NTab.but (T' := kt2) (kvs' := tabL G ((sortS (pairsL W Hh half)).take i)) (by walk_at "f") hD6 bu7 (fun z => hDd z.symm), nt7, ExtN.but (LamX.ExtN.trans eN3 (.of (by walk_at "sm"))) hf bu7, Tabs.but (hT3.ext (by walk_at "sm")) hD6 bu7⟩
    · obtain ⟨a, c, rfl, hls3, hd3, hD3, eN3, hT3⟩ := h
      rw [List.take_length] at hD3
      walk_at "go"
      exact k D _ _ eN3 hT3 hD3 fun b hb => look_tab (sortS_mem.mpr hb)
/-- the check of a half: what stands ahead of the last step -/
def ChkOk (W Hh : Nat) (half : Str) (F G : Fn) : Prop := ∀ b ∈ pairsL W Hh half, ltr F b.1 (bk b.2 (G b)) = F b ∧ (b.1.2 ≠ (bk b.2 (G b)).2 → b.1.1 ≠ (bk b.2 (G b)).1 → (b.1, bk b.2 (G b)) ∈ pairsL W Hh half)
def spFind (Pt : Addr) : Sp := fun vs H Q _ => ∃ vb, ∃ W Hh : Nat, ∃ half z, ∃ F G : Fn, vs = [vb, .str half, .str z] ∧ Cn H vb ((W : Int), (Hh : Int)) ∧ W ≤ 8 ∧ Hh ≤ 8 ∧ TX z ((pairsL W Hh half).map F) ∧ LastOk W Hh half F G ∧ ChkOk W Hh half F G ∧ LamX.Tabs (lamT Pt) H ∧
  ∀ H', LamX.ExtN H H' → LamX.Tabs (lamT Pt) H' → Q .non H'
theorem sc_find_broken_pair : FnScope ["board", "half", "letters", "table", "lasts", "p", "q", "end"] ["board", "half", "letters"] (defScope s_find_broken_pair) := ⟨rfl, rfl, rfl, by decide +kernel, rfl, by decide +kernel, by decide +kernel⟩
theorem c_find_broken_pair (g : Gs mg) {Pt : Addr} (c_letters_by_pair : Cal P w K mg base 4 "letters_by_pair" ["board", "half", "letters"] (spByP P w)) (c_last_letters : Cal P w K mg base 7 "last_letters" ["board", "half", "table"] (spLast P w Pt)) (c_pairs_by_steps : Cal P w K mg base 6 "pairs_by_steps" ["board", "half"] (spByS Pt)) (c_first_letter : Cal P w K mg base 1 "first_letter" ["table", "p", "q"] (spLetter P w)) (c_before : Cal P w K mg base 1 "before" ["q", "letter"] spBefore) {f : Addr} (hm : mg "find_broken_pair" = some (.ref f)) (F : Fd K "find_broken_pair" "find_broken_pair" s_find_broken_pair f) : Cal P w K mg base 8 "find_broken_pair" ["board", "half", "letters"] (spFind Pt) := by
  refine Cal.mk' hm (fn_mk (k := 7) F sc_find_broken_pair (fun _ _ _ _ _ _ us hl => match us, hl with | [_, _, _], _ => rfl) (fun vs H Q E h => ?_) (fun cdv A outer s H vs Q E hr h => ?_))
  · obtain ⟨_, _, _, _, _, _, _, rfl, _⟩ := h; rfl
  · obtain ⟨vb, W, Hh, half, z, F, G, rfl, ⟨tb, rfl, hb⟩, hW, hH, tx, lok, cok, hT, k⟩ := h
    refine ⟨_, (pss_cons (ps_asg (pc c_letters_by_pair hr (pa_cons (pv 0) (pa_cons (pv 1) (pa_cons (pv 2) pa_nil)))) (pg_name (i := 3) sc_find_broken_pair.nd rfl (.inl rfl)))
      (pss_cons (ps_asg (pc c_last_letters hr (pa_cons (pv 0) (pa_cons (pv 1) (pa_cons (pv 3) pa_nil)))) (pg_name (i := 4) sc_find_broken_pair.nd rfl (.inl rfl)))
      (pss_cons (ps_for PassesOwn.never rfl (pi_list (pc c_pairs_by_steps hr (pa_cons (pv 0) (pa_cons (pv 1) pa_nil)))) (pg_tup rfl (pgs_cons (pg_name (i := 5) sc_find_broken_pair.nd rfl (.inl rfl)) (pgs_cons (pg_name (i := 6) sc_find_broken_pair.nd rfl (.inl rfl)) pgs_nil))) (pss_cons (ps_asg (pc c_before hr (pa_cons (pv 6) (pa_cons (pe_nget kt2 hr.units (pv 4) (pe_utup (pa_cons (pv 5) (pa_cons (pv 6) pa_nil))) (fun _ _ => rfl)) pa_nil))) (pg_name (i := 7) sc_find_broken_pair.nd rfl (.inl rfl)))
      (pss_one (ps_if (pt_cmpR op_ne (pc c_first_letter hr (pa_cons (pv 3) (pa_cons (pv 5) (pa_cons (pv 7) pa_nil)))) (pe_nget kt2 hr.units (pv 3) (pe_utup (pa_cons (pv 5) (pa_cons (pv 6) pa_nil))) (fun _ _ => rfl)) (nomark _)) (pss_one (ps_ret (pe_utup (pa_cons (pv 5) (pa_cons (pv 6) pa_nil))))) pss_nil))))
      (pss_one (ps_ret (pe_non)))))), ?_⟩
    walk_at "go"
    refine ⟨_, W, Hh, half, z, F, rfl, ⟨tb, rfl, hb⟩, hW, hH, tx, fun d H1 hd0 hs1 hd1 => ?_⟩
    walk_at "go"
    refine ⟨_, W, Hh, half, d, F, G, _, rfl, ⟨tb, rfl, by walk_at "f"⟩, hW, hH, hd1, fun b hb => look_tab hb, lok, hT.ext hs1, fun D H2 kl eN2 hT2 hD2 hl2 => ?_⟩
    have hd2 := hd1.upN eN2
    have eN02 : LamX.ExtN H H2 := LamX.ExtN.trans (.of hs1) eN2
    walk_at "go"
    refine ⟨_, W, Hh, half, rfl, ⟨tb, rfl, eN02 _ _ hb fun _ z => by cases z⟩, hW, hH, hT2, fun p H3 eN3 hT3 hls => ?_⟩
    obtain ⟨xs, hx, _⟩ := id hls
    refine u_list hx ?_
    refine u_items (fun i σ H4 => ∃ a b c, σ = [some (.ref tb), some (.str half), some (.str z), some (.ref d), some (.ref D), a, b, c] ∧ Same H3 H4) ⟨_, _, _, rfl, Same.refl _⟩ (fun i σ H4 _ h => by obtain ⟨_, _, _, _, s⟩ := h; exact hls.up trP s) (fun i b x σ H4 hi hx h => ?_) (fun σ H4 h => ?_)
    · obtain ⟨a, c, e, rfl, s4⟩ := h
      obtain ⟨t, v1, v2, rfl, ht, hv1, hv2⟩ := hx
      have hbm : b ∈ pairsL W Hh half := sortS_mem.mp (List.mem_of_getElem? hi)
      obtain ⟨g1, g2⟩ := cok b hbm
      have hD4 : NTab kt2 P w H4 D kl := (hD2.upN eN3).up s4
      have hd4 : NTab kt2 P w H4 d (tabL F (pairsL W Hh half)) := (hd2.upN eN3).up s4
      walk_at "go"
      refine u_nget (k := b) (kvs := kl) (by walk_at "f") ⟨_, _, _, rfl, by assumption, by walk_at "f", by walk_at "f"⟩ (hl2 b hbm) ?_
      walk_at "go"
      refine ⟨v2, b.2, G b, rfl, by walk_at "f", fun r H5 hr5 hs5 hm5 => ?_⟩
      walk_at "go"
      refine ⟨d, _, _, b.1, bk b.2 (G b), F, tabL F (pairsL W Hh half), rfl, by walk_at "f", by walk_at "f", ⟨r, rfl, hm5⟩, fun q1 q2 => look_tab (g2 q1 q2), fun H6 hs6 => ?_⟩
      walk_at "go"
      refine u_nget (k := b) (kvs := tabL F (pairsL W Hh half)) (by walk_at "f") ⟨_, _, _, rfl, by assumption, by walk_at "f", by walk_at "f"⟩ (look_tab hbm) ?_
      walk_at "go"
      refine ite3n (fun h1 => absurd g1 h1) (fun _ => ?_)
      walk_at "go"
      exact ⟨_, _, _, rfl, by walk_at "sm"⟩
    · obtain ⟨a, c, e, rfl, s4⟩ := h
      walk_at "go"
      exact k _ (LamX.ExtN.trans eN02 (LamX.ExtN.trans eN3 (.of s4))) (hT3.ext s4)
end
end Cp
end
section
namespace Cp
open PySem PySem.Spec PyProof.Rows L2
/-! ### walks -/
/-- the letters of a table are of the right kind -/
def Vd (W Hh : Nat) (F : Fn) : Prop := ∀ p q, OnB W Hh p → OnB W Hh q → p.1 < q.1 → p.2 ≠ q.2 → F (p, q) = "E" ∨ F (p, q) = (if q.2 < p.2 then "S" else "N")
theorem mv_E (c : Pt) : mv c "E" = (c.1 + 1, c.2) := by unfold mv; rw [if_pos rfl]
theorem mv_N (c : Pt) : mv c "N" = (c.1, c.2 + 1) := by unfold mv; rw [if_neg (by decide), if_pos rfl]
theorem mv_S (c : Pt) : mv c "S" = (c.1, c.2 - 1) := by unfold mv; rw [if_neg (by decide), if_neg (by decide)]
theorem bk_E (c : Pt) : bk c "E" = (c.1 - 1, c.2) := by unfold bk; rw [if_pos rfl]
theorem bk_N (c : Pt) : bk c "N" = (c.1, c.2 - 1) := by unfold bk; rw [if_neg (by decide), if_pos rfl]
theorem bk_S (c : Pt) : bk c "S" = (c.1, c.2 + 1) := by unfold bk; rw [if_neg (by decide), if_neg (by decide)]
/-- which letters a step from p to q may have -/
theorem ltr_cases {W Hh : Nat} {F : Fn} {p q : Pt} (v : Vd W Hh F) (hp : OnB W Hh p) (hq : OnB W Hh q) (hle : p.1 ≤ q.1) (hne : p ≠ q) :
    (ltr F p q = "E" ∧ p.1 < q.1) ∨ (ltr F p q = "N" ∧ p.2 < q.2) ∨ (ltr F p q = "S" ∧ q.2 < p.2) := by
  obtain ⟨p1, p2⟩ := p
  obtain ⟨q1, q2⟩ := q
  unfold ltr
  by_cases h1 : p2 = q2
  · rw [if_pos h1]
    left
    refine ⟨rfl, ?_⟩
    have : p1 ≠ q1 := fun e => hne (by rw [e, h1])
    simp only at hle ⊢
    omega
  · rw [if_neg h1]
    by_cases h2 : p1 = q1
    · rw [if_pos h2]
      by_cases h3 : p2 < q2
      · rw [if_pos h3]; exact .inr (.inl ⟨rfl, h3⟩)
      · rw [if_neg h3]; exact .inr (.inr ⟨rfl, by simp only; omega⟩)
    · rw [if_neg h2]
      simp only at hle
      have hlt : p1 < q1 := by omega
      rcases v (p1, p2) (q1, q2) hp hq hlt h1 with e | e
      · rw [e]; exact .inl ⟨rfl, hlt⟩
      · rw [e]
        by_cases h3 : q2 < p2
        · rw [if_pos h3]; exact .inr (.inr ⟨rfl, h3⟩)
        · rw [if_neg h3]; exact .inr (.inl ⟨rfl, by simp only; omega⟩)
theorem nx_ok {W Hh : Nat} {F : Fn} {p q : Pt} (v : Vd W Hh F) (hp : OnB W Hh p) (hq : OnB W Hh q) (hle : p.1 ≤ q.1) (hne : p ≠ q) : OnB W Hh (nx F p q) ∧ (nx F p q).1 ≤ q.1 ∧ dst (nx F p q) q + 1 = dst p q := by
  unfold nx
  unfold OnB at *
  rcases ltr_cases v hp hq hle hne with ⟨e, h⟩ | ⟨e, h⟩ | ⟨e, h⟩
  · rw [e, mv_E]; unfold dst; simp only; omega
  · rw [e, mv_N]; unfold dst; simp only; omega
  · rw [e, mv_S]; unfold dst; simp only; omega
theorem dst_zero {p q : Pt} (h : dst p q = 0) : p = q := by
  obtain ⟨p1, p2⟩ := p
  obtain ⟨q1, q2⟩ := q
  unfold dst at h
  simp only at h
  have h1 : p1 = q1 := by omega
  have h2 : p2 = q2 := by omega
  rw [h1, h2]
theorem dst_self (q : Pt) : dst q q = 0 := by unfold dst; omega
theorem dst_symm (p q : Pt) : dst p q = dst q p := by unfold dst; omega
theorem walk_end (F : Fn) (q : Pt) : walk F q q = [q] := by
  unfold walk
  rw [dst_self]
  rfl
theorem walk_step' {F : Fn} {p q : Pt} (hne : p ≠ q) (h : dst (nx F p q) q + 1 = dst p q) : walk F p q = p :: walk F (nx F p q) q := by
  unfold walk
  rw [← h, walkN, if_neg hne]
theorem walk_step {W Hh : Nat} {F : Fn} {p q : Pt} (v : Vd W Hh F) (hp : OnB W Hh p) (hq : OnB W Hh q) (hle : p.1 ≤ q.1) (hne : p ≠ q) : walk F p q = p :: walk F (nx F p q) q := walk_step' hne (nx_ok v hp hq hle hne).2.2
theorem walk_len {W Hh : Nat} {F : Fn} {q : Pt} (v : Vd W Hh F) (hq : OnB W Hh q) : ∀ (n : Nat) (p : Pt), dst p q = n → OnB W Hh p → p.1 ≤ q.1 → (walk F p q).length = n + 1
  | 0, p, h, _, _ => by rw [dst_zero h, walk_end]; rfl
  | n + 1, p, h, hp, hle => by
    have hne : p ≠ q := fun e => by rw [e, dst_self] at h; cases h
    obtain ⟨h1, h2, h3⟩ := nx_ok v hp hq hle hne
    rw [walk_step v hp hq hle hne, List.length_cons, walk_len v hq n _ (by omega) h1 h2]
theorem ltP_asymm {p q : Pt} (h : ltP p q = true) : ltP q p = false := by
  unfold ltP at *
  simp only [Bool.or_eq_true, Bool.and_eq_true, decide_eq_true_eq, Bool.or_eq_false_iff, Bool.and_eq_false_iff, decide_eq_false_iff_not] at *
  omega
theorem ltP_le {p q : Pt} (h : ltP p q = true) : p.1 ≤ q.1 := by
  unfold ltP at h
  simp only [Bool.or_eq_true, Bool.and_eq_true, decide_eq_true_eq] at h
  omega
theorem ltP_not {p q : Pt} (h : ltP p q = false) : q.1 ≤ p.1 := by
  unfold ltP at h
  simp only [Bool.or_eq_false_iff, Bool.and_eq_false_iff, decide_eq_false_iff_not] at h
  omega
end Cp
end
section
namespace Cp
open PySem PySem.Spec PyProof.Rows L2
/-! ### walks: what stands on them -/
section
variable {W Hh : Nat} {F : Fn}
/-- what one may say of the ends of a walk -/
structure Ok (W Hh : Nat) (p q : Pt) : Prop where
  bp : OnB W Hh p
  bq : OnB W Hh q
  le : p.1 ≤ q.1
theorem Ok.nx (v : Vd W Hh F) {p q : Pt} (o : Ok W Hh p q) (h : p ≠ q) : Ok W Hh (Cp.nx F p q) q ∧ dst (Cp.nx F p q) q + 1 = dst p q := by
  obtain ⟨h1, h2, h3⟩ := nx_ok v o.bp o.bq o.le h
  exact ⟨⟨h1, o.bq, h2⟩, h3⟩
theorem ok_step (v : Vd W Hh F) {p q : Pt} (o : Ok W Hh p q) (h : p ≠ q) : walk F p q = p :: walk F (nx F p q) q := walk_step v o.bp o.bq o.le h
/-- a step's shape -/
theorem nx_shape (v : Vd W Hh F) {p q : Pt} (o : Ok W Hh p q) (h : p ≠ q) :
    (nx F p q = (p.1 + 1, p.2) ∧ p.1 < q.1) ∨ (nx F p q = (p.1, p.2 + 1) ∧ p.2 < q.2) ∨ (nx F p q = (p.1, p.2 - 1) ∧ q.2 < p.2) := by
  unfold nx
  rcases ltr_cases v o.bp o.bq o.le h with ⟨e, h⟩ | ⟨e, h⟩ | ⟨e, h⟩
  · rw [e, mv_E]; exact .inl ⟨rfl, h⟩
  · rw [e, mv_N]; exact .inr (.inl ⟨rfl, h⟩)
  · rw [e, mv_S]; exact .inr (.inr ⟨rfl, h⟩)
/-- c lies between -/
def Btw (p c q : Pt) : Prop := p.1 ≤ c.1 ∧ c.1 ≤ q.1 ∧ ((p.2 ≤ c.2 ∧ c.2 ≤ q.2) ∨ (q.2 ≤ c.2 ∧ c.2 ≤ p.2))
theorem walk_btw (v : Vd W Hh F) {q : Pt} : ∀ (n : Nat) (p : Pt), dst p q = n → Ok W Hh p q → ∀ c ∈ walk F p q, Btw p c q
  | 0, p, h, o, c, hc => by
    have e := dst_zero h
    subst e
    rw [walk_end] at hc
    rw [List.mem_singleton.mp hc]
    exact ⟨Int.le_refl _, Int.le_refl _, .inl ⟨Int.le_refl _, Int.le_refl _⟩⟩
  | n + 1, p, h, o, c, hc => by
    have hne : p ≠ q := fun e => by rw [e, dst_self] at h; cases h
    obtain ⟨o1, h1⟩ := o.nx v hne
    rw [ok_step v o hne] at hc
    have hle := o.le
    rcases List.mem_cons.mp hc with rfl | hc
    · unfold Btw; omega
    · have ih := walk_btw v n _ (by omega) o1 c hc
      unfold Btw at *
      rcases nx_shape v o hne with ⟨e, h2⟩ | ⟨e, h2⟩ | ⟨e, h2⟩ <;> rw [e] at ih <;> simp only at ih <;> omega
theorem btw_onB {p c q : Pt} (o : Ok W Hh p q) (b : Btw p c q) : OnB W Hh c := by
  have h1 := o.bp
  have h2 := o.bq
  unfold OnB Btw at *
  omega
theorem btw_dst {p c q : Pt} (b : Btw p c q) : dst p c + dst c q = dst p q := by
  unfold Btw at b
  unfold dst
  omega
/-- the point ahead of the end -/
def pen (L : List Pt) : Pt := L.getD (L.length - 2) (0, 0)
theorem walk_ne_nil (F : Fn) (p q : Pt) : walk F p q ≠ [] := by
  unfold walk
  cases h : dst p q with
  | zero => simp [walkN]
  | succ n =>
    unfold walkN
    split <;> simp
theorem pen_cons {p : Pt} {L : List Pt} (h : 2 ≤ L.length) : pen (p :: L) = pen L := by
  unfold pen
  rw [List.length_cons, List.getD_eq_getElem?_getD, List.getD_eq_getElem?_getD, show L.length + 1 - 2 = (L.length - 2) + 1 by omega, List.getElem?_cons_succ]
theorem len_of (v : Vd W Hh F) {p q : Pt} (o : Ok W Hh p q) : (walk F p q).length = dst p q + 1 := walk_len v o.bq _ p rfl o.bp o.le
theorem walk_last (v : Vd W Hh F) {q : Pt} : ∀ (n : Nat) (p : Pt), dst p q = n → Ok W Hh p q → ∃ L, walk F p q = L ++ [q] ∧ L.length = n
  | 0, p, h, _ => by
    have e := dst_zero h
    subst e
    exact ⟨[], by rw [walk_end]; rfl, rfl⟩
  | n + 1, p, h, o => by
    have hne : p ≠ q := fun e => by rw [e, dst_self] at h; cases h
    obtain ⟨o1, h1⟩ := o.nx v hne
    obtain ⟨L, e, hl⟩ := walk_last v n _ (by omega : dst (nx F p q) q = n) o1
    exact ⟨p :: L, by rw [ok_step v o hne, e]; rfl, by rw [List.length_cons, hl]⟩
theorem pen_step (v : Vd W Hh F) {p q : Pt} (o : Ok W Hh p q) (h : p ≠ q) (h2 : nx F p q ≠ q) : pen (walk F p q) = pen (walk F (nx F p q) q) := by
  obtain ⟨o1, h1⟩ := o.nx v h
  rw [ok_step v o h]
  refine pen_cons ?_
  rw [len_of v o1]
  have : dst (nx F p q) q ≠ 0 := fun e => h2 (dst_zero e)
  omega
theorem pen_near (v : Vd W Hh F) {p q : Pt} (o : Ok W Hh p q) (h : p ≠ q) (h2 : nx F p q = q) : pen (walk F p q) = p := by
  rw [ok_step v o h, h2, walk_end]
  rfl
/-- the point ahead of the end: on the walk, one step off the end -/
theorem pen_ok (v : Vd W Hh F) {q : Pt} : ∀ (n : Nat) (p : Pt), dst p q = n + 1 → Ok W Hh p q → Btw p (pen (walk F p q)) q ∧ dst (pen (walk F p q)) q = 1 ∧ pen (walk F p q) ∈ walk F p q
  | n, p, h, o => by
    have hne : p ≠ q := fun e => by rw [e, dst_self] at h; cases h
    obtain ⟨o1, h1⟩ := o.nx v hne
    have mem : pen (walk F p q) ∈ walk F p q := by
      unfold pen
      have hl := len_of v o
      rw [List.getD_eq_getElem?_getD, List.getElem?_eq_getElem (by omega)]
      exact List.getElem_mem _
    refine ⟨walk_btw v _ p rfl o _ mem, ?_, mem⟩
    by_cases h2 : nx F p q = q
    · rw [pen_near v o hne h2]
      rw [h2, dst_self] at h1
      omega
    · rw [pen_step v o hne h2]
      match n with
      | 0 => exact absurd (dst_zero (by omega : dst (nx F p q) q = 0)) h2
      | n + 1 => exact (pen_ok v n _ (by omega : dst (nx F p q) q = n + 1) o1).2.1
/-- the first letter is that of the point ahead of the end -/
def AdmTo (W Hh : Nat) (F : Fn) (n : Nat) : Prop := ∀ p q, Ok W Hh p q → 2 ≤ dst p q → dst p q ≤ n → ltr F p (pen (walk F p q)) = ltr F p q
/-- .. for pairs with a letter of the table: the straight ones have it by themselves -/
theorem adm_of (v : Vd W Hh F) {n : Nat} (h : ∀ p q, Ok W Hh p q → p.1 < q.1 → p.2 ≠ q.2 → dst p q ≤ n → ltr F p (pen (walk F p q)) = ltr F p q) : AdmTo W Hh F n := by
  intro p q o h2 hn
  obtain ⟨b, hd, _⟩ := pen_ok v (dst p q - 1) p (by omega) o
  have hb := btw_dst b
  by_cases h1 : p.2 = q.2
  · have e : (pen (walk F p q)).2 = p.2 := by unfold Btw at b; omega
    unfold ltr
    rw [if_pos h1, if_pos e.symm]
  · by_cases h3 : p.1 = q.1
    · have e : (pen (walk F p q)).1 = p.1 := by unfold Btw at b; omega
      have e2 : p.2 ≠ (pen (walk F p q)).2 := fun e2 => by
        unfold dst at hb hd h2
        omega
      unfold ltr
      rw [if_neg h1, if_pos h3, if_neg e2, if_pos e.symm]
      by_cases h4 : p.2 < q.2
      · rw [if_pos h4, if_pos (by unfold Btw at b; omega)]
      · rw [if_neg h4, if_neg (by unfold Btw at b; omega)]
    · exact h p q o (by have := o.le; omega) h1 hn
theorem AdmTo.mono {n m : Nat} (a : AdmTo W Hh F n) (h : m ≤ n) : AdmTo W Hh F m := fun p q o h1 h2 => a p q o h1 (Nat.le_trans h2 h)
/-- all but the end of a walk is a walk -/
theorem cons_walk (v : Vd W Hh F) {q : Pt} : ∀ (n : Nat) (p : Pt), dst p q = n + 1 → Ok W Hh p q → AdmTo W Hh F (n + 1) → (walk F p q).dropLast = walk F p (pen (walk F p q))
  | 0, p, h, o, a => by
    have hne : p ≠ q := fun e => by rw [e, dst_self] at h; cases h
    obtain ⟨o1, h1⟩ := o.nx v hne
    have e : nx F p q = q := dst_zero (by omega)
    rw [pen_near v o hne e, walk_end, ok_step v o hne, e, walk_end]
    rfl
  | n + 1, p, h, o, a => by
    have hne : p ≠ q := fun e => by rw [e, dst_self] at h; cases h
    obtain ⟨o1, h1⟩ := o.nx v hne
    have hm : nx F p q ≠ q := fun e => by rw [e, dst_self] at h1; omega
    obtain ⟨b, hd, _⟩ := pen_ok v (n + 1) p h o
    have hb := btw_dst b
    have oe : Ok W Hh p (pen (walk F p q)) := ⟨o.bp, btw_onB o b, b.1⟩
    have hpe : p ≠ pen (walk F p q) := fun e => by rw [← e] at hd; omega
    have hn : nx F p (pen (walk F p q)) = nx F p q := by
      unfold nx
      rw [a p q o (by omega) (by omega)]
    rw [ok_step v oe hpe, hn, ok_step v o hne]
    have ih := cons_walk v n (nx F p q) (by omega) o1 (a.mono (by omega))
    have e2 : pen (p :: walk F (nx F p q) q) = pen (walk F (nx F p q) q) := by
      rw [← ok_step v o hne]; exact pen_step v o hne hm
    rw [e2]
    have hnn := walk_ne_nil F (nx F p q) q
    rw [List.dropLast_cons_of_ne_nil hnn, ih]
/-- the first letter to a point of the walk -/
theorem first_same (v : Vd W Hh F) {p : Pt} : ∀ (n : Nat) (q : Pt), dst p q = n + 1 → Ok W Hh p q → AdmTo W Hh F (n + 1) → ∀ c ∈ walk F p q, c ≠ p → ltr F p c = ltr F p q
  | n, q, h, o, a, c, hc, hcp => by
    obtain ⟨L, e, hl⟩ := walk_last v _ p rfl o
    have hcons := cons_walk v n p h o a
    obtain ⟨b, hd, _⟩ := pen_ok v n p h o
    have hb := btw_dst b
    by_cases hcq : c = q
    · rw [hcq]
    have hcd : c ∈ (walk F p q).dropLast := by
      rw [e, List.dropLast_concat]
      rw [e] at hc
      rcases List.mem_append.mp hc with h | h
      · exact h
      · exact absurd (List.mem_singleton.mp h) hcq
    rw [hcons] at hcd
    match n with
    | 0 =>
      have : dst p (pen (walk F p q)) = 0 := by omega
      rw [← dst_zero this, walk_end] at hcd
      exact absurd (List.mem_singleton.mp hcd) hcp
    | n + 1 =>
      have oe : Ok W Hh p (pen (walk F p q)) := ⟨o.bp, btw_onB o b, b.1⟩
      rw [first_same v n _ (by omega) oe (a.mono (by omega)) c hcd hcp]
      exact a p q o (by omega) (by omega)
end
end Cp
end
section
namespace Cp
open PySem PySem.Spec PyProof.Rows L2
section
variable {W Hh : Nat} {F : Fn}
def ptk (F : Fn) (q : Pt) : Nat → Pt → Pt
  | 0, p => p
  | k + 1, p => ptk F q k (nx F p q)
theorem ptk_ok (v : Vd W Hh F) {q : Pt} : ∀ (k : Nat) (p : Pt), Ok W Hh p q → k ≤ dst p q → Ok W Hh (ptk F q k p) q ∧ dst (ptk F q k p) q + k = dst p q ∧ ptk F q k p ∈ walk F p q
  | 0, p, o, h => ⟨o, rfl, by
    show p ∈ walk F p q
    by_cases e : p = q
    · rw [e, walk_end]; exact List.mem_singleton.mpr rfl
    · rw [ok_step v o e]; exact List.mem_cons_self⟩
  | k + 1, p, o, h => by
    have hne : p ≠ q := fun e => by rw [e, dst_self] at h; omega
    obtain ⟨o1, h1⟩ := o.nx v hne
    obtain ⟨a, b, c⟩ := ptk_ok v k (nx F p q) o1 (by omega)
    refine ⟨a, by show dst (ptk F q k (nx F p q)) q + (k + 1) = _; omega, ?_⟩
    rw [ok_step v o hne]
    exact List.mem_cons_of_mem _ c
theorem ptk_succ (F : Fn) (q : Pt) : ∀ (k : Nat) (p : Pt), ptk F q (k + 1) p = nx F (ptk F q k p) q
  | 0, p => rfl
  | k + 1, p => by
    show ptk F q (k + 1) (nx F p q) = nx F (ptk F q k (nx F p q)) q
    exact ptk_succ F q k (nx F p q)
theorem ptk_btw (v : Vd W Hh F) {p q : Pt} {k : Nat} (o : Ok W Hh p q) (h : k ≤ dst p q) : Btw p (ptk F q k p) q := walk_btw v _ p rfl o _ (ptk_ok v k p o h).2.2
theorem ptk_x (v : Vd W Hh F) {p q : Pt} {k : Nat} (o : Ok W Hh p q) (h : k < dst p q) : (ptk F q k p).1 ≤ (ptk F q (k + 1) p).1 ∧ (ptk F q (k + 1) p).1 ≤ (ptk F q k p).1 + 1 := by
  obtain ⟨a, b, c⟩ := ptk_ok v k p o (by omega)
  have hne : ptk F q k p ≠ q := fun e => by rw [e, dst_self] at b; omega
  rw [ptk_succ]
  rcases nx_shape v a hne with ⟨e, h2⟩ | ⟨e, h2⟩ | ⟨e, h2⟩ <;> rw [e] <;> simp only <;> omega
theorem pen_ptk (v : Vd W Hh F) {q : Pt} : ∀ (k : Nat) (p : Pt), Ok W Hh p q → k < dst p q → pen (walk F p q) = pen (walk F (ptk F q k p) q)
  | 0, p, o, h => rfl
  | k + 1, p, o, h => by
    have hne : p ≠ q := fun e => by rw [e, dst_self] at h; omega
    obtain ⟨o1, h1⟩ := o.nx v hne
    have hm : nx F p q ≠ q := fun e => by rw [e, dst_self] at h1; omega
    rw [pen_step v o hne hm]
    exact pen_ptk v k (nx F p q) o1 (by omega)
theorem pen_at (v : Vd W Hh F) {p q : Pt} (o : Ok W Hh p q) {n : Nat} (h : dst p q = n + 1) : pen (walk F p q) = ptk F q n p := by
  rw [pen_ptk v n p o (by omega)]
  obtain ⟨a, b, c⟩ := ptk_ok v n p o (by omega)
  have hd : dst (ptk F q n p) q = 1 := by omega
  have hne : ptk F q n p ≠ q := fun e => by rw [e, dst_self] at hd; cases hd
  refine pen_near v a hne ?_
  obtain ⟨_, h1⟩ := a.nx v hne
  exact dst_zero (by omega)
theorem cross {d : Nat → Int} {a : Nat} : ∀ n, (∀ k, a ≤ k → k < a + n → d k - 1 ≤ d (k + 1)) → 0 < d a → d (a + n) < 0 → ∃ k, a ≤ k ∧ k < a + n ∧ d k = 0
  | 0, _, h0, h1 => absurd h1 (by
    show ¬ d (a + 0) < 0
    rw [Nat.add_zero]; omega)
  | n + 1, hs, h0, h1 => by
    by_cases h : d (a + n) < 0
    · obtain ⟨k, h2, h3, h4⟩ := cross n (fun k h2 h3 => hs k h2 (by omega)) h0 h
      exact ⟨k, h2, by omega, h4⟩
    · have := hs (a + n) (by omega) (by omega)
      exact ⟨a + n, by omega, by omega, by
        have e : a + (n + 1) = a + n + 1 := rfl
        rw [e] at h1
        omega⟩
def steep (p q : Pt) : Str := if q.2 < p.2 then "S" else "N"
theorem ltr_two (v : Vd W Hh F) {p q c : Pt} (o : Ok W Hh p q) (h : p.2 ≠ q.2) (b : Btw p c q) (hc : p ≠ c) : (ltr F p c = "E" ∧ p.1 < c.1) ∨ (ltr F p c = steep p q ∧ p.2 ≠ c.2) := by
  have oc : Ok W Hh p c := ⟨o.bp, btw_onB o b, b.1⟩
  unfold steep
  unfold Btw at b
  rcases ltr_cases v oc.bp oc.bq oc.le hc with ⟨e, h2⟩ | ⟨e, h2⟩ | ⟨e, h2⟩
  · exact .inl ⟨e, h2⟩
  · rw [if_neg (by omega)]; exact .inr ⟨e, by omega⟩
  · rw [if_pos (by omega)]; exact .inr ⟨e, by omega⟩
theorem steep_ne (p q : Pt) : steep p q ≠ "E" := by
  unfold steep
  split <;> decide
theorem mv_steep {p q : Pt} (h : p.2 ≠ q.2) : (mv p (steep p q)).1 = p.1 ∧ ((p.2 < q.2 ∧ (mv p (steep p q)).2 = p.2 + 1) ∨ (q.2 < p.2 ∧ (mv p (steep p q)).2 = p.2 - 1)) := by
  unfold steep
  by_cases h1 : q.2 < p.2
  · rw [if_pos h1, mv_S]; exact ⟨rfl, .inr ⟨h1, rfl⟩⟩
  · rw [if_neg h1, mv_N]; exact ⟨rfl, .inl ⟨by omega, rfl⟩⟩
/-- one of the two letters may stand -/
theorem one_stands (v : Vd W Hh F) {p q : Pt} (o : Ok W Hh p q) (hx : p.1 < q.1) (hy : p.2 ≠ q.2) {n : Nat} (hn : dst p q = n + 1) (a : AdmTo W Hh F n) :
    ltr F p (pen (walk F (mv p "E") q)) = "E" ∨ ltr F p (pen (walk F (mv p (steep p q)) q)) = steep p q := by
  obtain ⟨s1, s2⟩ := mv_steep hy
  have hn1 : 1 ≤ n := by unfold dst at hn; omega
  have oE : Ok W Hh (mv p "E") q := ⟨by
    have h1 := o.bp
    have h2 := o.bq
    rw [mv_E]
    unfold OnB at *
    simp only
    omega, o.bq, by rw [mv_E]; simp only; omega⟩
  have oT : Ok W Hh (mv p (steep p q)) q := ⟨by
    have h1 := o.bp
    have h2 := o.bq
    unfold OnB at *
    omega, o.bq, by omega⟩
  have dE : dst (mv p "E") q = n := by rw [mv_E]; unfold dst at *; simp only; omega
  have dT : dst (mv p (steep p q)) q = n := by unfold dst at *; omega
  obtain ⟨m, rfl⟩ : ∃ m, n = m + 1 := ⟨n - 1, by omega⟩
  obtain ⟨b1, d1, _⟩ := pen_ok v m _ dE oE
  obtain ⟨b2, d2, _⟩ := pen_ok v m _ dT oT
  have p1 := pen_at v oE dE
  have p2 := pen_at v oT dT
  generalize he1 : pen (walk F (mv p "E") q) = e1 at *
  generalize he2 : pen (walk F (mv p (steep p q)) q) = e2 at *
  have hE1 : (mv p "E").1 = p.1 + 1 ∧ (mv p "E").2 = p.2 := by rw [mv_E]; exact ⟨rfl, rfl⟩
  have B1 : Btw p e1 q := by unfold Btw at *; omega
  have B2 : Btw p e2 q := by unfold Btw at *; omega
  have n1 : p ≠ e1 := fun e => by rw [← e, hn] at d1; omega
  have n2 : p ≠ e2 := fun e => by rw [← e, hn] at d2; omega
  rcases ltr_two v o hy B1 n1 with ⟨h1, _⟩ | ⟨h1, _⟩
  · exact .inl h1
  refine (ltr_two v o hy B2 n2).elim (fun ⟨h2, _⟩ => ?_) fun ⟨h2, _⟩ => .inr h2
  exfalso
  by_cases hee : e1 = e2
  · rw [hee, h2] at h1
    exact steep_ne p q h1.symm
  have hxx : (e1.1 = q.1 - 1 ∧ e2.1 = q.1) ∨ (e1.1 = q.1 ∧ e2.1 = q.1 - 1) := by
    have : e1.1 ≠ e2.1 ∨ e1.2 ≠ e2.2 := by
      by_cases h : e1.1 = e2.1
      · right
        intro h'
        exact hee (Prod.ext h h')
      · exact .inl h
    unfold Btw at B1 B2
    unfold dst at d1 d2
    omega
  rcases hxx with ⟨x1, x2⟩ | ⟨x1, x2⟩
  · -- the two walks to q meet
    obtain ⟨k, _, hk, hd⟩ := cross (d := fun k => (ptk F q k (mv p "E")).1 - (ptk F q k (mv p (steep p q))).1) (a := 0) m (fun k _ hk => by
      have g1 := ptk_x v oE (k := k) (by omega)
      have g2 := ptk_x v oT (k := k) (by omega)
      show (ptk F q k (mv p "E")).1 - (ptk F q k (mv p (steep p q))).1 - 1 ≤ (ptk F q (k + 1) (mv p "E")).1 - (ptk F q (k + 1) (mv p (steep p q))).1
      omega) (by
      show 0 < (mv p "E").1 - (mv p (steep p q)).1
      omega) (by
      rw [Nat.zero_add]
      show (ptk F q m (mv p "E")).1 - (ptk F q m (mv p (steep p q))).1 < 0
      rw [← p1, ← p2]
      omega)
    have k1 := ptk_ok v k _ oE (by omega)
    have k2 := ptk_ok v k _ oT (by omega)
    have w1 := ptk_btw v oE (k := k) (by omega)
    have w2 := ptk_btw v oT (k := k) (by omega)
    have same : ptk F q k (mv p "E") = ptk F q k (mv p (steep p q)) := by
      refine Prod.ext (by have : _ - _ = (0 : Int) := hd; omega) ?_
      have hd' : (ptk F q k (mv p "E")).1 - (ptk F q k (mv p (steep p q))).1 = 0 := hd
      have q1 := k1.2.1
      have q2 := k2.2.1
      unfold Btw at w1 w2
      unfold dst at q1 q2 dE dT
      omega
    refine hee ?_
    rw [← he1, ← he2, pen_ptk v k _ oE (by omega), pen_ptk v k _ oT (by omega), same]
  · -- the two walks from p meet
    have o1 : Ok W Hh p e1 := ⟨o.bp, btw_onB o B1, B1.1⟩
    have o2 : Ok W Hh p e2 := ⟨o.bp, btw_onB o B2, B2.1⟩
    have D1 : dst p e1 = m + 1 := by have := btw_dst B1; omega
    have D2 : dst p e2 = m + 1 := by have := btw_dst B2; omega
    have f1 : ptk F e1 1 p = mv p (steep p q) := by show mv p (ltr F p e1) = _; rw [h1]
    have f2 : ptk F e2 1 p = mv p "E" := by show mv p (ltr F p e2) = _; rw [h2]
    have l1 : ptk F e1 (m + 1) p = e1 := by
      have := (ptk_ok v (m + 1) p o1 (by omega)).2.1
      exact dst_zero (by omega)
    have l2 : ptk F e2 (m + 1) p = e2 := by
      have := (ptk_ok v (m + 1) p o2 (by omega)).2.1
      exact dst_zero (by omega)
    obtain ⟨k, hk1, hk, hd⟩ := cross (d := fun k => (ptk F e2 k p).1 - (ptk F e1 k p).1) (a := 1) m (fun k _ hk => by
      have g1 := ptk_x v o1 (k := k) (by omega)
      have g2 := ptk_x v o2 (k := k) (by omega)
      show (ptk F e2 k p).1 - (ptk F e1 k p).1 - 1 ≤ (ptk F e2 (k + 1) p).1 - (ptk F e1 (k + 1) p).1
      omega) (by
      show 0 < (ptk F e2 1 p).1 - (ptk F e1 1 p).1
      rw [f1, f2]
      omega) (by
      show (ptk F e2 (1 + m) p).1 - (ptk F e1 (1 + m) p).1 < 0
      rw [Nat.add_comm 1 m, l1, l2]
      omega)
    have k1 := ptk_ok v k _ o1 (by omega)
    have k2 := ptk_ok v k _ o2 (by omega)
    have w1 := ptk_btw v o1 (k := k) (by omega)
    have w2 := ptk_btw v o2 (k := k) (by omega)
    have hd' : (ptk F e2 k p).1 - (ptk F e1 k p).1 = 0 := hd
    have z1 := btw_dst w1
    have z2 := btw_dst w2
    have same : ptk F e1 k p = ptk F e2 k p := by
      refine Prod.ext (by omega) ?_
      have q1 := k1.2.1
      have q2 := k2.2.1
      have y1 : dst p (ptk F e1 k p) = k := by omega
      have y2 : dst p (ptk F e2 k p) = k := by omega
      unfold Btw at w1 w2 B1 B2
      unfold dst at y1 y2
      omega
    have cp : ptk F e1 k p ≠ p := fun e => by
      have : dst p (ptk F e1 k p) = k := by have := k1.2.1; omega
      rw [e, dst_self] at this
      omega
    have t1 := first_same v m e1 D1 o1 a _ k1.2.2 cp
    have t2 := first_same v m e2 D2 o2 a _ k2.2.2 (by rw [← same]; exact cp)
    rw [← same] at t2
    rw [t1, h1, h2] at t2
    exact steep_ne p q t2
end
end Cp
end
section
namespace Cp
open PySem PySem.Spec PyProof.Rows L2
/-! ### lists of corners as data -/
theorem eqv_eP (a b : Pt) : PyData.eqv (eP a) (eP b) = decide (a = b) := by
  obtain ⟨a1, a2⟩ := a
  obtain ⟨b1, b2⟩ := b
  unfold eP
  simp only [PyData.eqv, PyData.eqvAll, Bool.and_true, Prod.mk.injEq, Bool.decide_and]
  rfl
def eLs (cs : List Pt) : PyData := .list (cs.map eP)
theorem eqvAll_eP : ∀ (as bs : List Pt), PyData.eqvAll (as.map eP) (bs.map eP) = decide (as = bs)
  | [], [] => by simp [PyData.eqvAll]
  | [], _ :: _ => by simp [PyData.eqvAll]
  | _ :: _, [] => by simp [PyData.eqvAll]
  | a :: as, b :: bs => by
    rw [List.map_cons, List.map_cons, PyData.eqvAll, eqv_eP, eqvAll_eP as bs]
    simp only [List.cons.injEq, Bool.decide_and]
theorem eqv_eLs (as bs : List Pt) : PyData.eqv (eLs as) (eLs bs) = decide (as = bs) := by
  unfold eLs
  simp only [PyData.eqv]
  exact eqvAll_eP as bs
theorem canLay_eP (a : Pt) : (eP a).canLay0 = true := by simp [eP, PyData.canLay0, PyData.canLayAll0]
theorem canLay_all : ∀ cs : List Pt, PyData.canLayAll0 (cs.map eP) = true
  | [] => rfl
  | c :: cs => by rw [List.map_cons, PyData.canLayAll0, canLay_eP, canLay_all cs]; rfl
theorem depth_eP (a : Pt) : (eP a).depth ≤ 4 := by simp [eP, PyData.depth, PyData.depthAll]
theorem depth_all : ∀ cs : List Pt, PyData.depthAll (cs.map eP) ≤ 8
  | [] => by simp [PyData.depthAll]
  | c :: cs => by
    have h1 := depth_eP c
    have h2 := depth_all cs
    simp only [List.map_cons, PyData.depthAll]
    omega
theorem shaped_eP (a : Pt) : SeqAt.shaped (eP a) = true := by
  unfold SeqAt.shaped
  have := depth_eP a
  rw [canLay_eP, Bool.true_and]
  exact decide_eq_true (by omega)
theorem shaped_eLs (cs : List Pt) : SeqAt.shaped (eLs cs) = true := by
  unfold SeqAt.shaped eLs
  have h := depth_all cs
  have h1 : (PyData.list (cs.map eP)).canLay0 = true := by
    show PyData.canLayAll0 (cs.map eP) = true
    exact canLay_all cs
  rw [h1, Bool.true_and]
  refine decide_eq_true ?_
  simp only [PyData.depth]
  omega
theorem paired_at2 {α β : Type} {F : α → β → Prop} : ∀ {l : List α} {m : List β}, Paired F l m → ∀ {i : Nat} {b : β}, m[i]? = some b → ∃ a, l[i]? = some a ∧ F a b
  | _, _, .nil, _, _, e => by simp at e
  | _, _, .cons r _, 0, _, e => by simp at e; subst e; exact ⟨_, rfl, r⟩
  | _, _, .cons _ t, i + 1, _, e => by
    obtain ⟨a, h1, h2⟩ := paired_at2 t (i := i) (by simpa using e)
    exact ⟨a, by simpa using h1, h2⟩
theorem paired_atI {α β : Type} {F : α → β → Prop} {l : List α} {m : List β} (p : Paired F l m) {i : Int} {b : β} (h : atI m i = some b) : ∃ a, atI l i = some a ∧ F a b := by
  unfold atI at *
  rw [← Paired.length p] at h
  cases e : ixN l.length i with
  | none => rw [e] at h; cases h
  | some j =>
    rw [e] at h
    exact paired_at2 p h
theorem Paired.drop {α β : Type} {F : α → β → Prop} : ∀ {l : List α} {m : List β}, Paired F l m → ∀ n, Paired F (l.drop n) (m.drop n)
  | _, _, .nil, n => by simp; exact .nil
  | _, _, .cons r t, 0 => .cons r t
  | _, _, .cons r t, n + 1 => by simpa using Paired.drop t n
theorem Paired.take {α β : Type} {F : α → β → Prop} : ∀ {l : List α} {m : List β}, Paired F l m → ∀ n, Paired F (l.take n) (m.take n)
  | _, _, .nil, n => by simp; exact .nil
  | _, _, .cons r t, 0 => .nil
  | _, _, .cons r t, n + 1 => by simpa using Paired.cons r (Paired.take t n)
theorem Paired.append {α β : Type} {F : α → β → Prop} : ∀ {l l' : List α} {m m' : List β}, Paired F l m → Paired F l' m' → Paired F (l ++ l') (m ++ m')
  | _, _, _, _, .nil, p => p
  | _, _, _, _, .cons r t, p => .cons r (Paired.append t p)
theorem Paired.reverse {α β : Type} {F : α → β → Prop} : ∀ {l : List α} {m : List β}, Paired F l m → Paired F l.reverse m.reverse
  | _, _, .nil => .nil
  | _, _, .cons r t => by
    rw [List.reverse_cons, List.reverse_cons]
    exact Paired.append (Paired.reverse t) (.cons r .nil)
def cut {α : Type} (xs : List α) (lo hi : Option Int) : List α := (xs.drop (HT.sIx xs.length 0 lo)).take (HT.sIx xs.length xs.length hi - HT.sIx xs.length 0 lo)
theorem Paired.cut {β : Type} {F : V → β → Prop} {l : List V} {m : List β} (p : Paired F l m) (lo hi : Option Int) : Paired F (cutV l lo hi) (Cp.cut m lo hi) := by
  unfold cutV Cp.cut
  rw [Paired.length p]
  exact Paired.take (Paired.drop p _) _
section
variable {σ : L2.St} {H : Hp} {Q : VK} {tl : TA} {te ta tb : TE} {v x y z : V} {n m : Nat} {lo i j : Int} {K : PySem.W.Frag} {P : Program} {w : World} {p q : Addr} {α : Type} {R : Hp → V → α → Prop} {as bs : List α} {a b : α} {c d : Pt} {cs ds : List Pt}
theorem LsR.dp (h : LsR Cn H p cs) : Dp K H (.ref p) (eLs cs) := by
  obtain ⟨xs, e, q⟩ := h
  refine .lst (SqL.of e) ?_
  clear e
  induction q with
  | nil => exact .nil
  | cons r _ ih => exact .cons (Cn.dp r) ih
theorem dpAll_of {xs : List V} (q : Paired (Cn H) xs cs) : DpAll K H xs (cs.map eP) := by
  induction q with
  | nil => exact .nil
  | cons r _ ih => exact .cons (Cn.dp r) ih
theorem u_neC (h1 : Cn H v c) (h2 : Cn H x d) (q : Q (.bl (!decide (c = d))) H) : rNeD K v x H Q := ⟨eP c, eP d, Cn.dp h1, Cn.dp h2, shaped_eP _, shaped_eP _, by rw [eqv_eP]; exact q⟩
theorem u_eqC (h1 : Cn H v c) (h2 : Cn H x d) (q : Q (.bl (decide (c = d))) H) : rEqD K v x H Q := ⟨eP c, eP d, Cn.dp h1, Cn.dp h2, shaped_eP _, shaped_eP _, by rw [eqv_eP]; exact q⟩
theorem u_neL {r : Addr} (h1 : LsR Cn H p cs) (h2 : LsR Cn H r ds) (q : Q (.bl (!decide (cs = ds))) H) : rNeD K (.ref p) (.ref r) H Q := ⟨eLs cs, eLs ds, h1.dp, h2.dp, shaped_eLs _, shaped_eLs _, by rw [eqv_eLs]; exact q⟩
theorem u_eqL {r : Addr} (h1 : LsR Cn H p cs) (h2 : LsR Cn H r ds) (q : Q (.bl (decide (cs = ds))) H) : rEqD K (.ref p) (.ref r) H Q := ⟨eLs cs, eLs ds, h1.dp, h2.dp, shaped_eLs _, shaped_eLs _, by rw [eqv_eLs]; exact q⟩
theorem any_eP : ∀ (cs : List Pt) (c : Pt), ((cs.map eP).any fun z => PyData.eqv z (eP c)) = decide (c ∈ cs)
  | [], c => by simp
  | d :: cs, c => by
    rw [List.map_cons, List.any_cons, eqv_eP, any_eP cs c]
    simp only [List.mem_cons, Bool.decide_or]
    congr 1
    exact decide_eq_decide.mpr ⟨fun e => e.symm, fun e => e.symm⟩
theorem u_inC (h1 : Cn H v c) (h2 : LsR Cn H p cs) (q : Q (.bl (decide (c ∈ cs))) H) : rInD K v (.ref p) H Q := ⟨eP c, cs.map eP, Cn.dp h1, h2.dp, shaped_eP _, shaped_eLs _, by rw [any_eP]; exact q⟩
theorem u_notInC (h1 : Cn H v c) (h2 : LsR Cn H p cs) (q : Q (.bl (!decide (c ∈ cs))) H) : rNotInD K v (.ref p) H Q := ⟨eP c, cs.map eP, Cn.dp h1, h2.dp, shaped_eP _, shaped_eLs _, by rw [any_eP]; exact q⟩
theorem u_ixL (h : LsR R H p as) (e : atI as i = some a) (q : ∀ v, R H v a → Q v H) : rIxL K (.ref p) (.int i) H Q := by
  obtain ⟨xs, hx, pr⟩ := h
  obtain ⟨v, hv, r⟩ := paired_atI pr e
  exact ⟨p, xs, i, v, rfl, rfl, SqL.of hx, hv, q v r⟩
theorem u_ixS (h : LsR R H p as ∨ TsR R H p as) (e : atI as i = some a) (q : ∀ v, R H v a → Q v H) : rIx K (.ref p) (.int i) H Q := by
  rcases h with h | h
  · exact .inl (u_ixL h e q)
  · obtain ⟨xs, hx, pr⟩ := h
    obtain ⟨v, hv, r⟩ := paired_atI pr e
    exact .inr (.inl ⟨p, xs, i, v, rfl, rfl, SqT.of hx, hv, q v r⟩)
theorem u_len (h : LsR R H p as) (q : Q (.int as.length) H) : rLenQ K [V.ref p] H Q := by
  obtain ⟨xs, hx, pr⟩ := h
  refine s_lenL hx ?_
  rw [Paired.length pr]; exact q
theorem u_lenS (h : LsR R H p as ∨ TsR R H p as) (q : Q (.int as.length) H) : rLenQ K [V.ref p] H Q := by
  rcases h with h | h
  · exact u_len h q
  · obtain ⟨xs, hx, pr⟩ := h
    refine s_lenT hx ?_
    rw [Paired.length pr]; exact q
theorem u_listOf (t : Tr R) (h : LsR R H p as ∨ TsR R H p as) (q : ∀ l H1, H l = none → Same H H1 → LsR R H1 l as → Q (.ref l) H1) : rListOf K [V.ref p] H Q := by
  rcases h with ⟨xs, hx, pr⟩ | ⟨xs, hx, pr⟩
  · exact s_listL hx fun l H1 hl s e => q l H1 hl s ⟨xs, e, Paired.mono (fun a b r => t.up (.of s) r) pr⟩
  · exact s_listT hx fun l H1 hl s e => q l H1 hl s ⟨xs, e, Paired.mono (fun a b r => t.up (.of s) r) pr⟩
theorem u_tupleOf (t : Tr R) (h : LsR R H p as) (q : ∀ l H1, H l = none → Same H H1 → TsR R H1 l as → Q (.ref l) H1) : rTupleOf K [V.ref p] H Q := by
  obtain ⟨xs, hx, pr⟩ := h
  exact s_tupL hx fun l H1 hl s e => q l H1 hl s ⟨xs, e, Paired.mono (fun a b r => t.up (.of s) r) pr⟩
theorem u_cat {r : Addr} (t : Tr R) (h1 : LsR R H p as) (h2 : LsR R H r bs) (hz : as.length + bs.length ≤ 100000) (q : ∀ l H1, H l = none → Same H H1 → LsR R H1 l (as ++ bs) → Q (.ref l) H1) : rCat (.ref p) (.ref r) H Q := by
  obtain ⟨xs, hx, pr⟩ := h1
  obtain ⟨ys, hy, pr2⟩ := h2
  have l1 := Paired.length pr
  have l2 := Paired.length pr2
  exact ⟨p, r, xs, ys, rfl, rfl, hx, hy, Nat.le_trans (by omega : xs.length + ys.length ≤ 100000) (by decide), fun l hl => q l _ hl (Same.new hl) ⟨_, upd_same, Paired.mono (fun a b r => t.up (.of (Same.new hl)) r) (Paired.append pr pr2)⟩⟩
def qSl (r : V → Option Int → Option Int → Hp → VK → Prop) (x : V) (l u : Option Int) (H : Hp) (Q : VK) : Prop := r x l u H Q
theorem s_sl2 {r : V → Option Int → Option Int → Hp → VK → Prop} {t1 t2 : TO} (h : te σ H fun x H1 => t1 σ H1 fun l H2 => t2 σ H2 fun u H3 => r x l u H3 Q) : tSl r te t1 t2 σ H Q := h
def qPart (x : V) (H1 : Hp) (Q : Option Int → Hp → Prop) : Prop := ∃ i, x = .int i ∧ Q (some i) H1
theorem s_part {Q : Option Int → Hp → Prop} (h : te σ H fun x H1 => qPart x H1 Q) : tPart te σ H Q := h
theorem u_part {Q : Option Int → Hp → Prop} (q : Q (some i) H) : qPart (.int i) H Q := ⟨i, rfl, q⟩
theorem s_nopart {Q : Option Int → Hp → Prop} (q : Q none H) : tNoPart σ H Q := q
theorem u_slice {l u : Option Int} (t : Tr R) (h : LsR R H p as) (q : ∀ r H1, H r = none → Same H H1 → LsR R H1 r (cut as l u) → Q (.ref r) H1) : rSlL K (.ref p) l u H Q := by
  obtain ⟨xs, hx, pr⟩ := h
  exact ⟨p, xs, rfl, SqL.of hx, fun r hr => q r _ hr (Same.new hr) ⟨_, upd_same, Paired.mono (fun a b r => t.up (.of (Same.new hr)) r) (Paired.cut pr l u)⟩⟩
def qRev (K : PySem.W.Frag) (x : V) (H1 : Hp) (Q : VK) : Prop := ∃ a xs, x = .ref a ∧ SqL K H1 a xs ∧ ∀ p, H1 p = none → Q (.ref p) (upd H1 p (.lst xs.reverse))
theorem s_rev (h : te σ H fun x H1 => qRev K x H1 Q) : tRevL K te σ H Q := h
theorem u_rev (t : Tr R) (h : LsR R H p as) (q : ∀ r H1, H r = none → Same H H1 → LsR R H1 r as.reverse → Q (.ref r) H1) : qRev K (.ref p) H Q := by
  obtain ⟨xs, hx, pr⟩ := h
  exact ⟨p, xs, rfl, SqL.of hx, fun r hr => q r _ hr (Same.new hr) ⟨_, upd_same, Paired.mono (fun a b r => t.up (.of (Same.new hr)) r) (Paired.reverse pr)⟩⟩
theorem s_un {r : V → Hp → VK → Prop} (h : te σ H fun x H1 => r x H1 Q) : tUn r te σ H Q := h
theorem s_U {g : Int → V} {k : Int} (q : Q (g k) H) : rU g (.int k) H Q := ⟨k, rfl, q⟩
theorem u_ltC (h1 : Cn H v c) (h2 : Cn H x d) (q : Q (.bl (ltP c d)) H) : rLtT K v x H Q := by
  obtain ⟨t, rfl, ht⟩ := h1
  obtain ⟨u, rfl, hu⟩ := h2
  refine ⟨t, u, [c.1, c.2], [d.1, d.2], rfl, rfl, SqT.of ht, SqT.of hu, ?_⟩
  have e : HT.lexLt [c.1, c.2] [d.1, d.2] = ltP c d := by
    unfold ltP
    simp only [HT.lexLt]
    by_cases h1 : c.1 < d.1 <;> by_cases h2 : c.1 = d.1 <;> by_cases h3 : c.2 < d.2 <;> by_cases h4 : c.2 = d.2 <;> simp [h1, h2, h3, h4] <;> omega
  rw [e]
  exact q
theorem u_while {cnd : TT} {tb : TS} {D : Ends} (Pv : Nat → L2.St → Hp → Prop) (h0 : ∃ m, Pv m σ H) (hs : ∀ m σ H, Pv m σ H → cnd σ H fun b H1 => if b = true then ∃ N : L2.St → Hp → Prop, (∀ σ' H', N σ' H' → ∃ m', m' < m ∧ Pv m' σ' H') ∧ tb { D with nx := N, ct := N, bk := D.nx } σ H1 else D.nx σ H1) : tWhile cnd tb D σ H := ⟨Pv, h0, hs⟩
end
end Cp
end
section
namespace Cp
open PySem PySem.Spec PyProof.Rows L2
/-! ### the plane's object -/
def AllB (W Hh : Nat) : List Pq := risingL W Hh ++ fallingL W Hh
def fldsOf (bt d : Addr) (z1 z2 : Str) : List (Str × V) := [("board", .ref bt), ("rising", .str z1), ("falling", .str z2), ("letters", .ref d)]
structure PlI (P : Program) (w : World) (C : Addr) (H : Hp) (x : Addr) (W Hh : Nat) (F : Fn) : Prop where
  ex : ∃ dx bt z1 z2 d kvs, H x = some (.ins C dx (fldsOf bt d z1 z2)) ∧ H bt = some (.tup [.int W, .int Hh]) ∧ NTab kt2 P w H d kvs ∧ ∀ b ∈ AllB W Hh, look kvs b = some (.str (F b))
theorem PlI.up {P : Program} {w : World} {C : Addr} {H H' : Hp} {x : Addr} {W Hh : Nat} {F : Fn} (p : PlI P w C H x W Hh F) (s : Same H H') : PlI P w C H' x W Hh F := by
  obtain ⟨dx, bt, z1, z2, d, kvs, h1, h2, h3, h4⟩ := p
  exact ⟨dx, bt, z1, z2, d, kvs, s _ _ h1, s _ _ h2, h3.up s, h4⟩
structure PlC (K : PySem.W.Frag) (C : Addr) : Prop where
  cl : Cls K C
  nb : NoAttr K C "board"
  nr : NoAttr K C "rising"
  nf : NoAttr K C "falling"
  nl : NoAttr K C "letters"
theorem allB_mem {W Hh : Nat} {p q : Pt} (hp : OnB W Hh p) (hq : OnB W Hh q) (h1 : p.1 < q.1) (h2 : p.2 ≠ q.2) : (p, q) ∈ AllB W Hh := by
  unfold AllB
  rw [List.mem_append, rising_mem, falling_mem]
  by_cases h : p.2 < q.2
  · exact .inl ⟨hp, hq, h1, h⟩
  · exact .inr ⟨hp, hq, h1, by simp only; omega⟩
theorem onB_iff {W Hh : Nat} {c : Pt} : onB ((W : Int), (Hh : Int)) c = true ↔ OnB W Hh c := by
  unfold onB OnB
  simp only [Bool.and_eq_true, decide_eq_true_eq]
  omega
end Cp
end
section
namespace Cp
open PySem PySem.Spec PyProof.Rows L2
local macro_rules | `(tactic| walk_at "f") => `(tactic| first | assumption | (refine' keep_of ?_ (by assumption); walk_at "f") | (refine Cn.up ?_ (by assumption); walk_at "f") | (refine Pr.up ?_ (by assumption); walk_at "f") | (refine NTab.up ?_ (by assumption); walk_at "f") | (refine PlI.up ?_ (by assumption); walk_at "f") | (refine LsR.up (by first | exact trC | exact trP | exact trI | assumption) ?_ (by assumption); walk_at "f"))
local macro_rules | `(tactic| walk_at "sm") => `(tactic| first | exact Same.refl _ | assumption | (refine same_tr ?_ (by assumption); walk_at "sm"))
local macro_rules | `(tactic| walk_at "fr") => `(tactic| first | assumption | (refine nof ?_ (by assumption); walk_at "fr"))
local macro_rules | `(tactic| walk_at "s1") => `(tactic| first
  | with_reducible refine s_seq ?_ | with_reducible refine s_ret ?_ | with_reducible refine s_asg ?_ | with_reducible refine s_if ?_ | with_reducible refine s_next ?_ | with_reducible refine s_drop ?_
  | ((with_reducible refine' s_var ?h ?q); (case h => exact rfl)) | with_reducible refine s_c ?_ | with_reducible refine s_op ?_ | with_reducible refine s_I0 ?_
  | with_reducible refine s_eqI ?_ | with_reducible refine s_neI ?_ | with_reducible refine s_eqS ?_ | with_reducible refine s_neS ?_
  | with_reducible refine s_test ?_ | with_reducible refine s_tB ?_ | with_reducible refine s_bl ?_ | with_reducible refine s_and ?_ | with_reducible refine s_or ?_ | with_reducible refine s_not ?_ | with_reducible refine s_andV ?_ | with_reducible refine s_chain ?_
  | with_reducible refine s_cons ?_ | with_reducible refine s_nil ?_ | with_reducible refine s_tup ?_ | with_reducible refine s_lst ?_
  | with_reducible refine s_CB ?_ | with_reducible refine s_call ?_ | with_reducible refine s_gname ?_ | with_reducible refine s_gcons ?_ | with_reducible refine s_gnil ?_
  | ((with_reducible refine' s_gtup ?h ?e ?q); (case h => walk_at "f"); (case e => exact rfl))
  | ((with_reducible refine' s_ixT ?h ?e ?q); (case h => walk_at "f"); (case e => exact rfl))
  | (with_reducible refine s_BM ?_) | ((with_reducible refine s_new ?z ?q); (case z => exact rfl); intro p H1 hp hs hv))
local macro_rules | `(tactic| walk_at "s2") => `(tactic| first
  | walk_at "s1" | with_reducible refine iteF ?_ | with_reducible refine iteT ?_ | with_reducible refine u_tup ?_ | with_reducible refine u_lst ?_ | ((with_reducible refine u_newT ?z ?q); (case z => exact rfl); intro p H1 hp hs hv) | ((with_reducible refine u_newL ?z ?q); (case z => exact rfl); intro p H1 hp hs hv) | with_reducible refine s_min2 ?_ | with_reducible refine s_sl2 ?_ | with_reducible refine s_part ?_ | with_reducible refine u_part ?_ | with_reducible refine s_nopart ?_ | with_reducible refine s_rev ?_ | with_reducible refine s_un ?_ | with_reducible refine s_U ?_ | with_reducible refine s_gsub ?_ | ((with_reducible refine s_lenS ?z ?q); (case z => assumption)) | with_reducible refine s_rng1 ?_ | with_reducible refine s_rng2 ?_ | with_reducible refine s_list ?_ | with_reducible refine s_istr ?_ | with_reducible refine u_str ?_ | with_reducible refine s_for ?_ | with_reducible refine s_lc ?_ | with_reducible refine s_lc2 ?_ | with_reducible refine s_yes ?_ | with_reducible refine s_bm ?_ | with_reducible refine s_mth ?_ | with_reducible refine s_abs ?_ | with_reducible refine s_int1 ?_ | with_reducible refine s_nget ?_ | with_reducible refine s_fld ?_
  | ((with_reducible refine' s_lenL ?h ?q); (case h => walk_at "f"))
  | ((with_reducible refine' s_lenT ?h ?q); (case h => walk_at "f")))
local macro_rules | `(tactic| walk_at "go") => `(tactic| repeat walk_at "s2")
section
variable {P : Program} {w : World} {K : PySem.W.Frag} {mg : Str → Option Value} {base : Heap} {C : Addr}
def spPLetter (P : Program) (w : World) (C : Addr) : Sp := fun vs H Q _ => ∃ x vp vq, ∃ p q : Pt, ∃ W Hh : Nat, ∃ F : Fn, vs = [.ref x, vp, vq] ∧ PlI P w C H x W Hh F ∧ Cn H vp p ∧ Cn H vq q ∧ OnB W Hh p ∧ OnB W Hh q ∧ p.1 ≤ q.1 ∧ ∀ H', Same H H' → Q (.str (ltr F p q)) H'
theorem sc_P_letter : FnScope ["self", "p", "q"] ["self", "p", "q"] (defScope s_P_letter) := ⟨rfl, rfl, rfl, by decide +kernel, rfl, by decide +kernel, by decide +kernel⟩
theorem c_P_letter (g : Gs mg) (pc0 : PlC K C) (c_first_letter : Cal P w K mg base 1 "first_letter" ["table", "p", "q"] (spLetter P w)) {f : Addr} (cl : Cls K C) (mt : Meth K C "letter" f) (F : Fd K "letter" "Plane.letter" s_P_letter f) : Met P w K mg base 2 C "letter" ["self", "p", "q"] (spPLetter P w C) := by
  refine Met.mk' cl mt (fn_mk (k := 1) F sc_P_letter (fun _ _ _ _ _ _ us hl => match us, hl with | [_, _, _], _ => rfl) (fun vs H Q E h => ?_) (fun cdv A outer s H vs Q E hr h => ?_))
  · obtain ⟨_, _, _, _, _, _, _, _, rfl, _⟩ := h; rfl
  · obtain ⟨x, vp, vq, p, q, W, Hh, F, rfl, pl, hp, hq, bp, bq, hle, k⟩ := h
    refine ⟨_, (pss_one (ps_ret (pc c_first_letter hr (pa_cons (pe_fld (pv 0) rfl) (pa_cons (pv 1) (pa_cons (pv 2) pa_nil)))))), ?_⟩
    obtain ⟨dx, bt, z1, z2, d, kvs, h1, h2, h3, h4⟩ := pl
    walk_at "go"
    refine u_fld h1 pc0.cl pc0.nl rfl ?_
    walk_at "go"
    exact ⟨d, vp, vq, p, q, F, kvs, rfl, h3, hp, hq, fun a b => h4 _ (allB_mem bp bq (by omega) a), k⟩
def spPWalked (P : Program) (w : World) (C : Addr) : Sp := fun vs H Q _ => ∃ x vp vq, ∃ p q : Pt, ∃ W Hh : Nat, ∃ F : Fn, vs = [.ref x, vp, vq] ∧ PlI P w C H x W Hh F ∧ Vd W Hh F ∧ W ≤ 8 ∧ Hh ≤ 8 ∧ Cn H vp p ∧ Cn H vq q ∧ OnB W Hh p ∧ OnB W Hh q ∧ p.1 ≤ q.1 ∧ ∀ r H', H r = none → Same H H' → LsR Cn H' r (walk F p q) → Q (.ref r) H'
theorem sc_P_walked : FnScope ["self", "p", "q", "row"] ["self", "p", "q"] (defScope s_P_walked) := ⟨rfl, rfl, rfl, by decide +kernel, rfl, by decide +kernel, by decide +kernel⟩
theorem c_P_walked (g : Gs mg) (m_letter : Met P w K mg base 2 C "letter" ["self", "p", "q"] (spPLetter P w C)) (c_moved : Cal P w K mg base 1 "moved" ["corner", "letter"] spMoved) {f : Addr} (cl : Cls K C) (mt : Meth K C "walked" f) (F : Fd K "walked" "Plane.walked" s_P_walked f) : Met P w K mg base 3 C "walked" ["self", "p", "q"] (spPWalked P w C) := by
  refine Met.mk' cl mt (fn_mk (k := 2) F sc_P_walked (fun _ _ _ _ _ _ us hl => match us, hl with | [_, _, _], _ => rfl) (fun vs H Q E h => ?_) (fun cdv A outer s H vs Q E hr h => ?_))
  · obtain ⟨_, _, _, _, _, _, _, _, rfl, _⟩ := h; rfl
  · obtain ⟨x, vp, vq, p, q, W, Hh, F, rfl, pl, vd, hW, hH, hp, hq, bp, bq, hle, k⟩ := h
    refine ⟨_, (pss_cons (ps_asg (pe_ulst (pa_cons (pv 1) pa_nil)) (pg_name (i := 3) sc_P_walked.nd rfl (.inl rfl)))
      (pss_cons (ps_while PassesOwn.never (pt_cmpR (op_neD hr.units) (pe_ix ix_list (pv 3) (pe_un un_neg (pe_int)) (fun _ _ => rfl)) (pv 2) (nomark _)) (pss_one (ps_expr (pe_bm PySem.F.plainAttrs_list PySem.F.slot_list_append PySem.F.type_list_append mt_append (pv 3) (pa_cons (pc c_moved hr (pa_cons (pe_ix ix_list (pv 3) (pe_un un_neg (pe_int)) (fun _ _ => rfl)) (pa_cons (pm m_letter hr (pv 0) (pa_cons (pe_ix ix_list (pv 3) (pe_un un_neg (pe_int)) (fun _ _ => rfl)) (pa_cons (pv 2) pa_nil))) pa_nil))) pa_nil)))))
      (pss_one (ps_ret (pv 3))))), ?_⟩
    walk_at "go"
    rename_i r H1 hr1 hs1 hl1
    refine u_while (fun m σ H2 => ∃ pre c, σ = [some (.ref x), some vp, some vq, some (.ref r)] ∧ Bld Cn H H2 r (pre ++ [c]) ∧ OnB W Hh c ∧ c.1 ≤ q.1 ∧ dst c q = m ∧ pre ++ walk F c q = walk F p q) ⟨dst p q, [], p, rfl, ⟨hs1, hr1, [vp], hl1, .cons (hp.up hs1) .nil⟩, bp, hle, rfl, rfl⟩ ?_
    rintro m σ H2 ⟨pre, c, rfl, B, bc, hc, rfl, hw⟩
    walk_at "go"
    refine u_ixL (a := c) B.ls (atI_last _ _) fun vc hvc => ?_
    walk_at "go"
    refine u_neC hvc (hq.up B.same) ?_
    walk_at "go"
    refine ite3n (fun hne => ?_) (fun heq => ?_)
    · obtain ⟨h1, h2, h3⟩ := nx_ok vd bc bq hc hne
      refine ⟨_, fun σ' H' h => h, ?_⟩
      walk_at "go"
      obtain ⟨ys, hy, _⟩ := id B.ls
      refine u_bmL hy ?_
      walk_at "go"
      refine u_ixL (a := c) B.ls (atI_last _ _) fun vc2 hvc2 => ?_
      walk_at "go"
      obtain ⟨dx, bt, z1, z2, d, kvs, g1, g2, g3, g4⟩ := pl.up B.same
      refine u_mth g1 rfl ?_
      walk_at "go"
      refine u_ixL (a := c) B.ls (atI_last _ _) fun vc3 hvc3 => ?_
      walk_at "go"
      refine ⟨x, vc3, vq, c, q, W, Hh, F, rfl, pl.up B.same, hvc3, hq.up B.same, bc, bq, hc, fun H3 hs3 => ?_⟩
      walk_at "go"
      refine ⟨vc2, c, ltr F c q, rfl, hvc2.up hs3, fun t H4 ht hs4 hm4 => ?_⟩
      walk_at "go"
      refine u_append trC (B.up trC (Same.trans hs3 hs4)) (a := nx F c q) ⟨t, rfl, hm4⟩ ?_ fun H5 bu B5 _ => ?_
      · have := walk_len vd bq _ c rfl bc hc
        have h5 := congrArg List.length hw
        have h6 := walk_len vd bq _ p rfl bp hle
        rw [List.length_append] at h5
        rw [List.length_append, List.length_singleton]
        have h7 : dst p q ≤ 16 := by unfold dst OnB at *; omega
        omega
      · refine ⟨_, by rw [← h3]; exact Nat.lt_succ_self _, pre ++ [c], nx F c q, rfl, B5, h1, h2, rfl, ?_⟩
        rw [← hw, walk_step vd bc bq hc hne, List.append_assoc]
        rfl
    · subst heq
      rw [walk_end] at hw
      walk_at "go"
      exact k r H2 B.fresh B.same (hw ▸ B.ls)
theorem line_refl (F : Fn) (p q : Pt) (h : ltP q p = true) : line F p q = (walk F q p).reverse := by unfold line; rw [if_pos h]
def spPLine (P : Program) (w : World) (C : Addr) : Sp := fun vs H Q _ => ∃ x vp vq, ∃ p q : Pt, ∃ W Hh : Nat, ∃ F : Fn, vs = [.ref x, vp, vq] ∧ PlI P w C H x W Hh F ∧ Vd W Hh F ∧ W ≤ 8 ∧ Hh ≤ 8 ∧ Cn H vp p ∧ Cn H vq q ∧ OnB W Hh p ∧ OnB W Hh q ∧ ∀ r H', H r = none → Same H H' → LsR Cn H' r (line F p q) → Q (.ref r) H'
theorem sc_P_line : FnScope ["self", "p", "q", "corner"] ["self", "p", "q"] (defScope s_P_line) := ⟨rfl, rfl, rfl, by decide +kernel, rfl, by decide +kernel, by decide +kernel⟩
theorem c_P_line (g : Gs mg) (pc0 : PlC K C) (m_walked : Met P w K mg base 3 C "walked" ["self", "p", "q"] (spPWalked P w C)) (c_on_board : Cal P w K mg base 1 "on_board" ["board", "corner"] spOnBoard) {f : Addr} (cl : Cls K C) (mt : Meth K C "line" f) (F : Fd K "line" "Plane.line" s_P_line f) : Met P w K mg base 4 C "line" ["self", "p", "q"] (spPLine P w C) := by
  refine Met.mk' cl mt (fn_mk (k := 3) F sc_P_line (fun _ _ _ _ _ _ us hl => match us, hl with | [_, _, _], _ => rfl) (fun vs H Q E h => ?_) (fun cdv A outer s H vs Q E hr h => ?_))
  · obtain ⟨_, _, _, _, _, _, _, _, rfl, _⟩ := h; rfl
  · obtain ⟨x, vp, vq, p, q, W, Hh, F, rfl, pl, vd, hW, hH, hp, hq, bp, bq, k⟩ := h
    refine ⟨_, (pss_cons (ps_for PassesOwn.never rfl (pi_list (pe_ulst (pa_cons (pv 1) (pa_cons (pv 2) pa_nil)))) (pg_name (i := 3) sc_P_line.nd rfl (.inl rfl)) (pss_one (ps_if (pt_not (pt_val (pc c_on_board hr (pa_cons (pe_fld (pv 0) rfl) (pa_cons (pv 3) pa_nil))))) (pss_one (ps_never)) pss_nil)))
      (pss_cons (ps_if (pt_cmpR (op_ltT hr.units0) (pv 2) (pv 1) (nomark _)) (pss_one (ps_ret (pe_revL (pm m_walked hr (pv 0) (pa_cons (pv 2) (pa_cons (pv 1) pa_nil)))))) pss_nil)
      (pss_one (ps_ret (pm m_walked hr (pv 0) (pa_cons (pv 1) (pa_cons (pv 2) pa_nil))))))), ?_⟩
    walk_at "go"
    rename_i r H1 hr1 hs1 hl1
    have hls : LsR Cn H1 r [p, q] := ⟨_, hl1, .cons (hp.up hs1) (.cons (hq.up hs1) .nil)⟩
    refine u_list hl1 ?_
    refine u_items (fun i σ H2 => ∃ a, σ = [some (.ref x), some vp, some vq, a] ∧ Same H1 H2) ⟨_, rfl, Same.refl _⟩ (fun i σ H2 _ h => by obtain ⟨_, _, s⟩ := h; exact hls.up trC s) (fun i c y σ H2 hi hy h => ?_) (fun σ H2 h => ?_)
    · obtain ⟨a, rfl, s2⟩ := h
      obtain ⟨dx, bt, z1, z2, d, kvs, g1, g2, g3, g4⟩ := (pl.up hs1).up s2
      walk_at "go"
      refine u_fld g1 pc0.cl pc0.nb rfl ?_
      walk_at "go"
      refine ⟨_, _, ((W : Int), (Hh : Int)), c, rfl, ⟨bt, rfl, g2⟩, hy, ?_⟩
      have bc : OnB W Hh c := by
        have := List.mem_of_getElem? hi
        rcases List.mem_cons.mp this with rfl | h
        · exact bp
        · rw [List.mem_singleton.mp h]; exact bq
      rw [onB_iff.mpr bc]
      refine ⟨true, rfl, ?_⟩
      walk_at "go"
      exact ⟨_, rfl, s2⟩
    · obtain ⟨a, rfl, s2⟩ := h
      obtain ⟨dx, bt, z1, z2, d, kvs, g1, g2, g3, g4⟩ := (pl.up hs1).up s2
      walk_at "go"
      refine u_ltC ((hq.up hs1).up s2) ((hp.up hs1).up s2) ?_
      unfold line at k
      cases hl : ltP q p with
      | true =>
        rw [hl, if_pos rfl] at k
        walk_at "go"
        refine u_mth g1 rfl ?_
        walk_at "go"
        refine ⟨x, vq, vp, q, p, W, Hh, F, rfl, (pl.up hs1).up s2, vd, hW, hH, (hq.up hs1).up s2, (hp.up hs1).up s2, bq, bp, ltP_le hl, fun t H3 ht hs3 hm3 => ?_⟩
        refine u_rev trC hm3 fun t2 H4 ht2 hs4 hm4 => ?_
        exact k t2 H4 (nof (nof (nof ht2 hs3) s2) hs1) (by walk_at "sm") hm4
      | false =>
        rw [hl, if_neg Bool.false_ne_true] at k
        walk_at "go"
        refine u_mth g1 rfl ?_
        walk_at "go"
        refine ⟨x, vp, vq, p, q, W, Hh, F, rfl, (pl.up hs1).up s2, vd, hW, hH, (hp.up hs1).up s2, (hq.up hs1).up s2, bp, bq, ltP_not hl, fun t H3 ht hs3 hm3 => ?_⟩
        exact k t H3 (nof (nof ht s2) hs1) (by walk_at "sm") hm3
end
end Cp
end
section
namespace Cp
open PySem PySem.Spec PyProof.Rows L2
local macro_rules | `(tactic| walk_at "f") => `(tactic| first | assumption | (refine' keep_of ?_ (by assumption); walk_at "f") | (refine Cn.up ?_ (by assumption); walk_at "f") | (refine Pr.up ?_ (by assumption); walk_at "f") | (refine NTab.up ?_ (by assumption); walk_at "f") | (refine PlI.up ?_ (by assumption); walk_at "f") | (refine LsR.up (by first | exact trC | exact trP | exact trI | assumption) ?_ (by assumption); walk_at "f"))
local macro_rules | `(tactic| walk_at "sm") => `(tactic| first | exact Same.refl _ | assumption | (refine same_tr ?_ (by assumption); walk_at "sm"))
local macro_rules | `(tactic| walk_at "fr") => `(tactic| first | assumption | (refine nof ?_ (by assumption); walk_at "fr"))
local macro_rules | `(tactic| walk_at "s1") => `(tactic| first
  | with_reducible refine s_seq ?_ | with_reducible refine s_ret ?_ | with_reducible refine s_asg ?_ | with_reducible refine s_if ?_ | with_reducible refine s_next ?_ | with_reducible refine s_drop ?_
  | ((with_reducible refine' s_var ?h ?q); (case h => exact rfl)) | with_reducible refine s_c ?_ | with_reducible refine s_op ?_ | with_reducible refine s_I0 ?_
  | with_reducible refine s_eqI ?_ | with_reducible refine s_neI ?_ | with_reducible refine s_eqS ?_ | with_reducible refine s_neS ?_
  | with_reducible refine s_test ?_ | with_reducible refine s_tB ?_ | with_reducible refine s_bl ?_ | with_reducible refine s_and ?_ | with_reducible refine s_or ?_ | with_reducible refine s_not ?_ | with_reducible refine s_andV ?_ | with_reducible refine s_chain ?_
  | with_reducible refine s_cons ?_ | with_reducible refine s_nil ?_ | with_reducible refine s_tup ?_ | with_reducible refine s_lst ?_
  | with_reducible refine s_CB ?_ | with_reducible refine s_call ?_ | with_reducible refine s_gname ?_ | with_reducible refine s_gcons ?_ | with_reducible refine s_gnil ?_
  | ((with_reducible refine' s_gtup ?h ?e ?q); (case h => walk_at "f"); (case e => exact rfl))
  | ((with_reducible refine' s_ixT ?h ?e ?q); (case h => walk_at "f"); (case e => exact rfl))
  | (with_reducible refine s_BM ?_) | ((with_reducible refine s_new ?z ?q); (case z => exact rfl); intro p H1 hp hs hv))
local macro_rules | `(tactic| walk_at "s2") => `(tactic| first
  | walk_at "s1" | with_reducible refine iteF ?_ | with_reducible refine iteT ?_ | with_reducible refine u_tup ?_ | with_reducible refine u_lst ?_ | ((with_reducible refine u_newT ?z ?q); (case z => exact rfl); intro p H1 hp hs hv) | ((with_reducible refine u_newL ?z ?q); (case z => exact rfl); intro p H1 hp hs hv) | with_reducible refine s_min2 ?_ | with_reducible refine s_sl2 ?_ | with_reducible refine s_part ?_ | with_reducible refine u_part ?_ | with_reducible refine s_nopart ?_ | with_reducible refine s_rev ?_ | with_reducible refine s_un ?_ | with_reducible refine s_U ?_ | with_reducible refine s_gsub ?_ | ((with_reducible refine s_lenS ?z ?q); (case z => assumption)) | with_reducible refine s_rng1 ?_ | with_reducible refine s_rng2 ?_ | with_reducible refine s_list ?_ | with_reducible refine s_istr ?_ | with_reducible refine u_str ?_ | with_reducible refine s_for ?_ | with_reducible refine s_lc ?_ | with_reducible refine s_lc2 ?_ | with_reducible refine s_yes ?_ | with_reducible refine s_bm ?_ | with_reducible refine s_mth ?_ | with_reducible refine s_abs ?_ | with_reducible refine s_int1 ?_ | with_reducible refine s_nget ?_ | with_reducible refine s_fld ?_
  | ((with_reducible refine' s_lenL ?h ?q); (case h => walk_at "f"))
  | ((with_reducible refine' s_lenT ?h ?q); (case h => walk_at "f")))
local macro_rules | `(tactic| walk_at "go") => `(tactic| repeat walk_at "s2")
section
variable {P : Program} {w : World} {K : PySem.W.Frag} {mg : Str → Option Value} {base : Heap} {C : Addr}
def HfR (H : Hp) (v : V) (i : Str × Str) : Prop := ∃ t, v = .ref t ∧ H t = some (.tup [.str i.1, .str i.2])
theorem trH : Tr HfR := ⟨fun s h => by
  obtain ⟨t, e, h⟩ := h
  exact ⟨t, e, s _ _ h⟩⟩
def qSetF (K : PySem.W.Frag) (f : Str) (y : V) (D : Ends) (σ : L2.St) (x : V) (H2 : Hp) : Prop := ∃ a C dx fs, x = .ref a ∧ H2 a = some (.ins C dx fs) ∧ Cls K C ∧ NoAttr K C f ∧ fs.length < 1000 ∧ D.nx σ (upd H2 a (.ins C dx (putF f y fs)))
theorem s_setf {ta tv : TE} {f : Str} {D : Ends} {σ : L2.St} {H : Hp} (h : tv σ H fun y H1 => ta σ H1 fun x H2 => qSetF K f y D σ x H2) : sFld K ta tv f D σ H := h
theorem u_setf {f : Str} {y : V} {D : Ends} {σ : L2.St} {H : Hp} {x dx : Addr} {fs : List (Str × V)} (h : H x = some (.ins C dx fs)) (cl : Cls K C) (na : NoAttr K C f) (hz : Nat.ble fs.length 999 = true) (q : ∀ H', But x H H' → H' x = some (.ins C dx (putF f y fs)) → D.nx σ H') : qSetF K f y D σ (.ref x) H :=
  ⟨x, C, dx, fs, rfl, h, cl, na, Nat.lt_succ_of_le (Nat.le_of_ble_eq_true hz), q _ (But.upd _ _ _) upd_same⟩
/-- all but the object at x and the tables stays -/
def Ext1 (x : Addr) (H H' : Hp) : Prop := ∀ b o, b ≠ x → H b = some o → (∀ ps, o ≠ .tbl ps) → H' b = some o
theorem Ext1.of {x : Addr} {H H' : Hp} (e : LamX.ExtN H H') : Ext1 x H H' := fun b o _ h n => e b o h n
theorem Ext1.tr {x : Addr} {H H1 H2 : Hp} (a : Ext1 x H H1) (b : Ext1 x H1 H2) : Ext1 x H H2 := fun c o n h t => b c o n (a c o n h t) t
theorem Ext1.but {x : Addr} {H H1 : Hp} (b : But x H H1) : Ext1 x H H1 := fun c o n h _ => b c o n h
theorem Ext1.butD {x d : Addr} {H0 H H1 : Hp} (e : Ext1 x H0 H) (f : H0 d = none) (b : But d H H1) : Ext1 x H0 H1 := fun c o n h t => b c o (ne_of_none h f) (e c o n h t)
theorem Tabs.butI {T : List (Addr × Str)} {H H' : Hp} {x C dx : Addr} {fs : List (Str × V)} (t : LamX.Tabs T H) (hx : H x = some (.ins C dx fs)) (b : But x H H') : LamX.Tabs T H' := by
  intro p hp
  obtain ⟨ps, h1, h2, h3⟩ := t p hp
  refine ⟨ps, b _ _ (fun z => ?_) h1, h2, fun pos cv hc => ?_⟩
  · rw [z, hx] at h1; cases h1
  · obtain ⟨c, e1, e2⟩ := h3 pos cv hc
    refine ⟨c, e1, b _ _ (fun z => ?_) e2⟩
    rw [z, hx] at e2; cases e2
theorem NTab.butI {κ : Type} [DecidableEq κ] {T : KT κ} {H H' : Hp} {d x C dx : Addr} {kvs : List (κ × V)} {fs : List (Str × V)} (h : NTab T P w H d kvs) (hx : H x = some (.ins C dx fs)) (b : But x H H') : NTab T P w H' d kvs := by
  refine h.upD (fun o e => b _ _ (fun z => ?_) e) fun a xs e => b _ _ (fun z => ?_) e
  · rw [z, hx] at e; cases e
  · rw [z, hx] at e; cases e
def qNKeys {κ : Type} [DecidableEq κ] (T : KT κ) (P : Program) (w : World) (x : V) (H1 : Hp) (R : It → Hp → Prop) : Prop := ∃ d o kvs, x = .ref d ∧ NTabO T P w H1 d o kvs ∧ R (Itn T P w d o kvs) H1
theorem s_nkeys {κ : Type} [DecidableEq κ] {T : KT κ} {td : TE} {σ : L2.St} {H : Hp} {R : It → Hp → Prop} (h : td σ H fun x H1 => qNKeys T P w x H1 R) : iNKeys T P w td σ H R := h
theorem u_nkeys {κ : Type} [DecidableEq κ] {T : KT κ} {H : Hp} {R : It → Hp → Prop} {d : Addr} {o : Obj} {kvs : List (κ × V)} (h : NTabO T P w H d o kvs) (q : R (Itn T P w d o kvs) H) : qNKeys T P w (.ref d) H R := ⟨d, o, kvs, rfl, h, q⟩
theorem u_fornk {κ : Type} [DecidableEq κ] {T : KT κ} {d : Addr} {o : Obj} {kvs : List (κ × V)} {g : TG} {tb : TS} {D : Ends} {σ : L2.St} {H : Hp} (Pv : Nat → L2.St → Hp → Prop) (h0 : Pv 0 σ H) (hl : ∀ i σ H, i ≤ kvs.length → Pv i σ H → NTabO T P w H d o kvs)
    (hs : ∀ (i : Nat) (k : κ) (v : V) x σ H, kvs[i]? = some (k, v) → T.is H x k → Pv i σ H → g x σ H fun σ2 H2 => tb { D with nx := Pv (i + 1), ct := Pv (i + 1), bk := D.nx } σ2 H2) (hd : ∀ σ H, Pv kvs.length σ H → D.nx σ H) : qFor (Itn T P w d o kvs) g tb D σ H := for_nkeys Pv h0 hl hs hd
theorem NTabO.upD {κ : Type} [DecidableEq κ] {T : KT κ} {H H' : Hp} {d : Addr} {oo : Obj} {kvs : List (κ × V)} (h : NTabO T P w H d oo kvs) (s : ∀ o, H d = some (NDo d o) → H' d = some (NDo d o)) (t : TupK H H') : NTabO T P w H' d oo kvs := by
  obtain ⟨a, b, c, d, xs, ys, es, ep, e1, e2, e3, e4, e5, e6⟩ := h
  exact ⟨s _ a, b, c, d, xs, ys, es, ep, e1, e2, e3, e4, e5, fun x hx => T.up t (e6 x hx)⟩
def HalfOk (W Hh : Nat) (half z : Str) (F G : Fn) : Prop := TX z ((pairsL W Hh half).map F) ∧ (∀ b ∈ pairsL W Hh half, F b = "E" ∨ F b = steepL half) ∧ LastOk W Hh half F G ∧ ChkOk W Hh half F G
def spInit (P : Program) (w : World) (C Pt : Addr) : Sp := fun vs H Q _ => ∃ x dx vb z1 z2, ∃ W Hh : Nat, ∃ F G : Fn, vs = [.ref x, vb, .str z1, .str z2] ∧ H x = some (.ins C dx []) ∧ Cn H vb ((W : Int), (Hh : Int)) ∧ W ≤ 8 ∧ Hh ≤ 8 ∧ HalfOk W Hh "rising" z1 F G ∧ HalfOk W Hh "falling" z2 F G ∧ LamX.Tabs (lamT Pt) H ∧
  ∀ H', Ext1 x H H' → LamX.Tabs (lamT Pt) H' → PlI P w C H' x W Hh F → Q .non H'
theorem sc_P_init : FnScope ["self", "board", "rising", "falling", "halves", "half", "letters", "pair", "falls"] ["self", "board", "rising", "falling"] (defScope s_P_init) := ⟨rfl, rfl, rfl, by decide +kernel, rfl, by decide +kernel, by decide +kernel⟩
theorem c_P_init (g : Gs mg) {Pt : Addr} (pc0 : PlC K C) (c_has_table_form : Cal P w K mg base 4 "has_table_form" ["board", "half", "letters"] spForm) (c_find_broken_pair : Cal P w K mg base 8 "find_broken_pair" ["board", "half", "letters"] (spFind Pt)) (c_letters_by_pair : Cal P w K mg base 4 "letters_by_pair" ["board", "half", "letters"] (spByP P w)) {f : Addr} (hm : mg "Plane" = some (.ref C)) (mk : Mk K C f) (F : Fd K "__init__" "Plane.__init__" s_P_init f) : Mak P w K mg base 9 "Plane" C ["self", "board", "rising", "falling"] (spInit P w C Pt) := by
  refine Mak.mk' hm mk (fn_mk (k := 8) F sc_P_init (fun _ _ _ _ _ _ us hl => match us, hl with | [_, _, _, _], _ => rfl) (fun vs H Q E h => ?_) (fun cdv A outer s H vs Q E hr h => ?_))
  · obtain ⟨_, _, _, _, _, _, _, _, _, rfl, _⟩ := h; rfl
  · obtain ⟨x, dx, vb, z1, z2, W, Hh, F, G, rfl, hx, hb, hW, hH, ok1, ok2, hT, k⟩ := h
    refine ⟨_, (pss_cons (ps_asg (pe_ulst (pa_cons (pe_utup (pa_cons (pe_glob (v := .str "rising") rfl (g.rising).choose_spec ⟨_, rfl⟩) (pa_cons (pv 2) pa_nil))) (pa_cons (pe_utup (pa_cons (pe_glob (v := .str "falling") rfl (g.falling).choose_spec ⟨_, rfl⟩) (pa_cons (pv 3) pa_nil))) pa_nil))) (pg_name (i := 4) sc_P_init.nd rfl (.inl rfl)))
      (pss_cons (ps_for PassesOwn.never rfl (pi_list (pv 4)) (pg_tup rfl (pgs_cons (pg_name (i := 5) sc_P_init.nd rfl (.inl rfl)) (pgs_cons (pg_name (i := 6) sc_P_init.nd rfl (.inl rfl)) pgs_nil))) (pss_one (ps_if (pt_not (pt_val (pc c_has_table_form hr (pa_cons (pv 1) (pa_cons (pv 5) (pa_cons (pv 6) pa_nil)))))) (pss_one (ps_never)) pss_nil)))
      (pss_cons (ps_for PassesOwn.never rfl (pi_list (pv 4)) (pg_tup rfl (pgs_cons (pg_name (i := 5) sc_P_init.nd rfl (.inl rfl)) (pgs_cons (pg_name (i := 6) sc_P_init.nd rfl (.inl rfl)) pgs_nil))) (pss_cons (ps_asg (pc c_find_broken_pair hr (pa_cons (pv 1) (pa_cons (pv 5) (pa_cons (pv 6) pa_nil)))) (pg_name (i := 7) sc_P_init.nd rfl (.inl rfl)))
      (pss_one (ps_if (pt_cmpR op_notN (pv 7) (pe_non) (nomark _)) (pss_one (ps_never)) pss_nil))))
      (pss_cons (ps_fld (pv 0) (pe_utup (pa_cons (pe_ix ix_tup (pv 1) (pe_int) (fun _ _ => rfl)) (pa_cons (pe_ix ix_tup (pv 1) (pe_int) (fun _ _ => rfl)) pa_nil))) rfl)
      (pss_cons (ps_fld (pv 0) (pv 2) rfl)
      (pss_cons (ps_fld (pv 0) (pv 3) rfl)
      (pss_cons (ps_fld (pv 0) (pc c_letters_by_pair hr (pa_cons (pv 1) (pa_cons (pe_glob (v := .str "rising") rfl (g.rising).choose_spec ⟨_, rfl⟩) (pa_cons (pv 2) pa_nil)))) rfl)
      (pss_cons (ps_asg (pc c_letters_by_pair hr (pa_cons (pv 1) (pa_cons (pe_glob (v := .str "falling") rfl (g.falling).choose_spec ⟨_, rfl⟩) (pa_cons (pv 3) pa_nil)))) (pg_name (i := 8) sc_P_init.nd rfl (.inl rfl)))
      (pss_one (ps_for PassesOwn.never rfl (pi_nkeys kt2 (pv 8)) (pg_name (i := 7) sc_P_init.nd rfl (.inl rfl)) (pss_one (ps_asg (pe_nget kt2 hr.units (pv 8) (pv 7) (fun _ _ => rfl)) (pg_sub (pe_fld (pv 0) rfl) (pv 7) (set_n kt2 hr.units)))))))))))))), ?_⟩
    walk_at "go"
    rename_i t1 H1 ht1 hs1 hl1 t2 H2 ht2 hs2 hl2 r H3 hr hs3 hl3
    have hls : LsR HfR H3 r [("rising", z1), ("falling", z2)] := ⟨_, hl3, .cons ⟨t1, rfl, by walk_at "f"⟩ (.cons ⟨t2, rfl, by walk_at "f"⟩ .nil)⟩
    have okh : ∀ i ∈ [(("rising" : Str), z1), ("falling", z2)], HalfOk W Hh i.1 i.2 F G := by
      intro i hi
      rcases List.mem_cons.mp hi with rfl | hi
      · exact ok1
      · rw [List.mem_singleton.mp hi]; exact ok2
    have s03 : Same H H3 := by walk_at "sm"
    refine u_list hl3 ?_
    refine u_items (fun i σ H4 => ∃ a b, σ = [some (.ref x), some vb, some (.str z1), some (.str z2), some (.ref r), a, b, none, none] ∧ Same H3 H4) ⟨_, _, rfl, Same.refl _⟩ (fun i σ H4 _ h => by obtain ⟨_, _, _, s⟩ := h; exact hls.up trH s) (fun i hz y σ H4 hi hy h => ?_) (fun σ H4 h => ?_)
    · obtain ⟨a, b, rfl, s4⟩ := h
      obtain ⟨ty, rfl, hty⟩ := hy
      obtain ⟨tx, hF, _⟩ := okh _ (List.mem_of_getElem? hi)
      walk_at "go"
      refine ⟨vb, W, Hh, hz.1, hz.2, F, rfl, (hb.up s03).up s4, hW, hH, tx, hF, fun H5 hs5 => ?_⟩
      refine ⟨true, rfl, ?_⟩
      walk_at "go"
      exact ⟨_, _, rfl, by walk_at "sm"⟩
    obtain ⟨a, b, rfl, s4⟩ := h
    walk_at "go"
    refine u_list (s4 _ _ hl3) ?_
    refine u_items (fun i σ H5 => ∃ a b c, σ = [some (.ref x), some vb, some (.str z1), some (.str z2), some (.ref r), a, b, c, none] ∧ LamX.ExtN H H5 ∧ LamX.Tabs (lamT Pt) H5 ∧ LsR HfR H5 r [("rising", z1), ("falling", z2)]) ⟨_, _, _, rfl, .of (Same.trans s03 s4), hT.ext (Same.trans s03 s4), hls.up trH s4⟩ (fun i σ H5 _ h => by obtain ⟨_, _, _, _, _, _, h⟩ := h; exact h) (fun i hz y σ H5 hi hy h => ?_) (fun σ H5 h => ?_)
    · obtain ⟨a, b, c, rfl, e5, hT5, hls5⟩ := h
      obtain ⟨ty, rfl, hty⟩ := hy
      obtain ⟨tx, hF, lok, cok⟩ := okh _ (List.mem_of_getElem? hi)
      walk_at "go"
      refine ⟨vb, W, Hh, hz.1, hz.2, F, G, rfl, hb.upN e5, hW, hH, tx, lok, cok, hT5, fun H6 e6 hT6 => ?_⟩
      walk_at "go"
      refine ⟨rfl, ?_⟩
      refine ⟨_, rfl, ?_⟩
      rw [if_neg (by simp)]
      walk_at "go"
      exact ⟨_, _, _, rfl, LamX.ExtN.trans e5 e6, hT6, hls5.upN trH e6⟩
    obtain ⟨a, b, c, rfl, e5, hT5, hls5⟩ := h
    walk_at "go"
    refine s_setf ?_
    obtain ⟨tb, rfl, hb5⟩ := hb.upN e5
    walk_at "go"
    rename_i bt H6 hbt hs6 hbt6
    have hx5 : H5 x = some (.ins C dx []) := e5 _ _ hx fun _ z => by cases z
    have hx6 := hs6 _ _ hx5
    refine u_setf hx6 pc0.cl pc0.nb rfl fun H7 bu7 hx7 => ?_
    walk_at "go"
    refine s_setf ?_
    walk_at "go"
    refine u_setf hx7 pc0.cl pc0.nr rfl fun H8 bu8 hx8 => ?_
    walk_at "go"
    refine s_setf ?_
    walk_at "go"
    refine u_setf hx8 pc0.cl pc0.nf rfl fun H9 bu9 hx9 => ?_
    walk_at "go"
    refine s_setf ?_
    walk_at "go"
    have nx1 : ∀ {a : Addr} {xs : List V} {H' : Hp}, H' a = some (.tup xs) → H' x = some (.ins C dx []) → a ≠ x := fun h1 h2 z => by rw [z, h2] at h1; cases h1
    have k69 : ∀ a o, a ≠ x → H6 a = some o → H9 a = some o := fun a o n e => bu9 _ _ n (bu8 _ _ n (bu7 _ _ n e))
    have hT9 : LamX.Tabs (lamT Pt) H9 := Tabs.butI (Tabs.butI (Tabs.butI (hT5.ext hs6) hx6 bu7) hx7 bu8) hx8 bu9
    have e9 : Ext1 x H H9 := Ext1.tr (Ext1.tr (Ext1.of e5) (Ext1.of (.of hs6))) fun a o n e _ => k69 a o n e
    have hb9 : H9 tb = some (.tup [.int W, .int Hh]) := k69 _ _ (nx1 hb5 hx5) (hs6 _ _ hb5)
    have hbt9 : H9 bt = some (.tup [.int W, .int Hh]) := k69 _ _ (nx1 hbt6 hx6) hbt6
    refine ⟨_, W, Hh, "rising", z1, F, rfl, ⟨tb, rfl, hb9⟩, hW, hH, ok1.1, fun d H10 hd hs10 hd10 => ?_⟩
    walk_at "go"
    refine u_setf (hs10 _ _ hx9) pc0.cl pc0.nl rfl fun H11 bu11 hx11 => ?_
    walk_at "go"
    have hd11 := NTab.butI hd10 (hs10 _ _ hx9) bu11
    have hb11 : H11 tb = some (.tup [.int W, .int Hh]) := bu11 _ _ (nx1 hb5 hx5) (hs10 _ _ hb9)
    have hbt11 : H11 bt = some (.tup [.int W, .int Hh]) := bu11 _ _ (nx1 hbt6 hx6) (hs10 _ _ hbt9)
    have hT11 : LamX.Tabs (lamT Pt) H11 := Tabs.butI (hT9.ext hs10) (hs10 _ _ hx9) bu11
    have e11 : Ext1 x H H11 := Ext1.tr (Ext1.tr e9 (Ext1.of (.of hs10))) (Ext1.but bu11)
    refine ⟨_, W, Hh, "falling", z2, F, rfl, ⟨tb, rfl, hb11⟩, hW, hH, ok2.1, fun d2 H12 hd2 hs12 hd212 => ?_⟩
    walk_at "go"
    refine s_nkeys ?_
    walk_at "go"
    obtain ⟨o2, hd2o⟩ := id hd212
    refine u_nkeys hd2o ?_
    have hx12 := hs12 _ _ hx11
    have hdd : d2 ≠ d := fun z => by
      obtain ⟨o, ho⟩ := hd11
      rw [z, ho.at_] at hd2; cases hd2
    have hl12 : (tabL F (pairsL W Hh "falling")).length ≤ 81 * 81 := by unfold tabL; rw [List.length_map]; exact pairsL_len hW hH
    have hlen1 : (tabL F (pairsL W Hh "rising")).length ≤ 81 * 81 := by unfold tabL; rw [List.length_map]; exact pairsL_len hW hH
    refine u_fornk (fun i σ H13 => ∃ a b c kv, σ = [some (.ref x), some (.ref tb), some (.str z1), some (.str z2), some (.ref r), a, b, c, some (.ref d2)] ∧ NTabO kt2 P w H13 d2 o2 (tabL F (pairsL W Hh "falling")) ∧ NTab kt2 P w H13 d kv ∧ kv.length ≤ 81 * 81 + i ∧ (∀ b ∈ pairsL W Hh "rising" ++ (pairsL W Hh "falling").take i, look kv b = some (.str (F b))) ∧ H13 x = some (.ins C dx (fldsOf bt d z1 z2)) ∧ H13 bt = some (.tup [.int W, .int Hh]) ∧ Ext1 x H9 H13 ∧ LamX.Tabs (lamT Pt) H13)
      ⟨_, _, _, _, rfl, hd2o, hd11.up hs12, by omega, fun b hb => look_tab (by simpa using hb), hx12, hs12 _ _ hbt11, Ext1.tr (Ext1.tr (Ext1.of (.of hs10)) (Ext1.but bu11)) (Ext1.of (.of hs12)), hT11.ext hs12⟩ (fun i σ H13 _ h => by obtain ⟨_, _, _, _, _, h, _⟩ := h; exact h) (fun i ky v y σ H13 hi hy h => ?_) (fun σ H13 h => ?_)
    · obtain ⟨a, b, c, kv, rfl, g2, g1, gl, gk, gx, gb, ge, gT⟩ := h
      have hik : (pairsL W Hh "falling")[i]? = some ky := by
        unfold tabL at hi
        rw [List.getElem?_map] at hi
        cases e : (pairsL W Hh "falling")[i]? with
        | none => rw [e] at hi; cases hi
        | some b =>
          rw [e] at hi
          exact congrArg some (congrArg Prod.fst (Option.some.inj hi))
      have hkm := List.mem_of_getElem? hik
      walk_at "go"
      refine u_nget (k := ky) (kvs := tabL F (pairsL W Hh "falling")) ⟨o2, g2⟩ hy (look_tab hkm) ?_
      walk_at "go"
      refine u_fld gx pc0.cl pc0.nl rfl ?_
      walk_at "go"
      have hil : i < 81 * 81 := Nat.lt_of_lt_of_le (List.getElem?_eq_some_iff.mp hik).1 (pairsL_len hW hH)
      refine u_nset (k := ky) (kvs := kv) g1 (by omega) hy fun H14 nt14 bu14 _ => ?_
      have tk := g1.tupK bu14
      have nxd : x ≠ d := fun z => by
        obtain ⟨o, ho⟩ := g1
        have := ho.at_
        rw [← z, gx] at this
        cases this
      have hpl := put_len kv ky (V.str (F ky))
      refine ⟨_, _, _, _, rfl, NTabO.upD g2 (fun o e => bu14 _ _ hdd e) tk, nt14, by omega, fun b hb => ?_, bu14 _ _ nxd gx, tk _ _ gb, Ext1.butD ge hd bu14, Tabs.but gT g1 bu14⟩
      rw [look_put]
      by_cases e : b = ky
      · rw [if_pos e, e]
      · rw [if_neg e]
        refine gk b ?_
        rw [List.take_add_one, hik, ← List.append_assoc] at hb
        rcases List.mem_append.mp hb with hb | hb
        · exact hb
        · exact absurd (List.mem_singleton.mp hb) e
    · obtain ⟨a, b, c, kv, rfl, g2, g1, gl, gk, gx, gb, ge, gT⟩ := h
      have e : (tabL F (pairsL W Hh "falling")).length = (pairsL W Hh "falling").length := by unfold tabL; rw [List.length_map]
      rw [e, List.take_length] at gk
      walk_at "go"
      exact k _ (Ext1.tr e9 ge) gT ⟨dx, bt, z1, z2, d, kv, gx, gb, g1, gk⟩
end
end Cp
end
section
namespace Cp
open PySem PySem.Spec PyProof.Rows L2
/-! ### parts of a loop, marks -/
def sgm {α : Type} (cs : List α) (a b : Nat) : List α := (cs.drop a).take (b + 1 - a)
def Ln (F : Fn) (cs : List Pt) (a b : Nat) : Bool := decide (sgm cs a b = line F (cs.getD a (0, 0)) (cs.getD b (0, 0)))
theorem sgm_snoc {α : Type} {cs : List α} {a b : Nat} {c : α} (h : a ≤ b) (hb : cs[b]? = some c) : sgm cs a b = (cs.drop a).take (b - a) ++ [c] := by
  unfold sgm
  rw [show b + 1 - a = (b - a) + 1 by omega, List.take_add_one, List.getElem?_drop, show a + (b - a) = b by omega, hb]
  rfl
theorem sgm_head {α : Type} {cs : List α} {a b : Nat} {c : α} (h : a ≤ b) (ha : cs[a]? = some c) : (sgm cs a b)[0]? = some c := by
  unfold sgm
  rw [List.getElem?_take_of_lt (by omega), List.getElem?_drop]
  exact ha
theorem sgm_len {α : Type} {cs : List α} {a b : Nat} (h : a ≤ b) (hb : b < cs.length) : (sgm cs a b).length = b + 1 - a := by
  unfold sgm
  rw [List.length_take, List.length_drop]
  omega
theorem cut_sgm {α : Type} {cs : List α} {a b : Nat} (h : a ≤ b) (hb : b < cs.length) : cut cs (some (a : Int)) (some ((b : Int) + 1)) = sgm cs a b := by
  unfold cut sgm
  have e : ((b : Int) + 1) = ((b + 1 : Nat) : Int) := by omega
  rw [e, HT.sIx_nat, HT.sIx_nat]
  rw [show min a cs.length = a by omega, show min (b + 1) cs.length = b + 1 by omega]
theorem getD_of {α : Type} {cs : List α} {a : Nat} {c d : α} (h : cs[a]? = some c) : cs.getD a d = c := by
  rw [List.getD_eq_getElem?_getD, h]; rfl
/-- the farthest mark from a -/
structure FarOk (L : Nat → Nat → Bool) (n a b : Nat) : Prop where
  lt : a < b
  le : b ≤ n
  all : ∀ j, a + 1 < j → j ≤ b → L a j = true
  stop : b < n → L a (b + 1) = false
inductive Gr (L : Nat → Nat → Bool) (n : Nat) : Nat → List Nat → Prop
  | nil : Gr L n n []
  | cons {a b : Nat} {ms : List Nat} : a < n → FarOk L n a b → Gr L n b ms → Gr L n a (a :: ms)
theorem Gr.len {L : Nat → Nat → Bool} {n a : Nat} {ms : List Nat} (g : Gr L n a ms) : a ≤ n ∧ ms.length ≤ n - a := by
  induction g with
  | nil => exact ⟨Nat.le_refl _, Nat.zero_le _⟩
  | cons h f _ ih =>
    have := f.lt
    rw [List.length_cons]
    omega
theorem Gr.lt {L : Nat → Nat → Bool} {n a : Nat} {ms : List Nat} (g : Gr L n a ms) : ∀ m ∈ ms, m < n := by
  induction g with
  | nil => intro m h; cases h
  | cons h _ _ ih =>
    intro m hm
    rcases List.mem_cons.mp hm with rfl | hm
    · exact h
    · exact ih m hm
/-- the check of marks -/
def okS (L : Nat → Nat → Bool) (n : Nat) : Int → List Int → Bool
  | _, [] => true
  | a, b :: r => (decide (a < b) && decide (b ≤ n)) && L a.toNat b.toNat && !(decide (b < n) && L a.toNat (b.toNat + 1)) && okS L n b r
def okM (L : Nat → Nat → Bool) (n : Nat) (ms : List Int) : Bool := match ms ++ [(n : Int)] with
  | [] => false
  | s :: r => decide (s = 0) && okS L n s r
theorem okM_eq {L : Nat → Nat → Bool} {n : Nat} {ms : List Int} {s : Int} {r : List Int} (h : ms ++ [(n : Int)] = s :: r) : okM L n ms = (decide (s = 0) && okS L n s r) := by
  unfold okM
  rw [h]
section
variable {σ : L2.St} {H : Hp} {D : Ends} {te : TE} {ti : TIp} {i : Nat} {x : V} {n m : Int}
theorem s_aug (h : σ[i]? = some (some x)) (q : te σ H fun y H1 => ti x y H1 fun z H2 => D.nx (σ.set i (some z)) H2) : tAug i te ti D σ H := ⟨x, h, q⟩
theorem s_ipI {f : Int → Int → Int} {Q : VK} (q : Q (.int (f n m)) H) : ipI f (.int n) (.int m) H Q := ⟨n, m, rfl, rfl, q⟩
end
theorem iteNT {A B : Prop} (h : B) : if (!true) = true then A else B := by simpa using h
theorem iteNF {A B : Prop} (h : A) : if (!false) = true then A else B := by simpa using h
theorem Bld.upT {α : Type} {R : Hp → V → α → Prop} {H0 H H' : Hp} {p : Addr} {as : List α} (t : Tr R) (b : Bld R H0 H p as) (s : Same H H') : Bld R H0 H' p as := b.up t s
end Cp
end
section
namespace Cp
open PySem PySem.Spec PyProof.Rows L2
local macro_rules | `(tactic| walk_at "f") => `(tactic| first | assumption | (refine' keep_of ?_ (by assumption); walk_at "f") | (refine Cn.up ?_ (by assumption); walk_at "f") | (refine Pr.up ?_ (by assumption); walk_at "f") | (refine NTab.up ?_ (by assumption); walk_at "f") | (refine PlI.up ?_ (by assumption); walk_at "f") | (refine LsR.up (by first | exact trC | exact trP | exact trI | assumption) ?_ (by assumption); walk_at "f"))
local macro_rules | `(tactic| walk_at "sm") => `(tactic| first | exact Same.refl _ | assumption | (refine same_tr ?_ (by assumption); walk_at "sm"))
local macro_rules | `(tactic| walk_at "fr") => `(tactic| first | assumption | (refine nof ?_ (by assumption); walk_at "fr"))
local macro_rules | `(tactic| walk_at "s1") => `(tactic| first
  | with_reducible refine s_seq ?_ | with_reducible refine s_ret ?_ | with_reducible refine s_asg ?_ | with_reducible refine s_if ?_ | with_reducible refine s_next ?_ | with_reducible refine s_drop ?_
  | ((with_reducible refine' s_var ?h ?q); (case h => exact rfl)) | with_reducible refine s_c ?_ | with_reducible refine s_op ?_ | with_reducible refine s_I0 ?_
  | with_reducible refine s_eqI ?_ | with_reducible refine s_neI ?_ | with_reducible refine s_eqS ?_ | with_reducible refine s_neS ?_
  | with_reducible refine s_test ?_ | with_reducible refine s_tB ?_ | with_reducible refine s_bl ?_ | with_reducible refine s_and ?_ | with_reducible refine s_or ?_ | with_reducible refine s_not ?_ | with_reducible refine s_andV ?_ | with_reducible refine s_chain ?_
  | with_reducible refine s_cons ?_ | with_reducible refine s_nil ?_ | with_reducible refine s_tup ?_ | with_reducible refine s_lst ?_
  | with_reducible refine s_CB ?_ | with_reducible refine s_call ?_ | with_reducible refine s_gname ?_ | with_reducible refine s_gcons ?_ | with_reducible refine s_gnil ?_
  | ((with_reducible refine' s_gtup ?h ?e ?q); (case h => walk_at "f"); (case e => exact rfl))
  | ((with_reducible refine' s_ixT ?h ?e ?q); (case h => walk_at "f"); (case e => exact rfl))
  | (with_reducible refine s_BM ?_) | ((with_reducible refine s_new ?z ?q); (case z => exact rfl); intro p H1 hp hs hv))
local macro_rules | `(tactic| walk_at "s2") => `(tactic| first
  | walk_at "s1" | with_reducible refine iteF ?_ | with_reducible refine iteT ?_ | with_reducible refine u_tup ?_ | with_reducible refine u_lst ?_ | ((with_reducible refine u_newT ?z ?q); (case z => exact rfl); intro p H1 hp hs hv) | ((with_reducible refine u_newL ?z ?q); (case z => exact rfl); intro p H1 hp hs hv) | with_reducible refine s_min2 ?_ | ((with_reducible refine' s_aug ?h ?q); (case h => exact rfl)) | with_reducible refine s_ipI ?_ | with_reducible refine s_sl2 ?_ | with_reducible refine s_part ?_ | with_reducible refine u_part ?_ | with_reducible refine s_nopart ?_ | with_reducible refine s_rev ?_ | with_reducible refine s_un ?_ | with_reducible refine s_U ?_ | with_reducible refine s_gsub ?_ | ((with_reducible refine s_lenS ?z ?q); (case z => assumption)) | with_reducible refine s_rng1 ?_ | with_reducible refine s_rng2 ?_ | with_reducible refine s_list ?_ | with_reducible refine s_istr ?_ | with_reducible refine u_str ?_ | with_reducible refine s_for ?_ | with_reducible refine s_lc ?_ | with_reducible refine s_lc2 ?_ | with_reducible refine s_yes ?_ | with_reducible refine s_bm ?_ | with_reducible refine s_mth ?_ | with_reducible refine s_abs ?_ | with_reducible refine s_int1 ?_ | with_reducible refine s_nget ?_ | with_reducible refine s_fld ?_
  | ((with_reducible refine' s_lenL ?h ?q); (case h => walk_at "f"))
  | ((with_reducible refine' s_lenT ?h ?q); (case h => walk_at "f")))
local macro_rules | `(tactic| walk_at "go") => `(tactic| repeat walk_at "s2")
section
variable {P : Program} {w : World} {K : PySem.W.Frag} {mg : Str → Option Value} {base : Heap} {C : Addr}
def spIsLine (P : Program) (w : World) (C : Addr) : Sp := fun vs H Q _ => ∃ x p, ∃ a b W Hh : Nat, ∃ F : Fn, ∃ cs, vs = [.ref x, .ref p, .int a, .int b] ∧ PlI P w C H x W Hh F ∧ Vd W Hh F ∧ W ≤ 8 ∧ Hh ≤ 8 ∧ LsR Cn H p cs ∧ (∀ c ∈ cs, OnB W Hh c) ∧ a < b ∧ b < cs.length ∧ ∀ H', Same H H' → Q (.bl (Ln F cs a b)) H'
theorem sc_is_walked_line : FnScope ["plane", "corners", "a", "b", "part"] ["plane", "corners", "a", "b"] (defScope s_is_walked_line) := ⟨rfl, rfl, rfl, by decide +kernel, rfl, by decide +kernel, by decide +kernel⟩
theorem c_is_walked_line (g : Gs mg) (m_line : Met P w K mg base 4 C "line" ["self", "p", "q"] (spPLine P w C)) {f : Addr} (hm : mg "is_walked_line" = some (.ref f)) (F : Fd K "is_walked_line" "is_walked_line" s_is_walked_line f) : Cal P w K mg base 5 "is_walked_line" ["plane", "corners", "a", "b"] (spIsLine P w C) := by
  refine Cal.mk' hm (fn_mk (k := 4) F sc_is_walked_line (fun _ _ _ _ _ _ us hl => match us, hl with | [_, _, _, _], _ => rfl) (fun vs H Q E h => ?_) (fun cdv A outer s H vs Q E hr h => ?_))
  · obtain ⟨_, _, _, _, _, _, _, _, rfl, _⟩ := h; rfl
  · obtain ⟨x, p, a, b, W, Hh, F, cs, rfl, pl, vd, hW, hH, hp, hon, hab, hb, k⟩ := h
    refine ⟨_, (pss_cons (ps_asg (pe_slice sl_list (pv 1) (po_some (pv 2)) (po_some (pe_op op_add (pv 3) (pe_int)))) (pg_name (i := 4) sc_is_walked_line.nd rfl (.inl rfl)))
      (pss_one (ps_ret (pe_cmpR (op_eqD hr.units) (pv 4) (pm m_line hr (pv 0) (pa_cons (pe_ix ix_list (pv 4) (pe_int) (fun _ _ => rfl)) (pa_cons (pe_ix ix_list (pv 4) (pe_un un_neg (pe_int)) (fun _ _ => rfl)) pa_nil))) (nomark _))))), ?_⟩
    walk_at "go"
    refine u_slice trC hp fun r H1 hr hs1 hm1 => ?_
    rw [cut_sgm (Nat.le_of_lt hab) hb] at hm1
    have ea : cs[a]? = some (cs[a]'(by omega)) := List.getElem?_eq_getElem _
    have eb : cs[b]? = some cs[b] := List.getElem?_eq_getElem _
    walk_at "go"
    obtain ⟨dx, bt, z1, z2, d, kvs, g1, g2, g3, g4⟩ := pl.up hs1
    refine u_mth g1 rfl ?_
    walk_at "go"
    refine u_ixL (a := cs[a]'(by omega)) (i := 0) hm1 (atI_nat (j := 0) (sgm_head (Nat.le_of_lt hab) ea)) fun va hva => ?_
    walk_at "go"
    refine u_ixL (a := cs[b]) hm1 (by rw [sgm_snoc (Nat.le_of_lt hab) eb]; exact atI_last _ _) fun vb hvb => ?_
    walk_at "go"
    refine ⟨x, va, vb, cs[a]'(by omega), cs[b], W, Hh, F, rfl, pl.up hs1, vd, hW, hH, hva, hvb, hon _ (List.getElem_mem _), hon _ (List.getElem_mem _), fun l H2 hl hs2 hm2 => ?_⟩
    refine u_eqL (hm1.up trC hs2) hm2 ?_
    have e : Ln F cs a b = decide (sgm cs a b = line F (cs[a]'(by omega)) cs[b]) := by
      unfold Ln
      rw [getD_of ea, getD_of eb]
    rw [e] at k
    exact k H2 (Same.trans hs1 hs2)
def spFar (P : Program) (w : World) (C : Addr) : Sp := fun vs H Q _ => ∃ x p, ∃ a n W Hh : Nat, ∃ F : Fn, ∃ cs, vs = [.ref x, .ref p, .int a] ∧ PlI P w C H x W Hh F ∧ Vd W Hh F ∧ W ≤ 8 ∧ Hh ≤ 8 ∧ LsR Cn H p cs ∧ (∀ c ∈ cs, OnB W Hh c) ∧ cs.length = n + 1 ∧ a < n ∧ ∀ (b : Nat) H', Same H H' → FarOk (Ln F cs) n a b → Q (.int b) H'
theorem sc_farthest : FnScope ["plane", "corners", "a", "b"] ["plane", "corners", "a"] (defScope s_farthest) := ⟨rfl, rfl, rfl, by decide +kernel, rfl, by decide +kernel, by decide +kernel⟩
theorem c_farthest (g : Gs mg) (c_is_walked_line : Cal P w K mg base 5 "is_walked_line" ["plane", "corners", "a", "b"] (spIsLine P w C)) {f : Addr} (hm : mg "farthest" = some (.ref f)) (F : Fd K "farthest" "farthest" s_farthest f) : Cal P w K mg base 6 "farthest" ["plane", "corners", "a"] (spFar P w C) := by
  refine Cal.mk' hm (fn_mk (k := 5) F sc_farthest (fun _ _ _ _ _ _ us hl => match us, hl with | [_, _, _], _ => rfl) (fun vs H Q E h => ?_) (fun cdv A outer s H vs Q E hr h => ?_))
  · obtain ⟨_, _, _, _, _, _, _, _, rfl, _⟩ := h; rfl
  · obtain ⟨x, p, a, n, W, Hh, F, cs, rfl, pl, vd, hW, hH, hp, hon, hn, han, k⟩ := h
    refine ⟨_, (pss_cons (ps_asg (pe_op op_add (pv 2) (pe_int)) (pg_name (i := 3) sc_farthest.nd rfl (.inl rfl)))
      (pss_cons (ps_while PassesOwn.never (PW.pt (pw_and (pt_cmpR op_lt (pe_op op_add (pv 3) (pe_int)) (pe_callB cr_len (by rfl) g.len (by rfl) (pa_cons (pv 1) pa_nil)) (nomark _)) (pw_and1 (pt_val (pc c_is_walked_line hr (pa_cons (pv 0) (pa_cons (pv 1) (pa_cons (pv 2) (pa_cons (pe_op op_add (pv 3) (pe_int)) pa_nil))))))))) (pss_one (ps_aug (i := 3) sc_farthest.nd rfl (.inl rfl) (pe_int) ip_add)))
      (pss_one (ps_ret (pv 3))))), ?_⟩
    walk_at "go"
    refine u_while (fun m σ H2 => ∃ b : Nat, σ = [some (.ref x), some (.ref p), some (.int a), some (.int b)] ∧ Same H H2 ∧ a < b ∧ b ≤ n ∧ (∀ j, a + 1 < j → j ≤ b → Ln F cs a j = true) ∧ n - b = m) ⟨n - (a + 1), a + 1, rfl, Same.refl _, by omega, by omega, fun j h1 h2 => by omega, rfl⟩ ?_
    rintro m σ H2 ⟨b, rfl, s2, hab, hbn, hall, rfl⟩
    walk_at "go"
    refine u_len (hp.up trC s2) ?_
    walk_at "go"
    refine ite3 (fun h1 => ?_) (fun h1 => ?_)
    · have hb1 : b + 1 < cs.length := by omega
      walk_at "go"
      refine ⟨x, p, a, b + 1, W, Hh, F, cs, rfl, pl.up s2, vd, hW, hH, hp.up trC s2, hon, by omega, hb1, fun H3 s3 => ?_⟩
      refine ⟨_, rfl, ?_⟩
      refine iteB (fun h2 => ?_) (fun h2 => ?_)
      · refine ⟨_, fun σ' H' h => h, ?_⟩
        walk_at "go"
        refine ⟨n - (b + 1), by omega, b + 1, rfl, Same.trans s2 s3, by omega, by omega, fun j h3 h4 => ?_, rfl⟩
        by_cases e : j = b + 1
        · rw [e]; exact h2
        · exact hall j h3 (by omega)
      · walk_at "go"
        exact k b H3 (Same.trans s2 s3) ⟨hab, hbn, hall, fun _ => h2⟩
    · walk_at "go"
      exact k b H2 s2 ⟨hab, hbn, hall, fun h => by omega⟩
def clo (cs : List Pt) : List Pt := cs ++ [cs.getD 0 (0, 0)]
def spMarks (P : Program) (w : World) (C : Addr) : Sp := fun vs H Q _ => ∃ x p, ∃ W Hh : Nat, ∃ F : Fn, ∃ cs, vs = [.ref x, .ref p] ∧ PlI P w C H x W Hh F ∧ Vd W Hh F ∧ W ≤ 8 ∧ Hh ≤ 8 ∧ (LsR Cn H p cs ∨ TsR Cn H p cs) ∧ (∀ c ∈ cs, OnB W Hh c) ∧ 0 < cs.length ∧ cs.length ≤ 1000 ∧ ∀ r H' ms, H r = none → Same H H' → LsR In H' r (ms.map fun (m : Nat) => (m : Int)) → Gr (Ln F (clo cs)) cs.length 0 ms → Q (.ref r) H'
theorem SqR.up {α : Type} {R : Hp → V → α → Prop} {H H' : Hp} {p : Addr} {as : List α} (t : Tr R) (h : LsR R H p as ∨ TsR R H p as) (s : Same H H') : LsR R H' p as ∨ TsR R H' p as := by
  rcases h with h | ⟨xs, e, q⟩
  · exact .inl (h.up t s)
  · exact .inr ⟨xs, s _ _ e, Paired.mono (fun a b r => t.up (.of s) r) q⟩
theorem sc_least_marks : FnScope ["plane", "loop", "corners", "marks", "at"] ["plane", "loop"] (defScope s_least_marks) := ⟨rfl, rfl, rfl, by decide +kernel, rfl, by decide +kernel, by decide +kernel⟩
theorem c_least_marks (g : Gs mg) (c_farthest : Cal P w K mg base 6 "farthest" ["plane", "corners", "a"] (spFar P w C)) {f : Addr} (hm : mg "least_marks" = some (.ref f)) (F : Fd K "least_marks" "least_marks" s_least_marks f) : Cal P w K mg base 7 "least_marks" ["plane", "loop"] (spMarks P w C) := by
  refine Cal.mk' hm (fn_mk (k := 6) F sc_least_marks (fun _ _ _ _ _ _ us hl => match us, hl with | [_, _], _ => rfl) (fun vs H Q E h => ?_) (fun cdv A outer s H vs Q E hr h => ?_))
  · obtain ⟨_, _, _, _, _, _, rfl, _⟩ := h; rfl
  · obtain ⟨x, p, W, Hh, F, cs, rfl, pl, vd, hW, hH, hp, hon, h0, hz, k⟩ := h
    refine ⟨_, (pss_cons (ps_asg (pe_op op_cat (pe_callTy cr_listOf (by rfl) g.list (by rfl) (pa_cons (pv 1) pa_nil)) (pe_ulst (pa_cons (pe_ix ix_seq (pv 1) (pe_int) (fun _ _ => rfl)) pa_nil))) (pg_name (i := 2) sc_least_marks.nd rfl (.inl rfl)))
      (pss_cons (ps_asg (pe_ulst pa_nil) (pg_name (i := 3) sc_least_marks.nd rfl (.inl rfl)))
      (pss_cons (ps_asg (pe_int) (pg_name (i := 4) sc_least_marks.nd rfl (.inl rfl)))
      (pss_cons (ps_while PassesOwn.never (pt_cmpR op_lt (pv 4) (pe_callB cr_len (by rfl) g.len (by rfl) (pa_cons (pv 1) pa_nil)) (nomark _)) (pss_cons (ps_expr (pe_bm PySem.F.plainAttrs_list PySem.F.slot_list_append PySem.F.type_list_append mt_append (pv 3) (pa_cons (pv 4) pa_nil)))
      (pss_one (ps_asg (pc c_farthest hr (pa_cons (pv 0) (pa_cons (pv 2) (pa_cons (pv 4) pa_nil)))) (pg_name (i := 4) sc_least_marks.nd rfl (.inl rfl))))))
      (pss_one (ps_ret (pv 3))))))), ?_⟩
    have e0 : cs[0]? = some cs[0] := List.getElem?_eq_getElem _
    walk_at "go"
    refine u_listOf trC hp fun l H1 hl hs1 hm1 => ?_
    walk_at "go"
    refine u_ixS (a := cs[0]) (i := 0) (SqR.up trC hp hs1) (atI_nat (j := 0) e0) fun v0 hv0 => ?_
    walk_at "go"
    rename_i l2 H2 hl2 hs2 hm2
    refine u_cat trC (hm1.up trC hs2) ⟨_, hm2, .cons (hv0.up hs2) .nil⟩ (by simp; omega) fun q H3 hq hs3 hm3 => ?_
    have hclo : cs ++ [cs[0]] = clo cs := by unfold clo; rw [getD_of e0]
    rw [hclo] at hm3
    walk_at "go"
    rename_i r H4 hr hs4 hm4
    have s04 : Same H H4 := Same.trans (Same.trans hs1 hs2) (Same.trans hs3 hs4)
    have B0 : Bld In H H4 r (([] : List Nat).map fun (m : Nat) => (m : Int)) := Bld.new (Same.trans (Same.trans hs1 hs2) hs3) hr hs4 hm4
    have hrq : q ≠ r := fun z => by
      obtain ⟨xs, hx, _⟩ := hm3
      rw [z, hr] at hx; cases hx
    refine u_while (fun m σ H5 => ∃ at' pre, ∃ ms' : List Nat, σ = [some (.ref x), some (.ref p), some (.ref q), some (.ref r), some (.int (at' : Nat))] ∧ Bld In H H5 r (pre.map fun (m : Nat) => (m : Int)) ∧ LsR Cn H5 q (clo cs) ∧ at' ≤ cs.length ∧ (∀ ms, Gr (Ln F (clo cs)) cs.length at' ms → Gr (Ln F (clo cs)) cs.length 0 (pre ++ ms)) ∧ pre.length + (cs.length - at') ≤ cs.length ∧ cs.length - at' = m) ⟨_, 0, [], [], rfl, B0, hm3.up trC hs4, by omega, fun ms h => h, by simp, rfl⟩ ?_
    rintro m σ H5 ⟨a, pre, ms', rfl, B, hq5, hle, hg, hpl, rfl⟩
    walk_at "go"
    refine u_lenS (SqR.up trC hp B.same) ?_
    walk_at "go"
    refine ite3 (fun h1 => ?_) (fun h1 => ?_)
    · refine ⟨_, fun σ' H' h => h, ?_⟩
      walk_at "go"
      obtain ⟨ys, hy, _⟩ := id B.ls
      refine u_bmL hy ?_
      walk_at "go"
      refine u_append trI B (a := ((a : Nat) : Int)) rfl (by rw [List.length_map]; omega) fun H6 bu6 B6 _ => ?_
      have hq6 : LsR Cn H6 q (clo cs) := hq5.up2 trC (bu6.tup hy fun _ z => by cases z) fun xs e => bu6 _ _ hrq e
      walk_at "go"
      have hcl : (clo cs).length = cs.length + 1 := by unfold clo; simp
      refine ⟨x, q, a, cs.length, W, Hh, F, clo cs, rfl, pl.up B6.same, vd, hW, hH, hq6, fun c hc => ?_, hcl, by omega, fun b H7 s7 fo => ?_⟩
      · unfold clo at hc
        rcases List.mem_append.mp hc with h | h
        · exact hon c h
        · rw [List.mem_singleton.mp h, getD_of e0]; exact hon _ (List.getElem_mem _)
      walk_at "go"
      have f1 := fo.lt
      refine ⟨cs.length - b, by omega, b, pre ++ [a], [], rfl, ?_, hq6.up trC s7, fo.le, fun ms hms => ?_, ?_, rfl⟩
      · rw [List.map_append]
        exact B6.up trI s7
      · rw [List.append_assoc]
        exact hg _ (.cons (by omega) fo hms)
      · rw [List.length_append, List.length_singleton]; omega
    · have e : a = cs.length := by omega
      subst e
      walk_at "go"
      have := hg [] .nil
      rw [List.append_nil] at this
      exact k r H5 pre B.fresh B.same B.ls this
end
end Cp
end
section
namespace Cp
open PySem PySem.Spec PyProof.Rows L2
local macro_rules | `(tactic| walk_at "f") => `(tactic| first | assumption | (refine' keep_of ?_ (by assumption); walk_at "f") | (refine Cn.up ?_ (by assumption); walk_at "f") | (refine Pr.up ?_ (by assumption); walk_at "f") | (refine NTab.up ?_ (by assumption); walk_at "f") | (refine PlI.up ?_ (by assumption); walk_at "f") | (refine LsR.up (by first | exact trC | exact trP | exact trI | assumption) ?_ (by assumption); walk_at "f"))
local macro_rules | `(tactic| walk_at "sm") => `(tactic| first | exact Same.refl _ | assumption | (refine same_tr ?_ (by assumption); walk_at "sm"))
local macro_rules | `(tactic| walk_at "fr") => `(tactic| first | assumption | (refine nof ?_ (by assumption); walk_at "fr"))
local macro_rules | `(tactic| walk_at "s1") => `(tactic| first
  | with_reducible refine s_seq ?_ | with_reducible refine s_ret ?_ | with_reducible refine s_asg ?_ | with_reducible refine s_if ?_ | with_reducible refine s_next ?_ | with_reducible refine s_drop ?_
  | ((with_reducible refine' s_var ?h ?q); (case h => exact rfl)) | with_reducible refine s_c ?_ | with_reducible refine s_op ?_ | with_reducible refine s_I0 ?_
  | with_reducible refine s_eqI ?_ | with_reducible refine s_neI ?_ | with_reducible refine s_eqS ?_ | with_reducible refine s_neS ?_
  | with_reducible refine s_test ?_ | with_reducible refine s_tB ?_ | with_reducible refine s_bl ?_ | with_reducible refine s_and ?_ | with_reducible refine s_or ?_ | with_reducible refine s_not ?_ | with_reducible refine s_andV ?_ | with_reducible refine s_chain ?_
  | with_reducible refine s_cons ?_ | with_reducible refine s_nil ?_ | with_reducible refine s_tup ?_ | with_reducible refine s_lst ?_
  | with_reducible refine s_CB ?_ | with_reducible refine s_call ?_ | with_reducible refine s_gname ?_ | with_reducible refine s_gcons ?_ | with_reducible refine s_gnil ?_
  | ((with_reducible refine' s_gtup ?h ?e ?q); (case h => walk_at "f"); (case e => exact rfl))
  | ((with_reducible refine' s_ixT ?h ?e ?q); (case h => walk_at "f"); (case e => exact rfl))
  | (with_reducible refine s_BM ?_) | ((with_reducible refine s_new ?z ?q); (case z => exact rfl); intro p H1 hp hs hv))
local macro_rules | `(tactic| walk_at "s2") => `(tactic| first
  | walk_at "s1" | with_reducible refine iteF ?_ | with_reducible refine iteT ?_ | with_reducible refine iteNT ?_ | with_reducible refine iteNF ?_ | with_reducible refine u_tup ?_ | with_reducible refine u_lst ?_ | ((with_reducible refine u_newT ?z ?q); (case z => exact rfl); intro p H1 hp hs hv) | ((with_reducible refine u_newL ?z ?q); (case z => exact rfl); intro p H1 hp hs hv) | with_reducible refine s_min2 ?_ | ((with_reducible refine' s_aug ?h ?q); (case h => exact rfl)) | with_reducible refine s_ipI ?_ | with_reducible refine s_sl2 ?_ | with_reducible refine s_part ?_ | with_reducible refine u_part ?_ | with_reducible refine s_nopart ?_ | with_reducible refine s_rev ?_ | with_reducible refine s_un ?_ | with_reducible refine s_U ?_ | with_reducible refine s_gsub ?_ | ((with_reducible refine s_lenS ?z ?q); (case z => assumption)) | with_reducible refine s_rng1 ?_ | with_reducible refine s_rng2 ?_ | with_reducible refine s_list ?_ | with_reducible refine s_istr ?_ | with_reducible refine u_str ?_ | with_reducible refine s_for ?_ | with_reducible refine s_lc ?_ | with_reducible refine s_lc2 ?_ | with_reducible refine s_yes ?_ | with_reducible refine s_bm ?_ | with_reducible refine s_mth ?_ | with_reducible refine s_abs ?_ | with_reducible refine s_int1 ?_ | with_reducible refine s_nget ?_ | with_reducible refine s_fld ?_
  | ((with_reducible refine' s_lenL ?h ?q); (case h => walk_at "f"))
  | ((with_reducible refine' s_lenT ?h ?q); (case h => walk_at "f")))
local macro_rules | `(tactic| walk_at "go") => `(tactic| repeat walk_at "s2")
section
variable {P : Program} {w : World} {K : PySem.W.Frag} {mg : Str → Option Value} {base : Heap} {C : Addr}
def spOkM (P : Program) (w : World) (C : Addr) : Sp := fun vs H Q _ => ∃ x p m, ∃ W Hh : Nat, ∃ F : Fn, ∃ cs, ∃ ms : List Int, vs = [.ref x, .ref p, .ref m] ∧ PlI P w C H x W Hh F ∧ Vd W Hh F ∧ W ≤ 8 ∧ Hh ≤ 8 ∧ (LsR Cn H p cs ∨ TsR Cn H p cs) ∧ (LsR In H m ms ∨ TsR In H m ms) ∧ (∀ c ∈ cs, OnB W Hh c) ∧ 0 < cs.length ∧ cs.length ≤ 1000 ∧ ms.length ≤ 5000 ∧ ∀ H', Same H H' → Q (.bl (okM (Ln F (clo cs)) cs.length ms)) H'
theorem sc_is_least_marks : FnScope ["plane", "loop", "marks", "corners", "stops", "k", "a", "b"] ["plane", "loop", "marks"] (defScope s_is_least_marks) := ⟨rfl, rfl, rfl, by decide +kernel, rfl, by decide +kernel, by decide +kernel⟩
theorem c_is_least_marks (g : Gs mg) (c_is_walked_line : Cal P w K mg base 5 "is_walked_line" ["plane", "corners", "a", "b"] (spIsLine P w C)) {f : Addr} (hm : mg "is_least_marks" = some (.ref f)) (F : Fd K "is_least_marks" "is_least_marks" s_is_least_marks f) : Cal P w K mg base 6 "is_least_marks" ["plane", "loop", "marks"] (spOkM P w C) := by
  refine Cal.mk' hm (fn_mk (k := 5) F sc_is_least_marks (fun _ _ _ _ _ _ us hl => match us, hl with | [_, _, _], _ => rfl) (fun vs H Q E h => ?_) (fun cdv A outer s H vs Q E hr h => ?_))
  · obtain ⟨_, _, _, _, _, _, _, _, rfl, _⟩ := h; rfl
  · obtain ⟨x, p, m, W, Hh, F, cs, ms, rfl, pl, vd, hW, hH, hp, hms, hon, h0, hz, hmz, k⟩ := h
    refine ⟨_, (pss_cons (ps_asg (pe_op op_cat (pe_callTy cr_listOf (by rfl) g.list (by rfl) (pa_cons (pv 1) pa_nil)) (pe_ulst (pa_cons (pe_ix ix_seq (pv 1) (pe_int) (fun _ _ => rfl)) pa_nil))) (pg_name (i := 3) sc_is_least_marks.nd rfl (.inl rfl)))
      (pss_cons (ps_asg (pe_op op_cat (pe_callTy cr_listOf (by rfl) g.list (by rfl) (pa_cons (pv 2) pa_nil)) (pe_ulst (pa_cons (pe_callB cr_len (by rfl) g.len (by rfl) (pa_cons (pv 1) pa_nil)) pa_nil))) (pg_name (i := 4) sc_is_least_marks.nd rfl (.inl rfl)))
      (pss_cons (ps_if (pt_cmpR op_ne (pe_ix ix_list (pv 4) (pe_int) (fun _ _ => rfl)) (pe_int) (nomark _)) (pss_one (ps_ret (pe_bl))) pss_nil)
      (pss_cons (ps_for PassesOwn.never rfl (pi_range2 (by rfl) g.range (pa_cons (pe_int) (pa_cons (pe_callB cr_len (by rfl) g.len (by rfl) (pa_cons (pv 4) pa_nil)) pa_nil))) (pg_name (i := 5) sc_is_least_marks.nd rfl (.inl rfl)) (pss_cons (ps_asg (pe_ix ix_list (pv 4) (pe_op op_sub (pv 5) (pe_int)) (fun _ _ => rfl)) (pg_name (i := 6) sc_is_least_marks.nd rfl (.inl rfl)))
      (pss_cons (ps_asg (pe_ix ix_list (pv 4) (pv 5) (fun _ _ => rfl)) (pg_name (i := 7) sc_is_least_marks.nd rfl (.inl rfl)))
      (pss_cons (ps_if (PW.pt (pw_or (pt_not (pt_chain op_lt op_le (pv 6) (pv 7) (pe_callB cr_len (by rfl) g.len (by rfl) (pa_cons (pv 1) pa_nil)))) (pw_or1 (pt_not (pt_val (pc c_is_walked_line hr (pa_cons (pv 0) (pa_cons (pv 3) (pa_cons (pv 6) (pa_cons (pv 7) pa_nil)))))))))) (pss_one (ps_ret (pe_bl))) pss_nil)
      (pss_one (ps_if (PW.pt (pw_and (pt_cmpR op_lt (pv 7) (pe_callB cr_len (by rfl) g.len (by rfl) (pa_cons (pv 1) pa_nil)) (nomark _)) (pw_and1 (pt_val (pc c_is_walked_line hr (pa_cons (pv 0) (pa_cons (pv 3) (pa_cons (pv 6) (pa_cons (pe_op op_add (pv 7) (pe_int)) pa_nil))))))))) (pss_one (ps_ret (pe_bl))) pss_nil))))))
      (pss_one (ps_ret (pe_bl))))))), ?_⟩
    have e0 : cs[0]? = some cs[0] := List.getElem?_eq_getElem _
    walk_at "go"
    refine u_listOf trC hp fun l H1 hl hs1 hm1 => ?_
    walk_at "go"
    refine u_ixS (a := cs[0]) (i := 0) (SqR.up trC hp hs1) (atI_nat (j := 0) e0) fun v0 hv0 => ?_
    walk_at "go"
    rename_i l2 H2 hl2 hs2 hm2
    refine u_cat trC (hm1.up trC hs2) ⟨_, hm2, .cons (hv0.up hs2) .nil⟩ (by simp; omega) fun q H3 hq hs3 hm3 => ?_
    have hclo : cs ++ [cs[0]] = clo cs := by unfold clo; rw [getD_of e0]
    rw [hclo] at hm3
    have s03 : Same H H3 := Same.trans (Same.trans hs1 hs2) hs3
    walk_at "go"
    refine u_listOf trI (SqR.up trI hms s03) fun l3 H4 hl3 hs4 hm4 => ?_
    walk_at "go"
    refine u_lenS (SqR.up trC (SqR.up trC hp s03) hs4) ?_
    walk_at "go"
    rename_i l4 H5 hl4 hs5 hm5
    refine u_cat trI (hm4.up trI hs5) (bs := [((cs.length : Nat) : Int)]) ⟨_, hm5, .cons rfl .nil⟩ (by rw [List.length_singleton]; omega) fun q2 H6 hq2 hs6 hm6 => ?_
    have s06 : Same H H6 := Same.trans s03 (Same.trans hs4 (Same.trans hs5 hs6))
    have hc6 : LsR Cn H6 q (clo cs) := ((hm3.up trC hs4).up trC hs5).up trC hs6
    generalize hst : ms ++ [((cs.length : Nat) : Int)] = st at *
    have hstl : st.length = ms.length + 1 := by rw [← hst]; simp
    obtain ⟨s0, r0, rfl⟩ : ∃ s0 r0, st = s0 :: r0 := by
      cases st with
      | nil => simp at hstl
      | cons a b => exact ⟨a, b, rfl⟩
    have hok := okM_eq (L := Ln F (clo cs)) hst
    walk_at "go"
    refine u_ixL (a := s0) (i := 0) hm6 (atI_nat (j := 0) rfl) fun v1 hv1 => ?_
    obtain rfl : v1 = V.int s0 := hv1
    walk_at "go"
    refine ite3n (fun h1 => ?_) (fun h1 => ?_)
    · walk_at "go"
      have := k H6 s06
      rw [hok, decide_eq_false h1, Bool.false_and] at this
      exact this
    rw [decide_eq_true h1, Bool.true_and] at hok
    walk_at "go"
    refine u_len hm6 ?_
    walk_at "go"
    refine u_rng2 (by omega) (by omega) (by omega) (by omega) ?_
    have hcl : (clo cs).length = cs.length + 1 := by unfold clo; simp
    have honc : ∀ c ∈ clo cs, OnB W Hh c := fun c hc => by
      unfold clo at hc
      rcases List.mem_append.mp hc with h | h
      · exact hon c h
      · rw [List.mem_singleton.mp h, getD_of e0]; exact hon _ (List.getElem_mem _)
    refine u_range (fun i σ H7 => ∃ a b c, σ = [some (.ref x), some (.ref p), some (.ref m), some (.ref q), some (.ref q2), a, b, c] ∧ Same H6 H7 ∧ ∃ y, (s0 :: r0)[i]? = some y ∧ 0 ≤ y ∧ okM (Ln F (clo cs)) cs.length ms = okS (Ln F (clo cs)) cs.length y (((s0 :: r0)).drop (i + 1))) ⟨_, _, _, rfl, Same.refl _, s0, rfl, by omega, hok⟩ (fun i σ H7 hi h => ?_) (fun σ H7 h => ?_)
    · obtain ⟨a', b', c', rfl, s7, y, hy, hy0, ho⟩ := h
      have hi1 : i + 1 < (s0 :: r0).length := by omega
      have ez : (s0 :: r0)[i + 1]? = some (s0 :: r0)[i + 1] := List.getElem?_eq_getElem _
      generalize (s0 :: r0)[i + 1] = z at ez
      have edr : (s0 :: r0).drop (i + 1) = z :: (s0 :: r0).drop (i + 1 + 1) := by
        rw [List.drop_eq_getElem_cons hi1]
        congr 1
        have := List.getElem?_eq_getElem hi1
        rw [ez] at this
        exact (Option.some.inj this).symm
      rw [edr, okS] at ho
      walk_at "go"
      refine u_ixL (a := y) (hm6.up trI s7) (by
        rw [show (1 : Int) + (i : Int) - 1 = (i : Int) by omega]
        exact atI_nat hy) fun v2 hv2 => ?_
      obtain rfl : v2 = V.int y := hv2
      walk_at "go"
      refine u_ixL (a := z) (hm6.up trI s7) (by
        rw [show (1 : Int) + (i : Int) = ((i + 1 : Nat) : Int) by omega]
        exact atI_nat ez) fun v3 hv3 => ?_
      obtain rfl : v3 = V.int z := hv3
      walk_at "go"
      have hp7 := SqR.up trC (SqR.up trC hp s06) s7
      refine ite3 (fun h2 => ?_) (fun h2 => ?_)
      · walk_at "go"
        refine u_lenS hp7 ?_
        walk_at "go"
        rw [decide_eq_true h2, Bool.true_and] at ho
        by_cases h3 : z ≤ ((cs.length : Nat) : Int)
        · rw [decide_eq_true h3, Bool.true_and] at ho
          rw [decide_eq_true h3]
          obtain ⟨yn, rfl⟩ : ∃ yn : Nat, y = yn := ⟨y.toNat, by omega⟩
          obtain ⟨zn, rfl⟩ : ∃ zn : Nat, z = zn := ⟨z.toNat, by omega⟩
          simp only [Int.toNat_natCast] at ho
          walk_at "go"
          refine ⟨x, q, yn, zn, W, Hh, F, clo cs, rfl, (pl.up s06).up s7, vd, hW, hH, hc6.up trC s7, honc, by omega, by omega, fun H8 s8 => ?_⟩
          refine ⟨_, rfl, ?_⟩
          cases h4 : Ln F (clo cs) yn zn with
          | false =>
            rw [h4, Bool.false_and, Bool.false_and] at ho
            walk_at "go"
            have := k H8 (Same.trans s06 (Same.trans s7 s8))
            rw [ho] at this
            exact this
          | true =>
            rw [h4, Bool.true_and] at ho
            walk_at "go"
            have hp8 := SqR.up trC hp7 s8
            refine u_lenS hp8 ?_
            walk_at "go"
            refine ite3 (fun h5 => ?_) (fun h5 => ?_)
            · rw [decide_eq_true h5, Bool.true_and] at ho
              walk_at "go"
              refine ⟨x, q, yn, zn + 1, W, Hh, F, clo cs, rfl, ((pl.up s06).up s7).up s8, vd, hW, hH, (hc6.up trC s7).up trC s8, honc, by omega, by omega, fun H9 s9 => ?_⟩
              refine ⟨_, rfl, ?_⟩
              cases h6 : Ln F (clo cs) yn (zn + 1) with
              | true =>
                rw [h6, Bool.not_true, Bool.false_and] at ho
                walk_at "go"
                have := k H9 (Same.trans s06 (Same.trans s7 (Same.trans s8 s9)))
                rw [ho] at this
                exact this
              | false =>
                rw [h6, Bool.not_false, Bool.true_and] at ho
                walk_at "go"
                exact ⟨_, _, _, rfl, Same.trans s7 (Same.trans s8 s9), _, ez, by omega, ho⟩
            · rw [decide_eq_false h5, Bool.false_and, Bool.not_false, Bool.true_and] at ho
              walk_at "go"
              exact ⟨_, _, _, rfl, Same.trans s7 s8, _, ez, by omega, ho⟩
        · rw [decide_eq_false h3, Bool.false_and, Bool.false_and, Bool.false_and] at ho
          rw [decide_eq_false h3]
          walk_at "go"
          have := k H7 (Same.trans s06 s7)
          rw [ho] at this
          exact this
      · rw [decide_eq_false h2, Bool.false_and, Bool.false_and, Bool.false_and, Bool.false_and] at ho
        walk_at "go"
        have := k H7 (Same.trans s06 s7)
        rw [ho] at this
        exact this
    · obtain ⟨a', b', c', rfl, s7, y, hy, hy0, ho⟩ := h
      rw [List.drop_of_length_le (by omega)] at ho
      walk_at "go"
      have := k H7 (Same.trans s06 s7)
      rw [ho] at this
      exact this
def spChain (P : Program) (w : World) (C : Addr) : Sp := fun vs H Q _ => ∃ x p, ∃ W Hh : Nat, ∃ F : Fn, ∃ cs, vs = [.ref x, .ref p] ∧ PlI P w C H x W Hh F ∧ Vd W Hh F ∧ W ≤ 8 ∧ Hh ≤ 8 ∧ (LsR Cn H p cs ∨ TsR Cn H p cs) ∧ (∀ c ∈ cs, OnB W Hh c) ∧ 0 < cs.length ∧ cs.length ≤ 1000 ∧ ∀ r H' ms, H r = none → Same H H' → Gr (Ln F (clo cs)) cs.length 0 ms → LsR Cn H' r (ms.map fun m => cs.getD m (0, 0)) → Q (.ref r) H'
theorem sc_least_chain : FnScope ["plane", "loop", "at"] ["plane", "loop"] (defScope s_least_chain) := ⟨rfl, rfl, rfl, by decide +kernel, rfl, by decide +kernel, by decide +kernel⟩
theorem c_least_chain (g : Gs mg) (c_least_marks : Cal P w K mg base 7 "least_marks" ["plane", "loop"] (spMarks P w C)) {f : Addr} (hm : mg "least_chain" = some (.ref f)) (F : Fd K "least_chain" "least_chain" s_least_chain f) : Cal P w K mg base 8 "least_chain" ["plane", "loop"] (spChain P w C) := by
  refine Cal.mk' hm (fn_mk (k := 7) F sc_least_chain (fun _ _ _ _ _ _ us hl => match us, hl with | [_, _], _ => rfl) (fun vs H Q E h => ?_) (fun cdv A outer s H vs Q E hr h => ?_))
  · obtain ⟨_, _, _, _, _, _, rfl, _⟩ := h; rfl
  · obtain ⟨x, p, W, Hh, F, cs, rfl, pl, vd, hW, hH, hp, hon, h0, hz, k⟩ := h
    refine ⟨_, (pss_one (ps_ret (pe_lc (own := [("at", 2)]) (g := gName 2) rfl sc_least_chain.nd (pi_list (pc c_least_marks hr (pa_cons (pv 0) (pa_cons (pv 1) pa_nil)))) (blkOk_by (own := [("at", 2)]) (N := ["plane", "loop", "at"]) (sc := defScope s_least_chain) (by decide +kernel)) (fun _ _ _ _ _ => pg_name (i := 2) sc_least_chain.nd rfl (Or.inl rfl)) (fun _ _ _ _ _ => pts_nil) (fun _ _ _ _ _ => pe_ix (r := rIx K) ix_seq (pv 1) (pv 2) (fun _ _ => rfl))))), ?_⟩
    walk_at "go"
    refine ⟨x, p, W, Hh, F, cs, rfl, pl, vd, hW, hH, hp, hon, h0, hz, fun r H1 ms hr hs1 hm1 hg => ?_⟩
    obtain ⟨xs, hx, _⟩ := id hm1
    refine u_list hx ?_
    intro D hD
    have hrD : r ≠ D := fun z => by rw [z, hD] at hx; cases hx
    have hgl := hg.len.2
    refine w_items (Rr := In) (as := ms.map fun (m : Nat) => (m : Int)) (fun i H2 => Bld Cn H1 H2 D ((ms.take i).map fun m => cs.getD m (0, 0)) ∧ LsR In H2 r (ms.map fun (m : Nat) => (m : Int))) ⟨⟨Same.new hD, hD, [], upd_same, .nil⟩, hm1.up trI (Same.new hD)⟩ (fun i H2 _ h => h.2) (fun i c y H2 hi hy h => ?_) (fun H2 h => ?_)
    · obtain ⟨B, hl2⟩ := h
      obtain rfl : y = V.int c := hy
      rw [List.getElem?_map] at hi
      cases em : ms[i]? with
      | none => rw [em] at hi; cases hi
      | some mm =>
        rw [em] at hi
        obtain rfl : ((mm : Nat) : Int) = c := Option.some.inj hi
        have hmn := hg.lt mm (List.mem_of_getElem? em)
        walk_at "go"
        refine ⟨rfl, ?_⟩
        walk_at "go"
        have ec : cs[mm]? = some cs[mm] := List.getElem?_eq_getElem _
        refine u_ixS (a := cs[mm]) (SqR.up trC (SqR.up trC hp hs1) B.same) (atI_nat ec) fun vc hvc => ?_
        refine B.lc trC (Same.refl _) (a := cs.getD mm (0, 0)) (by rw [getD_of ec]; exact hvc) (by rw [List.length_map, List.length_take]; omega) fun H5 bu5 B5 => ⟨?_, ?_⟩
        · rw [List.take_add_one, em, List.map_append]
          exact B5
        · obtain ⟨ys, hy, _⟩ := id B.ls
          exact hl2.up2 trI (bu5.tup hy fun _ z => by cases z) fun xs e => bu5 _ _ hrD e
    · obtain ⟨B, hl2⟩ := h
      rw [List.length_map, List.take_length] at B
      exact k D H2 ms (nof hD hs1) (Same.trans hs1 B.same) hg B.ls
end
end Cp
end
section
namespace Cp
open PySem PySem.Spec PyProof.Rows L2
local macro_rules | `(tactic| walk_at "f") => `(tactic| first | assumption | (refine' keep_of ?_ (by assumption); walk_at "f") | (refine Cn.up ?_ (by assumption); walk_at "f") | (refine Pr.up ?_ (by assumption); walk_at "f") | (refine NTab.up ?_ (by assumption); walk_at "f") | (refine PlI.up ?_ (by assumption); walk_at "f") | (refine LsR.up (by first | exact trC | exact trP | exact trI | assumption) ?_ (by assumption); walk_at "f"))
local macro_rules | `(tactic| walk_at "sm") => `(tactic| first | exact Same.refl _ | assumption | (refine same_tr ?_ (by assumption); walk_at "sm"))
local macro_rules | `(tactic| walk_at "fr") => `(tactic| first | assumption | (refine nof ?_ (by assumption); walk_at "fr"))
local macro_rules | `(tactic| walk_at "s1") => `(tactic| first
  | with_reducible refine s_seq ?_ | with_reducible refine s_ret ?_ | with_reducible refine s_asg ?_ | with_reducible refine s_if ?_ | with_reducible refine s_next ?_ | with_reducible refine s_drop ?_
  | ((with_reducible refine' s_var ?h ?q); (case h => exact rfl)) | with_reducible refine s_c ?_ | with_reducible refine s_op ?_ | with_reducible refine s_I0 ?_
  | with_reducible refine s_eqI ?_ | with_reducible refine s_neI ?_ | with_reducible refine s_eqS ?_ | with_reducible refine s_neS ?_
  | with_reducible refine s_test ?_ | with_reducible refine s_tB ?_ | with_reducible refine s_bl ?_ | with_reducible refine s_and ?_ | with_reducible refine s_or ?_ | with_reducible refine s_not ?_ | with_reducible refine s_andV ?_ | with_reducible refine s_chain ?_
  | with_reducible refine s_cons ?_ | with_reducible refine s_nil ?_ | with_reducible refine s_tup ?_ | with_reducible refine s_lst ?_
  | with_reducible refine s_CB ?_ | with_reducible refine s_call ?_ | with_reducible refine s_gname ?_ | with_reducible refine s_gcons ?_ | with_reducible refine s_gnil ?_
  | ((with_reducible refine' s_gtup ?h ?e ?q); (case h => walk_at "f"); (case e => exact rfl))
  | ((with_reducible refine' s_ixT ?h ?e ?q); (case h => walk_at "f"); (case e => exact rfl))
  | (with_reducible refine s_BM ?_) | ((with_reducible refine s_new ?z ?q); (case z => exact rfl); intro p H1 hp hs hv))
local macro_rules | `(tactic| walk_at "s2") => `(tactic| first
  | walk_at "s1" | with_reducible refine iteF ?_ | with_reducible refine iteT ?_ | with_reducible refine iteNT ?_ | with_reducible refine iteNF ?_ | with_reducible refine u_tup ?_ | with_reducible refine u_lst ?_ | ((with_reducible refine u_newT ?z ?q); (case z => exact rfl); intro p H1 hp hs hv) | ((with_reducible refine u_newL ?z ?q); (case z => exact rfl); intro p H1 hp hs hv) | with_reducible refine s_min2 ?_ | ((with_reducible refine' s_aug ?h ?q); (case h => exact rfl)) | with_reducible refine s_ipI ?_ | with_reducible refine s_sl2 ?_ | with_reducible refine s_part ?_ | with_reducible refine u_part ?_ | with_reducible refine s_nopart ?_ | with_reducible refine s_rev ?_ | with_reducible refine s_un ?_ | with_reducible refine s_U ?_ | with_reducible refine s_gsub ?_ | ((with_reducible refine s_lenS ?z ?q); (case z => assumption)) | with_reducible refine s_rng1 ?_ | with_reducible refine s_rng2 ?_ | with_reducible refine s_list ?_ | with_reducible refine s_istr ?_ | with_reducible refine u_str ?_ | with_reducible refine s_for ?_ | with_reducible refine s_lc ?_ | with_reducible refine s_lc2 ?_ | with_reducible refine s_yes ?_ | with_reducible refine s_bm ?_ | with_reducible refine s_mth ?_ | with_reducible refine s_abs ?_ | with_reducible refine s_int1 ?_ | with_reducible refine s_nget ?_ | with_reducible refine s_fld ?_
  | ((with_reducible refine' s_lenL ?h ?q); (case h => walk_at "f"))
  | ((with_reducible refine' s_lenT ?h ?q); (case h => walk_at "f")))
local macro_rules | `(tactic| walk_at "go") => `(tactic| repeat walk_at "s2")
section
variable {P : Program} {w : World} {K : PySem.W.Frag} {mg : Str → Option Value} {base : Heap} {C : Addr}
def spCell (K : PySem.W.Frag) : Sp := fun vs H Q _ => ∃ a, ∃ k : Nat, ∃ ns : List Int, vs = [.ref a, .int k] ∧ SqL K H a (ns.map V.int) ∧ ∀ m : Int, Q (.int m) H
theorem sc_l_cell : FnScope ["_law_script", "_law_k"] ["_law_script", "_law_k"] (defScope s_l_cell) := ⟨rfl, rfl, rfl, by decide +kernel, rfl, by decide +kernel, by decide +kernel⟩
theorem c_l_cell (g : Gs mg)  {f : Addr} (hm : mg "_law_cell" = some (.ref f)) (F : Fd K "_law_cell" "_law_cell" s_l_cell f) : Cal P w K mg base 1 "_law_cell" ["_law_script", "_law_k"] (spCell K) := by
  refine Cal.mk' hm (fn_mk (k := 0) F sc_l_cell (fun _ _ _ _ _ _ us hl => match us, hl with | [_, _], _ => rfl) (fun vs H Q E h => ?_) (fun cdv A outer s H vs Q E hr h => ?_))
  · obtain ⟨_, _, _, rfl, _⟩ := h; rfl
  · obtain ⟨a, k, ns, rfl, ha, kk⟩ := h
    refine ⟨_, (pss_cons (ps_if (pt_cmpR op_lt (pv 1) (pe_callB cr_len (by rfl) g.len (by rfl) (pa_cons (pv 0) pa_nil)) (nomark _)) (pss_one (ps_ret (pe_callTy cr_int1 (by rfl) g.int (by rfl) (pa_cons (pe_ix ix_list (pv 0) (pv 1) (fun _ _ => rfl)) pa_nil)))) pss_nil)
      (pss_one (ps_ret (pe_int)))), ?_⟩
    walk_at "go"
    refine ⟨a, _, rfl, .inl ha, ?_⟩
    walk_at "go"
    refine ite3 (fun h1 => ?_) (fun h1 => ?_)
    · walk_at "go"
      have hl : k < (ns.map V.int).length := by omega
      refine ⟨a, _, _, _, rfl, rfl, ha, atI_nat (List.getElem?_eq_getElem hl), ?_⟩
      rw [List.getElem_map]
      walk_at "go"
      exact kk _
    · walk_at "go"
      exact kk _
theorem fmod_lo {a b : Int} (h : 0 < b) : 0 ≤ a.fmod b := Int.fmod_nonneg_of_pos a h
theorem fmod_hi {a b : Int} (h : 0 < b) : a.fmod b < b := Int.fmod_lt_of_pos a h
def DrP (ss ds : List Int) : Prop := ∀ (i : Nat) (d s : Int), ds[i]? = some d → ss[i]? = some s → 0 ≤ d ∧ d < s
def DrOk (ss ds : List Int) : Prop := ds.length = ss.length ∧ DrP ss ds
theorem DrP.nil (ss : List Int) : DrP ss [] := fun i d s h => by simp at h
theorem DrP.snoc {ss ds : List Int} {d s : Int} (h : DrP ss ds) (hs : ss[ds.length]? = some s) (hd : 0 ≤ d ∧ d < s) : DrP ss (ds ++ [d]) := by
  intro j d' s' h1 h2
  by_cases hj : j < ds.length
  · rw [List.getElem?_append_left hj] at h1
    exact h j d' s' h1 h2
  · rw [List.getElem?_append_right (by omega)] at h1
    have : j - ds.length = 0 := by
      have := (List.getElem?_eq_some_iff.mp h1).1
      simp at this
      omega
    rw [this] at h1
    have e1 : d = d' := by simpa using h1
    have e2 : j = ds.length := by omega
    rw [e2, hs] at h2
    cases h2
    rw [← e1]
    exact hd
def spDraws : Sp := fun vs H Q _ => ∃ c p, ∃ ss : List Int, vs = [.int c, .ref p] ∧ LsR In H p ss ∧ (∀ s ∈ ss, 0 < s) ∧ (∀ s ∈ ss, s < 1000000) ∧ ss.length ≤ 1000 ∧ ∀ r H' ds, H r = none → Same H H' → LsR In H' r ds → DrOk ss ds → Q (.ref r) H'
theorem sc_l_draws : FnScope ["_law_cell_here", "_law_sizes", "_law_drawn", "_law_rest", "_law_digits", "_law_k", "_law_size", "_law_mixed"] ["_law_cell_here", "_law_sizes"] (defScope s_l_draws) := ⟨rfl, rfl, rfl, by decide +kernel, rfl, by decide +kernel, by decide +kernel⟩
theorem c_l_draws (g : Gs mg)  {f : Addr} (hm : mg "_law_draws" = some (.ref f)) (F : Fd K "_law_draws" "_law_draws" s_l_draws f) : Cal P w K mg base 1 "_law_draws" ["_law_cell_here", "_law_sizes"] spDraws := by
  refine Cal.mk' hm (fn_mk (k := 0) F sc_l_draws (fun _ _ _ _ _ _ us hl => match us, hl with | [_, _], _ => rfl) (fun vs H Q E h => ?_) (fun cdv A outer s H vs Q E hr h => ?_))
  · obtain ⟨_, _, _, rfl, _⟩ := h; rfl
  · obtain ⟨c, p, ss, rfl, hp, hpos, hbig, hz, k⟩ := h
    refine ⟨_, (pss_cons (ps_asg (pe_ulst pa_nil) (pg_name (i := 2) sc_l_draws.nd rfl (.inl rfl)))
      (pss_cons (ps_asg (pe_callTy cr_int1 (by rfl) g.int (by rfl) (pa_cons (pv 0) pa_nil)) (pg_name (i := 3) sc_l_draws.nd rfl (.inl rfl)))
      (pss_cons (ps_asg (pe_cmpR op_ge (pv 3) (pe_op op_pow (pe_int) (pe_int)) (nomark _)) (pg_name (i := 4) sc_l_draws.nd rfl (.inl rfl)))
      (pss_cons (ps_for PassesOwn.never rfl (pi_range1 (by rfl) g.range (pa_cons (pe_callB cr_len (by rfl) g.len (by rfl) (pa_cons (pv 1) pa_nil)) pa_nil)) (pg_name (i := 5) sc_l_draws.nd rfl (.inl rfl)) (pss_cons (ps_asg (pe_ix ix_list (pv 1) (pv 5) (fun _ _ => rfl)) (pg_name (i := 6) sc_l_draws.nd rfl (.inl rfl)))
      (pss_one (ps_if (PW.pt (pw_and (pt_val (pv 4)) (pw_and1 (pt_cmpR op_gt (pv 3) (pe_int) (nomark _))))) (pss_cons (ps_expr (pe_bm PySem.F.plainAttrs_list PySem.F.slot_list_append PySem.F.type_list_append mt_append (pv 2) (pa_cons (pe_op op_modN (pe_callTy cr_int1 (by rfl) g.int (by rfl) (pa_cons (pv 3) pa_nil)) (pv 6)) pa_nil)))
      (pss_one (ps_asg (pe_op op_fdivN (pv 3) (pv 6)) (pg_name (i := 3) sc_l_draws.nd rfl (.inl rfl))))) (pss_cons (ps_asg (pe_op op_modN (pe_callTy cr_int1 (by rfl) g.int (by rfl) (pa_cons (pe_op op_add (pe_op op_add (pv 0) (pe_op op_mul (pe_int) (pv 5))) (pe_int)) pa_nil)) (pe_int)) (pg_name (i := 7) sc_l_draws.nd rfl (.inl rfl)))
      (pss_cons (ps_asg (pe_op op_modN (pe_callTy cr_int1 (by rfl) g.int (by rfl) (pa_cons (pe_op op_mul (pv 7) (pe_op op_add (pv 7) (pe_int))) pa_nil)) (pe_int)) (pg_name (i := 7) sc_l_draws.nd rfl (.inl rfl)))
      (pss_cons (ps_asg (pe_op op_modN (pe_callTy cr_int1 (by rfl) g.int (by rfl) (pa_cons (pe_op op_add (pe_op op_mul (pv 7) (pe_op op_add (pv 7) (pe_int))) (pe_op op_mul (pe_int) (pv 5))) pa_nil)) (pe_int)) (pg_name (i := 7) sc_l_draws.nd rfl (.inl rfl)))
      (pss_one (ps_expr (pe_bm PySem.F.plainAttrs_list PySem.F.slot_list_append PySem.F.type_list_append mt_append (pv 2) (pa_cons (pe_op op_modN (pe_callTy cr_int1 (by rfl) g.int (by rfl) (pa_cons (pe_op op_fdivN (pv 7) (pe_int)) pa_nil)) (pv 6)) pa_nil)))))))))))
      (pss_one (ps_ret (pv 2))))))), ?_⟩
    walk_at "go"
    rename_i D H1 hD hs1 hm1
    refine s_I (by refine ⟨by decide, by decide, by decide⟩) ?_
    walk_at "go"
    refine u_len (hp.up trI hs1) ?_
    walk_at "go"
    refine u_rng1 (by omega) (by omega) ?_
    refine u_range (fun i σ H2 => ∃ rest dg a b e, σ = [some (.int c), some (.ref p), some (.ref D), some (.int rest), some (.bl dg), a, b, e] ∧ ∃ ds, Bld In H H2 D ds ∧ ds.length = i ∧ DrP ss ds) ⟨_, _, _, _, _, rfl, [], Bld.new (Same.refl _) hD hs1 hm1, rfl, DrP.nil _⟩ (fun i σ H2 hi h => ?_) (fun σ H2 h => ?_)
    · obtain ⟨rest, dg, a, b, e, rfl, ds, B, hdl, hds⟩ := h
      have hi' : i < ss.length := by omega
      have es : ss[i]? = some ss[i] := List.getElem?_eq_getElem _
      have hsp : 0 < ss[i] := hpos _ (List.getElem_mem _)
      walk_at "go"
      refine u_ixL (a := ss[i]) (hp.up trI B.same) (by rw [Int.zero_add]; exact atI_nat es) fun v1 hv1 => ?_
      obtain rfl : v1 = V.int ss[i] := hv1
      obtain ⟨ys, hy, _⟩ := id B.ls
      walk_at "go"
      refine iteB (fun h1 => ?_) (fun h1 => ?_)
      · walk_at "go"
        refine ite3 (fun h2 => ?_) (fun h2 => ?_)
        · walk_at "go"
          refine u_bmL hy ?_
          walk_at "go"
          refine s_I (by show ss[i] ≠ 0; omega) ?_
          walk_at "go"
          refine u_append trI B (a := rest.fmod ss[i]) rfl (by omega) fun H3 bu3 B3 _ => ?_
          walk_at "go"
          refine s_I ⟨by omega, by have := hbig _ (List.getElem_mem (h := hi')); omega⟩ ?_
          walk_at "go"
          exact ⟨_, _, _, _, _, rfl, _, B3, by rw [List.length_append, List.length_singleton, hdl], hds.snoc (by rw [hdl]; exact es) ⟨fmod_lo hsp, fmod_hi hsp⟩⟩
        · walk_at "go"
          refine s_I (by exact .inl ⟨by decide, by decide⟩) ?_
          walk_at "go"
          refine s_I (by decide) ?_
          walk_at "go"
          refine s_I (by
            have l1 := fmod_lo (a := c + 7919 * (0 + (i : Int)) + 13) (b := 2147483647) (by decide)
            have l2 := fmod_hi (a := c + 7919 * (0 + (i : Int)) + 13) (b := 2147483647) (by decide)
            exact .inl ⟨by omega, by omega⟩) ?_
          walk_at "go"
          refine s_I (by decide) ?_
          walk_at "go"
          generalize (((c + 7919 * (0 + (i : Int)) + 13).fmod 2147483647 * ((c + 7919 * (0 + (i : Int)) + 13).fmod 2147483647 + 48271))) = w1
          refine s_I (by
            have l1 := fmod_lo (a := w1) (b := 2147483629) (by decide)
            have l2 := fmod_hi (a := w1) (b := 2147483629) (by decide)
            exact .inl ⟨by omega, by omega⟩) ?_
          walk_at "go"
          refine s_I (by exact .inl ⟨by decide, by decide⟩) ?_
          walk_at "go"
          refine s_I (by decide) ?_
          walk_at "go"
          refine u_bmL hy ?_
          walk_at "go"
          refine s_I (by exact ⟨by decide, by decide⟩) ?_
          walk_at "go"
          refine s_I (by show ss[i] ≠ 0; omega) ?_
          walk_at "go"
          refine u_append trI B rfl (by omega) fun H3 bu3 B3 _ => ?_
          walk_at "go"
          exact ⟨_, _, _, _, _, rfl, _, B3, by rw [List.length_append, List.length_singleton, hdl], hds.snoc (by rw [hdl]; exact es) ⟨fmod_lo hsp, fmod_hi hsp⟩⟩
      · walk_at "go"
        refine s_I (by exact .inl ⟨by decide, by decide⟩) ?_
        walk_at "go"
        refine s_I (by decide) ?_
        walk_at "go"
        refine s_I (by
          have l1 := fmod_lo (a := c + 7919 * (0 + (i : Int)) + 13) (b := 2147483647) (by decide)
          have l2 := fmod_hi (a := c + 7919 * (0 + (i : Int)) + 13) (b := 2147483647) (by decide)
          exact .inl ⟨by omega, by omega⟩) ?_
        walk_at "go"
        refine s_I (by decide) ?_
        walk_at "go"
        generalize (((c + 7919 * (0 + (i : Int)) + 13).fmod 2147483647 * ((c + 7919 * (0 + (i : Int)) + 13).fmod 2147483647 + 48271))) = w1
        refine s_I (by
          have l1 := fmod_lo (a := w1) (b := 2147483629) (by decide)
          have l2 := fmod_hi (a := w1) (b := 2147483629) (by decide)
          exact .inl ⟨by omega, by omega⟩) ?_
        walk_at "go"
        refine s_I (by exact .inl ⟨by decide, by decide⟩) ?_
        walk_at "go"
        refine s_I (by decide) ?_
        walk_at "go"
        refine u_bmL hy ?_
        walk_at "go"
        refine s_I (by exact ⟨by decide, by decide⟩) ?_
        walk_at "go"
        refine s_I (by show ss[i] ≠ 0; omega) ?_
        walk_at "go"
        refine u_append trI B rfl (by omega) fun H3 bu3 B3 _ => ?_
        walk_at "go"
        exact ⟨_, _, _, _, _, rfl, _, B3, by rw [List.length_append, List.length_singleton, hdl], hds.snoc (by rw [hdl]; exact es) ⟨fmod_lo hsp, fmod_hi hsp⟩⟩
    · obtain ⟨rest, dg, a, b, e, rfl, ds, B, hdl, hds⟩ := h
      walk_at "go"
      exact k D H2 ds B.fresh B.same B.ls ⟨by omega, hds⟩
end
end Cp
end
section
namespace Cp
open PySem PySem.Spec PyProof.Rows L2
local macro_rules | `(tactic| walk_at "f") => `(tactic| first | assumption | (refine' keep_of ?_ (by assumption); walk_at "f") | (refine Cn.up ?_ (by assumption); walk_at "f") | (refine Pr.up ?_ (by assumption); walk_at "f") | (refine NTab.up ?_ (by assumption); walk_at "f") | (refine PlI.up ?_ (by assumption); walk_at "f") | (refine LsR.up (by first | exact trC | exact trP | exact trI | assumption) ?_ (by assumption); walk_at "f"))
local macro_rules | `(tactic| walk_at "sm") => `(tactic| first | exact Same.refl _ | assumption | (refine same_tr ?_ (by assumption); walk_at "sm"))
local macro_rules | `(tactic| walk_at "fr") => `(tactic| first | assumption | (refine nof ?_ (by assumption); walk_at "fr"))
local macro_rules | `(tactic| walk_at "s1") => `(tactic| first
  | with_reducible refine s_seq ?_ | with_reducible refine s_ret ?_ | with_reducible refine s_asg ?_ | with_reducible refine s_if ?_ | with_reducible refine s_next ?_ | with_reducible refine s_drop ?_
  | ((with_reducible refine' s_var ?h ?q); (case h => exact rfl)) | with_reducible refine s_c ?_ | with_reducible refine s_op ?_ | with_reducible refine s_I0 ?_
  | with_reducible refine s_eqI ?_ | with_reducible refine s_neI ?_ | with_reducible refine s_eqS ?_ | with_reducible refine s_neS ?_
  | with_reducible refine s_test ?_ | with_reducible refine s_tB ?_ | with_reducible refine s_bl ?_ | with_reducible refine s_and ?_ | with_reducible refine s_or ?_ | with_reducible refine s_not ?_ | with_reducible refine s_andV ?_ | with_reducible refine s_chain ?_
  | with_reducible refine s_cons ?_ | with_reducible refine s_nil ?_ | with_reducible refine s_tup ?_ | with_reducible refine s_lst ?_
  | with_reducible refine s_CB ?_ | with_reducible refine s_call ?_ | with_reducible refine s_gname ?_ | with_reducible refine s_gcons ?_ | with_reducible refine s_gnil ?_
  | ((with_reducible refine' s_gtup ?h ?e ?q); (case h => walk_at "f"); (case e => exact rfl))
  | ((with_reducible refine' s_ixT ?h ?e ?q); (case h => walk_at "f"); (case e => exact rfl))
  | (with_reducible refine s_BM ?_) | ((with_reducible refine s_new ?z ?q); (case z => exact rfl); intro p H1 hp hs hv))
local macro_rules | `(tactic| walk_at "s2") => `(tactic| first
  | walk_at "s1" | with_reducible refine iteF ?_ | with_reducible refine iteT ?_ | with_reducible refine iteNT ?_ | with_reducible refine iteNF ?_ | with_reducible refine u_tup ?_ | with_reducible refine u_lst ?_ | ((with_reducible refine u_newT ?z ?q); (case z => exact rfl); intro p H1 hp hs hv) | ((with_reducible refine u_newL ?z ?q); (case z => exact rfl); intro p H1 hp hs hv) | with_reducible refine s_min2 ?_ | ((with_reducible refine' s_aug ?h ?q); (case h => exact rfl)) | with_reducible refine s_ipI ?_ | with_reducible refine s_sl2 ?_ | with_reducible refine s_part ?_ | with_reducible refine u_part ?_ | with_reducible refine s_nopart ?_ | with_reducible refine s_rev ?_ | with_reducible refine s_un ?_ | with_reducible refine s_U ?_ | with_reducible refine s_gsub ?_ | ((with_reducible refine s_lenS ?z ?q); (case z => assumption)) | with_reducible refine s_rng1 ?_ | with_reducible refine s_rng2 ?_ | with_reducible refine s_list ?_ | with_reducible refine s_istr ?_ | with_reducible refine u_str ?_ | with_reducible refine s_for ?_ | with_reducible refine s_lc ?_ | with_reducible refine s_lc2 ?_ | with_reducible refine s_yes ?_ | with_reducible refine s_bm ?_ | with_reducible refine s_mth ?_ | with_reducible refine s_abs ?_ | with_reducible refine s_int1 ?_ | with_reducible refine s_nget ?_ | with_reducible refine s_fld ?_
  | ((with_reducible refine' s_lenL ?h ?q); (case h => walk_at "f"))
  | ((with_reducible refine' s_lenT ?h ?q); (case h => walk_at "f")))
local macro_rules | `(tactic| walk_at "go") => `(tactic| repeat walk_at "s2")
section
variable {P : Program} {w : World} {K : PySem.W.Frag} {mg : Str → Option Value} {base : Heap} {C : Addr}
theorem paired_ints : ∀ ns : List Int, Paired (fun (v : V) (n : Int) => v = V.int n) (ns.map V.int) ns
  | [] => .nil
  | n :: ns => .cons rfl (paired_ints ns)
theorem LsR.ints {H : Hp} {p : Addr} {xs : List V} (ns : List Int) (h : H p = some (.lst xs)) (e : xs = ns.map V.int) : LsR In H p ns := ⟨xs, h, by rw [e]; exact paired_ints ns⟩
def spBoard : Sp := fun vs H Q _ => ∃ c : Int, vs = [.int c, .int 4] ∧ ∀ r H', ∀ W Hh : Nat, H r = none → Same H H' → H' r = some (.tup [.int W, .int Hh]) → W ≤ 4 → Hh ≤ 4 → Q (.ref r) H'
theorem sc_l_board : FnScope ["_law_cell_here", "_law_most", "_law_d"] ["_law_cell_here", "_law_most"] (defScope s_l_board) := ⟨rfl, rfl, rfl, by decide +kernel, rfl, by decide +kernel, by decide +kernel⟩
theorem c_l_board (g : Gs mg) (c_l_draws : Cal P w K mg base 1 "_law_draws" ["_law_cell_here", "_law_sizes"] spDraws) {f : Addr} (hm : mg "_law_board" = some (.ref f)) (F : Fd K "_law_board" "_law_board" s_l_board f) : Cal P w K mg base 2 "_law_board" ["_law_cell_here", "_law_most"] spBoard := by
  refine Cal.mk' hm (fn_mk (k := 1) F sc_l_board (fun _ _ _ _ _ _ us hl => match us, hl with | [_, _], _ => rfl) (fun vs H Q E h => ?_) (fun cdv A outer s H vs Q E hr h => ?_))
  · obtain ⟨_, rfl, _⟩ := h; rfl
  · obtain ⟨c, rfl, k⟩ := h
    refine ⟨_, (pss_cons (ps_asg (pc c_l_draws hr (pa_cons (pv 0) (pa_cons (pe_ulst (pa_cons (pe_int) (pa_cons (pv 1) (pa_cons (pv 1) (pa_cons (pe_op op_add (pv 1) (pe_int)) (pa_cons (pe_op op_add (pv 1) (pe_int)) pa_nil)))))) pa_nil))) (pg_name (i := 2) sc_l_board.nd rfl (.inl rfl)))
      (pss_cons (ps_if (pt_cmpR op_eq (pe_ix ix_list (pv 2) (pe_int) (fun _ _ => rfl)) (pe_int) (nomark _)) (pss_one (ps_ret (pe_utup (pa_cons (pe_ix ix_list (pv 2) (pe_int) (fun _ _ => rfl)) (pa_cons (pe_ix ix_list (pv 2) (pe_int) (fun _ _ => rfl)) pa_nil))))) pss_nil)
      (pss_one (ps_ret (pe_utup (pa_cons (pe_op op_add (pe_ix ix_list (pv 2) (pe_int) (fun _ _ => rfl)) (pe_int)) (pa_cons (pe_op op_add (pe_ix ix_list (pv 2) (pe_int) (fun _ _ => rfl)) (pe_int)) pa_nil))))))), ?_⟩
    walk_at "go"
    rename_i p H1 hp hs1 hm1
    refine ⟨c, p, [8, 4, 4, 5, 5], rfl, LsR.ints _ hm1 rfl, by decide, by decide, by decide, fun r H2 ds hr hs2 hl ⟨h1, h2⟩ => ?_⟩
    match ds, h1 with
    | [d0, d1, d2, d3, d4], _ =>
      obtain ⟨a1, b1⟩ := h2 1 _ _ rfl rfl
      obtain ⟨a2, b2⟩ := h2 2 _ _ rfl rfl
      obtain ⟨a3, b3⟩ := h2 3 _ _ rfl rfl
      obtain ⟨a4, b4⟩ := h2 4 _ _ rfl rfl
      walk_at "go"
      refine u_ixL (a := d0) (i := 0) hl (atI_nat (j := 0) rfl) fun v0 hv0 => ?_
      obtain rfl : v0 = V.int d0 := hv0
      walk_at "go"
      refine ite3 (fun h3 => ?_) (fun h3 => ?_)
      · walk_at "go"
        refine u_ixL (a := d3) (i := 3) hl (atI_nat (j := 3) rfl) fun v0 hv0 => ?_
        obtain rfl : v0 = V.int d3 := hv0
        walk_at "go"
        refine u_ixL (a := d4) (i := 4) hl (atI_nat (j := 4) rfl) fun v0 hv0 => ?_
        obtain rfl : v0 = V.int d4 := hv0
        walk_at "go"
        refine k _ _ d3.toNat d4.toNat (by walk_at "fr") (by walk_at "sm") ?_ (by omega) (by omega)
        rw [Int.toNat_of_nonneg a3, Int.toNat_of_nonneg a4]
        assumption
      · walk_at "go"
        refine u_ixL (a := d1) (i := 1) hl (atI_nat (j := 1) rfl) fun v0 hv0 => ?_
        obtain rfl : v0 = V.int d1 := hv0
        walk_at "go"
        refine u_ixL (a := d2) (i := 2) hl (atI_nat (j := 2) rfl) fun v0 hv0 => ?_
        obtain rfl : v0 = V.int d2 := hv0
        walk_at "go"
        refine k _ _ (d1 + 1).toNat (d2 + 1).toNat (by walk_at "fr") (by walk_at "sm") ?_ (by omega) (by omega)
        rw [Int.toNat_of_nonneg (by omega), Int.toNat_of_nonneg (by omega)]
        assumption
def celL (Hh : Nat) (i : Nat) : List Pt := (List.range i).flatMap fun (x : Nat) => (List.range Hh).map fun (y : Nat) => ((x : Int), (y : Int))
theorem celL_len (Hh i : Nat) : (celL Hh i).length = i * Hh := by
  unfold celL
  induction i with
  | zero => simp
  | succ i ih => rw [List.range_succ (n := i), List.flatMap_append, List.length_append, ih]; simp [Nat.succ_mul]
theorem celL_succ (Hh i : Nat) : celL Hh (i + 1) = celL Hh i ++ (List.range Hh).map fun (y : Nat) => ((i : Int), (y : Int)) := by
  unfold celL
  rw [List.range_succ (n := i), List.flatMap_append]
  simp
theorem celL_nodup (Hh i : Nat) : (celL Hh i).Nodup := by
  unfold celL
  refine nodup_flat List.nodup_range (fun a _ => nodup_map List.nodup_range fun b c e => ?_) fun a b x hx hy => ?_
  · have := congrArg Prod.snd e
    have h2 : ((b : Nat) : Int) = (c : Nat) := this
    omega
  · obtain ⟨c, _, rfl⟩ := List.mem_map.mp hx
    obtain ⟨d, _, e⟩ := List.mem_map.mp hy
    have := congrArg Prod.fst e
    have h2 : ((b : Nat) : Int) = (a : Nat) := this
    omega
theorem celL_mem {Hh i : Nat} {c : Pt} : c ∈ celL Hh i ↔ 0 ≤ c.1 ∧ c.1 < i ∧ 0 ≤ c.2 ∧ c.2 < Hh := by
  unfold celL
  obtain ⟨a, b⟩ := c
  simp only [List.mem_flatMap, List.mem_map, List.mem_range, Prod.mk.injEq]
  constructor
  · rintro ⟨x, hx, y, hy, rfl, rfl⟩
    omega
  · rintro ⟨h1, h2, h3, h4⟩
    exact ⟨a.toNat, by omega, b.toNat, by omega, by omega, by omega⟩
def spAllC : Sp := fun vs H Q _ => ∃ vb, ∃ W Hh : Nat, vs = [vb] ∧ Cn H vb ((W : Int), (Hh : Int)) ∧ W ≤ 8 ∧ Hh ≤ 8 ∧ ∀ p H', H p = none → Same H H' → LsR Cn H' p (celL Hh W) → Q (.ref p) H'
theorem sc_l_all_cells : FnScope ["_law_board_here", "_law_found", "_law_x", "_law_y"] ["_law_board_here"] (defScope s_l_all_cells) := ⟨rfl, rfl, rfl, by decide +kernel, rfl, by decide +kernel, by decide +kernel⟩
theorem c_l_all_cells (g : Gs mg)  {f : Addr} (hm : mg "_law_all_cells" = some (.ref f)) (F : Fd K "_law_all_cells" "_law_all_cells" s_l_all_cells f) : Cal P w K mg base 1 "_law_all_cells" ["_law_board_here"] spAllC := by
  refine Cal.mk' hm (fn_mk (k := 0) F sc_l_all_cells (fun _ _ _ _ _ _ us hl => match us, hl with | [_], _ => rfl) (fun vs H Q E h => ?_) (fun cdv A outer s H vs Q E hr h => ?_))
  · obtain ⟨_, _, _, rfl, _⟩ := h; rfl
  · obtain ⟨vb, W, Hh, rfl, ⟨tb, rfl, hb⟩, hW, hH, k⟩ := h
    refine ⟨_, (pss_cons (ps_asg (pe_ulst pa_nil) (pg_name (i := 1) sc_l_all_cells.nd rfl (.inl rfl)))
      (pss_cons (ps_for PassesOwn.never rfl (pi_range1 (by rfl) g.range (pa_cons (pe_ix ix_tup (pv 0) (pe_int) (fun _ _ => rfl)) pa_nil)) (pg_name (i := 2) sc_l_all_cells.nd rfl (.inl rfl)) (pss_one (ps_for PassesOwn.never rfl (pi_range1 (by rfl) g.range (pa_cons (pe_ix ix_tup (pv 0) (pe_int) (fun _ _ => rfl)) pa_nil)) (pg_name (i := 3) sc_l_all_cells.nd rfl (.inl rfl)) (pss_one (ps_expr (pe_bm PySem.F.plainAttrs_list PySem.F.slot_list_append PySem.F.type_list_append mt_append (pv 1) (pa_cons (pe_utup (pa_cons (pv 2) (pa_cons (pv 3) pa_nil))) pa_nil)))))))
      (pss_one (ps_ret (pv 1))))), ?_⟩
    walk_at "go"
    rename_i D H1 hD hs1 hl1
    refine u_rng1 (by omega) (by omega) ?_
    refine u_range (fun i σ H2 => ∃ a b, σ = [some (.ref tb), some (.ref D), a, b] ∧ Bld Cn H H2 D (celL Hh i)) ⟨_, _, rfl, Bld.new (Same.refl _) hD hs1 hl1⟩ (fun i σ H2 hi h => ?_) (fun σ H2 h => ?_)
    · obtain ⟨a, b, rfl, B⟩ := h
      have hb2 := B.same _ _ hb
      walk_at "go"
      refine u_rng1 (by omega) (by omega) ?_
      refine u_range (fun j σ H3 => ∃ b, σ = [some (.ref tb), some (.ref D), some (.int (0 + (i : Int))), b] ∧ Bld Cn H H3 D (celL Hh i ++ (List.range j).map fun (y : Nat) => ((i : Int), (y : Int)))) ⟨_, rfl, by simpa using B⟩ (fun j σ H3 hj h => ?_) (fun σ H3 h => ?_)
      · obtain ⟨b, rfl, B3⟩ := h
        obtain ⟨ys, hy, _⟩ := id B3.ls
        walk_at "go"
        refine u_bmL hy ?_
        walk_at "go"
        refine u_append trC (B3.up trC (by walk_at "sm")) (a := ((i : Int), (j : Int))) ⟨_, rfl, ?_⟩ ?_ fun H5 bu B5 _ => ?_
        · show _ = some (HO.tup [V.int (i : Int), V.int (j : Int)])
          have e1 : (0 : Int) + (i : Nat) = (i : Int) := by simp
          have e2 : (0 : Int) + (j : Nat) = (j : Int) := by simp
          rw [← e1, ← e2]
          assumption
        · rw [List.length_append, celL_len, List.length_map, List.length_range]
          have : i * Hh ≤ 8 * 8 := Nat.mul_le_mul (by omega) (by omega)
          omega
        · walk_at "go"
          refine ⟨_, rfl, ?_⟩
          rw [List.range_succ, List.map_append, ← List.append_assoc]
          exact B5
      · obtain ⟨b, rfl, B3⟩ := h
        refine ⟨_, _, rfl, ?_⟩
        rw [celL_succ]
        simpa using B3
    · obtain ⟨a, b, rfl, B⟩ := h
      walk_at "go"
      exact k D H2 B.fresh B.same (by simpa using B.ls)
def spLWalk (P : Program) (w : World) : Sp := fun vs H Q _ => ∃ d vp vq, ∃ p q : Pt, ∃ W Hh : Nat, ∃ F : Fn, ∃ kvs, vs = [.ref d, vp, vq] ∧ NTab kt2 P w H d kvs ∧ Vd W Hh F ∧ W ≤ 8 ∧ Hh ≤ 8 ∧ Cn H vp p ∧ Cn H vq q ∧ OnB W Hh p ∧ OnB W Hh q ∧ p.1 ≤ q.1 ∧ (∀ c, OnB W Hh c → c.1 < q.1 → c.2 ≠ q.2 → dst c q ≤ dst p q → look kvs (c, q) = some (.str (F (c, q)))) ∧ ∀ r H', H r = none → Same H H' → LsR Cn H' r (walk F p q) → Q (.ref r) H'
theorem sc_l_walk : FnScope ["_law_table", "_law_p", "_law_q", "_law_walked", "_law_k"] ["_law_table", "_law_p", "_law_q"] (defScope s_l_walk) := ⟨rfl, rfl, rfl, by decide +kernel, rfl, by decide +kernel, by decide +kernel⟩
theorem c_l_walk (g : Gs mg) (c_l_moved : Cal P w K mg base 1 "_law_moved" ["_law_corner", "_law_letter_here"] spMoved) (c_l_letter : Cal P w K mg base 1 "_law_letter" ["_law_table", "_law_p", "_law_q"] (spLetter P w)) {f : Addr} (hm : mg "_law_walk" = some (.ref f)) (F : Fd K "_law_walk" "_law_walk" s_l_walk f) : Cal P w K mg base 2 "_law_walk" ["_law_table", "_law_p", "_law_q"] (spLWalk P w) := by
  refine Cal.mk' hm (fn_mk (k := 1) F sc_l_walk (fun _ _ _ _ _ _ us hl => match us, hl with | [_, _, _], _ => rfl) (fun vs H Q E h => ?_) (fun cdv A outer s H vs Q E hr h => ?_))
  · obtain ⟨_, _, _, _, _, _, _, _, _, rfl, _⟩ := h; rfl
  · obtain ⟨d, vp, vq, p, q, W, Hh, F, kvs, rfl, hd, vd, hW, hH, hp, hq, bp, bq, hle, hlk, k⟩ := h
    refine ⟨_, (pss_cons (ps_asg (pe_ulst (pa_cons (pv 1) pa_nil)) (pg_name (i := 3) sc_l_walk.nd rfl (.inl rfl)))
      (pss_cons (ps_for PassesOwn.never rfl (pi_range1 (by rfl) g.range (pa_cons (pe_int) pa_nil)) (pg_name (i := 4) sc_l_walk.nd rfl (.inl rfl)) (pss_cons (ps_if (pt_cmpR (op_eqD hr.units) (pv 1) (pv 2) (nomark _)) (pss_one (ps_break)) pss_nil)
      (pss_cons (ps_asg (pc c_l_moved hr (pa_cons (pv 1) (pa_cons (pc c_l_letter hr (pa_cons (pv 0) (pa_cons (pv 1) (pa_cons (pv 2) pa_nil)))) pa_nil))) (pg_name (i := 1) sc_l_walk.nd rfl (.inl rfl)))
      (pss_one (ps_expr (pe_bm PySem.F.plainAttrs_list PySem.F.slot_list_append PySem.F.type_list_append mt_append (pv 3) (pa_cons (pv 1) pa_nil)))))))
      (pss_one (ps_ret (pv 3))))), ?_⟩
    have hd16 : dst p q ≤ 16 := by unfold dst OnB at *; omega
    walk_at "go"
    rename_i r H1 hr1 hs1 hl1
    refine u_rng1 (by omega) (by omega) ?_
    refine u_range (fun i σ H2 => ∃ vc a pre c, σ = [some (.ref d), some vc, some vq, some (.ref r), a] ∧ Bld Cn H H2 r (pre ++ [c]) ∧ Cn H2 vc c ∧ OnB W Hh c ∧ c.1 ≤ q.1 ∧ dst c q + i = dst p q ∧ pre.length = i ∧ pre ++ walk F c q = walk F p q) ⟨vp, _, [], p, rfl, ⟨hs1, hr1, [vp], hl1, .cons (hp.up hs1) .nil⟩, hp.up hs1, bp, hle, by omega, rfl, rfl⟩ (fun i σ H2 hi h => ?_) (fun σ H2 h => ?_)
    · obtain ⟨vc, a, pre, c, rfl, B, hvc, bc, hcq, hdc, hpl, hw⟩ := h
      walk_at "go"
      refine u_eqC hvc (hq.up B.same) ?_
      walk_at "go"
      refine ite3 (fun heq => ?_) (fun hne => ?_)
      · subst heq
        rw [walk_end] at hw
        exact (show tRet (tVar 3) _ _ H2 from by
          walk_at "go"
          exact k r H2 B.fresh B.same (hw ▸ B.ls))
      · obtain ⟨h1, h2, h3⟩ := nx_ok vd bc bq hcq hne
        walk_at "go"
        refine ⟨d, vc, vq, c, q, F, kvs, rfl, hd.up B.same, hvc, hq.up B.same, fun e1 e2 => hlk c bc (by omega) e1 (by omega), fun H3 hs3 => ?_⟩
        walk_at "go"
        refine ⟨vc, c, ltr F c q, rfl, hvc.up hs3, fun t H4 ht hs4 hm4 => ?_⟩
        obtain ⟨ys, hy, _⟩ := id (B.up trC (Same.trans hs3 hs4)).ls
        walk_at "go"
        refine u_bmL hy ?_
        walk_at "go"
        refine u_append trC (B.up trC (Same.trans hs3 hs4)) (a := nx F c q) ⟨t, rfl, hm4⟩ (by rw [List.length_append, List.length_singleton]; omega) fun H5 bu B5 _ => ?_
        refine ⟨_, _, pre ++ [c], nx F c q, rfl, B5, ⟨t, rfl, bu.tup hy (fun _ z => by cases z) _ _ hm4⟩, h1, h2, by omega, by rw [List.length_append, List.length_singleton, hpl], ?_⟩
        rw [← hw, walk_step vd bc bq hcq hne, List.append_assoc]
        rfl
    · obtain ⟨vc, a, pre, c, rfl, B, hvc, bc, hcq, hdc, hpl, hw⟩ := h
      exfalso
      have : (40 : Int).toNat = 40 := rfl
      omega
def spLLine (P : Program) (w : World) : Sp := fun vs H Q _ => ∃ d vp vq, ∃ p q : Pt, ∃ W Hh : Nat, ∃ F : Fn, ∃ kvs, vs = [.ref d, vp, vq] ∧ NTab kt2 P w H d kvs ∧ Vd W Hh F ∧ W ≤ 8 ∧ Hh ≤ 8 ∧ Cn H vp p ∧ Cn H vq q ∧ OnB W Hh p ∧ OnB W Hh q ∧ (∀ b ∈ AllB W Hh, look kvs b = some (.str (F b))) ∧ ∀ r H', H r = none → Same H H' → LsR Cn H' r (line F p q) → Q (.ref r) H'
theorem sc_l_line : FnScope ["_law_table", "_law_p", "_law_q"] ["_law_table", "_law_p", "_law_q"] (defScope s_l_line) := ⟨rfl, rfl, rfl, by decide +kernel, rfl, by decide +kernel, by decide +kernel⟩
theorem c_l_line (g : Gs mg) (c_l_walk : Cal P w K mg base 2 "_law_walk" ["_law_table", "_law_p", "_law_q"] (spLWalk P w)) {f : Addr} (hm : mg "_law_line" = some (.ref f)) (F : Fd K "_law_line" "_law_line" s_l_line f) : Cal P w K mg base 3 "_law_line" ["_law_table", "_law_p", "_law_q"] (spLLine P w) := by
  refine Cal.mk' hm (fn_mk (k := 2) F sc_l_line (fun _ _ _ _ _ _ us hl => match us, hl with | [_, _, _], _ => rfl) (fun vs H Q E h => ?_) (fun cdv A outer s H vs Q E hr h => ?_))
  · obtain ⟨_, _, _, _, _, _, _, _, _, rfl, _⟩ := h; rfl
  · obtain ⟨d, vp, vq, p, q, W, Hh, F, kvs, rfl, hd, vd, hW, hH, hp, hq, bp, bq, hlk, k⟩ := h
    refine ⟨_, (pss_cons (ps_if (pt_cmpR (op_ltT hr.units0) (pv 2) (pv 1) (nomark _)) (pss_one (ps_ret (pe_revL (pc c_l_walk hr (pa_cons (pv 0) (pa_cons (pv 2) (pa_cons (pv 1) pa_nil))))))) pss_nil)
      (pss_one (ps_ret (pc c_l_walk hr (pa_cons (pv 0) (pa_cons (pv 1) (pa_cons (pv 2) pa_nil))))))), ?_⟩
    walk_at "go"
    refine u_ltC hq hp ?_
    unfold line at k
    cases hl : ltP q p with
    | true =>
      rw [hl, if_pos rfl] at k
      walk_at "go"
      refine ⟨d, vq, vp, q, p, W, Hh, F, kvs, rfl, hd, vd, hW, hH, hq, hp, bq, bp, ltP_le hl, fun c bc h1 h2 _ => hlk _ (allB_mem bc bp h1 h2), fun t H3 ht hs3 hm3 => ?_⟩
      refine u_rev trC hm3 fun t2 H4 ht2 hs4 hm4 => ?_
      exact k t2 H4 (nof ht2 hs3) (by walk_at "sm") hm4
    | false =>
      rw [hl, if_neg Bool.false_ne_true] at k
      walk_at "go"
      exact ⟨d, vp, vq, p, q, W, Hh, F, kvs, rfl, hd, vd, hW, hH, hp, hq, bp, bq, ltP_not hl, fun c bc h1 h2 _ => hlk _ (allB_mem bc bq h1 h2), k⟩
theorem paired_rep {α β : Type} {F : α → β → Prop} {xs : List α} {ys : List β} (p : Paired F xs ys) : ∀ m : Nat, Paired F (List.replicate m xs).flatten (List.replicate m ys).flatten
  | 0 => .nil
  | m + 1 => by
    rw [List.replicate_succ, List.replicate_succ, List.flatten_cons, List.flatten_cons]
    exact Paired.append p (paired_rep p m)
theorem u_rep {α : Type} {R : Hp → V → α → Prop} {H : Hp} {p : Addr} {as : List α} {n : Int} {Q : VK} (t : Tr R) (h : LsR R H p as) (h0 : 0 ≤ n) (hz : n ≤ 1000) (ha : as.length ≤ 10) (q : ∀ l H1, H l = none → Same H H1 → LsR R H1 l (List.replicate n.toNat as).flatten → Q (.ref l) H1) : rRep (.ref p) (.int n) H Q := by
  obtain ⟨xs, hx, pr⟩ := h
  have hl := Paired.length pr
  have hm : xs.length * n.toNat ≤ 10 * 1000 := Nat.mul_le_mul (by omega) (by omega)
  refine ⟨p, n, xs, rfl, rfl, hx, by omega, by omega, Nat.le_trans hm (by decide), fun l hl => q l _ hl (Same.new hl) ⟨_, upd_same, ?_⟩⟩
  exact paired_rep (Paired.mono (fun a b r => t.up (.of (Same.new hl)) r) pr) _
def spBits (K : PySem.W.Frag) : Sp := fun vs H Q _ => ∃ a, ∃ k : Nat, ∃ ns : List Int, vs = [.ref a, .int k] ∧ (∀ H', Same H H' → SqL K H' a (ns.map V.int)) ∧ ∀ r H' bs, H r = none → Same H H' → LsR In H' r bs → 0 < bs.length → bs.length ≤ 1000 → (∀ b ∈ bs, b = 0 ∨ b = 1) → Q (.ref r) H'
theorem sc_l_bits : FnScope ["_law_script", "_law_k"] ["_law_script", "_law_k"] (defScope s_l_bits) := ⟨rfl, rfl, rfl, by decide +kernel, rfl, by decide +kernel, by decide +kernel⟩
theorem c_l_bits (g : Gs mg) (c_l_draws : Cal P w K mg base 1 "_law_draws" ["_law_cell_here", "_law_sizes"] spDraws) (c_l_cell : Cal P w K mg base 1 "_law_cell" ["_law_script", "_law_k"] (spCell K)) {f : Addr} (hm : mg "_law_bits" = some (.ref f)) (F : Fd K "_law_bits" "_law_bits" s_l_bits f) : Cal P w K mg base 2 "_law_bits" ["_law_script", "_law_k"] (spBits K) := by
  refine Cal.mk' hm (fn_mk (k := 1) F sc_l_bits (fun _ _ _ _ _ _ us hl => match us, hl with | [_, _], _ => rfl) (fun vs H Q E h => ?_) (fun cdv A outer s H vs Q E hr h => ?_))
  · obtain ⟨_, _, _, rfl, _⟩ := h; rfl
  · obtain ⟨a, kn, ns, rfl, ha, k⟩ := h
    refine ⟨_, (pss_one (ps_ret (pe_op op_cat (pc c_l_draws hr (pa_cons (pc c_l_cell hr (pa_cons (pv 0) (pa_cons (pv 1) pa_nil))) (pa_cons (pe_op op_rep (pe_ulst (pa_cons (pe_int) pa_nil)) (pe_int)) pa_nil))) (pc c_l_draws hr (pa_cons (pc c_l_cell hr (pa_cons (pv 0) (pa_cons (pe_op op_add (pv 1) (pe_int)) pa_nil))) (pa_cons (pe_op op_rep (pe_ulst (pa_cons (pe_int) pa_nil)) (pe_int)) pa_nil)))))), ?_⟩
    have sz : ∀ s ∈ (List.replicate (60 : Int).toNat [(2 : Int)]).flatten, s = 2 := by decide
    walk_at "go"
    refine ⟨a, kn, ns, rfl, ha H (Same.refl _), fun m => ?_⟩
    walk_at "go"
    rename_i p H1 hp hs1 hm1
    refine u_rep trI (LsR.ints [2] hm1 rfl) (by decide) (by decide) (by decide) fun l H2 hl hs2 hm2 => ?_
    walk_at "go"
    refine ⟨m, l, _, rfl, hm2, fun s hs => by rw [sz s hs]; decide, fun s hs => by rw [sz s hs]; decide, by decide, fun r H3 ds hr hs3 hds dok => ?_⟩
    walk_at "go"
    refine ⟨a, kn + 1, ns, rfl, ha H3 (Same.trans hs1 (Same.trans hs2 hs3)), fun m2 => ?_⟩
    walk_at "go"
    rename_i p2 H4 hp2 hs4 hm4
    refine u_rep trI (LsR.ints [2] hm4 rfl) (by decide) (by decide) (by decide) fun l2 H5 hl2 hs5 hm5 => ?_
    walk_at "go"
    refine ⟨m2, l2, _, rfl, hm5, fun s hs => by rw [sz s hs]; decide, fun s hs => by rw [sz s hs]; decide, by decide, fun r2 H6 ds2 hr2 hs6 hds2 dok2 => ?_⟩
    have l1 : ds.length = 60 := dok.1
    have l2 : ds2.length = 60 := dok2.1
    have bit : ∀ {ds : List Int}, DrOk (List.replicate (60 : Int).toNat [(2 : Int)]).flatten ds → ∀ b ∈ ds, b = 0 ∨ b = 1 := fun {ds} dk b hb => by
      obtain ⟨j, hj, e⟩ := List.mem_iff_getElem.mp hb
      have hj2 : j < (List.replicate (60 : Int).toNat [(2 : Int)]).flatten.length := by rw [← dk.1]; exact hj
      have := dk.2 j b _ (by rw [List.getElem?_eq_getElem hj, e]) (List.getElem?_eq_getElem hj2)
      rw [sz _ (List.getElem_mem _)] at this
      omega
    refine u_cat trI (((hds.up trI hs4).up trI hs5).up trI hs6) hds2 (by omega) fun r3 H7 hr3 hs7 hm7 => ?_
    have s07 : Same H H6 := Same.trans (Same.trans hs1 (Same.trans hs2 hs3)) (Same.trans hs4 (Same.trans hs5 hs6))
    refine k r3 H7 (ds ++ ds2) (nof hr3 s07) (Same.trans s07 hs7) hm7 (by rw [List.length_append]; omega) (by rw [List.length_append]; omega) fun b hb => ?_
    rcases List.mem_append.mp hb with h | h
    · exact bit dok b h
    · exact bit dok2 b h
end
end Cp
end
section
namespace Cp
open PySem PySem.Spec PyProof.Rows L2
local macro_rules | `(tactic| walk_at "f") => `(tactic| first | assumption | (refine' keep_of ?_ (by assumption); walk_at "f") | (refine Cn.up ?_ (by assumption); walk_at "f") | (refine Pr.up ?_ (by assumption); walk_at "f") | (refine NTab.up ?_ (by assumption); walk_at "f") | (refine PlI.up ?_ (by assumption); walk_at "f") | (refine LsR.up (by first | exact trC | exact trP | exact trI | assumption) ?_ (by assumption); walk_at "f"))
local macro_rules | `(tactic| walk_at "sm") => `(tactic| first | exact Same.refl _ | assumption | (refine same_tr ?_ (by assumption); walk_at "sm"))
local macro_rules | `(tactic| walk_at "fr") => `(tactic| first | assumption | (refine nof ?_ (by assumption); walk_at "fr"))
local macro_rules | `(tactic| walk_at "s1") => `(tactic| first
  | with_reducible refine s_seq ?_ | with_reducible refine s_ret ?_ | with_reducible refine s_asg ?_ | with_reducible refine s_if ?_ | with_reducible refine s_next ?_ | with_reducible refine s_drop ?_
  | ((with_reducible refine' s_var ?h ?q); (case h => exact rfl)) | with_reducible refine s_c ?_ | with_reducible refine s_op ?_ | with_reducible refine s_I0 ?_
  | with_reducible refine s_eqI ?_ | with_reducible refine s_neI ?_ | with_reducible refine s_eqS ?_ | with_reducible refine s_neS ?_
  | with_reducible refine s_test ?_ | with_reducible refine s_tB ?_ | with_reducible refine s_bl ?_ | with_reducible refine s_and ?_ | with_reducible refine s_or ?_ | with_reducible refine s_not ?_ | with_reducible refine s_andV ?_ | with_reducible refine s_chain ?_
  | with_reducible refine s_cons ?_ | with_reducible refine s_nil ?_ | with_reducible refine s_tup ?_ | with_reducible refine s_lst ?_
  | with_reducible refine s_CB ?_ | with_reducible refine s_call ?_ | with_reducible refine s_gname ?_ | with_reducible refine s_gcons ?_ | with_reducible refine s_gnil ?_
  | ((with_reducible refine' s_gtup ?h ?e ?q); (case h => walk_at "f"); (case e => exact rfl))
  | ((with_reducible refine' s_ixT ?h ?e ?q); (case h => walk_at "f"); (case e => exact rfl))
  | (with_reducible refine s_BM ?_) | ((with_reducible refine s_new ?z ?q); (case z => exact rfl); intro p H1 hp hs hv))
local macro_rules | `(tactic| walk_at "s2") => `(tactic| first
  | walk_at "s1" | with_reducible refine iteF ?_ | with_reducible refine iteT ?_ | with_reducible refine iteNT ?_ | with_reducible refine iteNF ?_ | with_reducible refine u_tup ?_ | with_reducible refine u_lst ?_ | ((with_reducible refine u_newT ?z ?q); (case z => exact rfl); intro p H1 hp hs hv) | ((with_reducible refine u_newL ?z ?q); (case z => exact rfl); intro p H1 hp hs hv) | with_reducible refine s_min2 ?_ | ((with_reducible refine' s_aug ?h ?q); (case h => exact rfl)) | with_reducible refine s_ipI ?_ | with_reducible refine s_sl2 ?_ | with_reducible refine s_part ?_ | with_reducible refine u_part ?_ | with_reducible refine s_nopart ?_ | with_reducible refine s_rev ?_ | with_reducible refine s_un ?_ | with_reducible refine s_U ?_ | with_reducible refine s_gsub ?_ | ((with_reducible refine s_lenS ?z ?q); (case z => assumption)) | with_reducible refine s_rng1 ?_ | with_reducible refine s_rng2 ?_ | with_reducible refine s_list ?_ | with_reducible refine s_istr ?_ | with_reducible refine u_str ?_ | with_reducible refine s_for ?_ | with_reducible refine s_lc ?_ | with_reducible refine s_lc2 ?_ | with_reducible refine s_yes ?_ | with_reducible refine s_bm ?_ | with_reducible refine s_mth ?_ | with_reducible refine s_abs ?_ | with_reducible refine s_int1 ?_ | with_reducible refine s_nget ?_ | with_reducible refine s_fld ?_
  | ((with_reducible refine' s_lenL ?h ?q); (case h => walk_at "f"))
  | ((with_reducible refine' s_lenT ?h ?q); (case h => walk_at "f")))
local macro_rules | `(tactic| walk_at "go") => `(tactic| repeat walk_at "s2")
section
variable {P : Program} {w : World} {K : PySem.W.Frag} {mg : Str → Option Value} {base : Heap} {C : Addr}
theorem u_rngacc {β : Type} {lo hi : Int} {n : Nat} {g : TG} {tb : TS} {D : Ends} {σ : L2.St} {H : Hp} (pre : List β) (f : Int → List β) (Pb : List β → L2.St → Hp → Prop) (hn : n = (hi - lo).toNat) (h0 : Pb pre σ H)
    (hs : ∀ x acc σ H, lo ≤ x → x < hi → (∃ r, acc ++ f x ++ r = pre ++ (rgI lo hi).flatMap f) → Pb acc σ H → g (.int x) σ H fun σ2 H2 => tb { D with nx := Pb (acc ++ f x), ct := Pb (acc ++ f x), bk := D.nx } σ2 H2)
    (hd : ∀ σ H, Pb (pre ++ (rgI lo hi).flatMap f) σ H → D.nx σ H) : qFor (Itr lo n) g tb D σ H := by
  subst hn
  refine u_range (fun i σ H => Pb (pre ++ ((rgI lo hi).take i).flatMap f) σ H) (by simpa using h0) (fun i σ H hi' h => ?_) (fun σ H h => ?_)
  · have e : pre ++ ((rgI lo hi).take (i + 1)).flatMap f = pre ++ ((rgI lo hi).take i).flatMap f ++ f (lo + (i : Int)) := by
      rw [take_flat _ _ _ _ (rgI_at hi'), List.append_assoc]
    rw [e]
    refine hs _ _ σ H (by omega) (by omega) ⟨((rgI lo hi).drop (i + 1)).flatMap f, ?_⟩ h
    rw [← e, List.append_assoc, ← List.flatMap_append, List.take_append_drop]
  · rw [rgI_all] at h
    exact hd σ H h
def f4 (Hh : Nat) (x y u : Int) : List Pq := (rgI 0 ((Hh : Int) + 1)).flatMap fun v => if v ≠ y then [((x, y), (u, v))] else []
def f3 (W Hh : Nat) (x y : Int) : List Pq := (rgI (x + 1) ((W : Int) + 1)).flatMap (f4 Hh x y)
def f2 (W Hh : Nat) (x : Int) : List Pq := (rgI 0 ((Hh : Int) + 1)).flatMap (f3 W Hh x)
def f1 (W Hh : Nat) : List Pq := (rgI 0 ((W : Int) + 1)).flatMap (f2 W Hh)
theorem f4_mem {Hh : Nat} {x y u : Int} {b : Pq} : b ∈ f4 Hh x y u ↔ b.1 = (x, y) ∧ b.2.1 = u ∧ (0 ≤ b.2.2 ∧ b.2.2 < (Hh : Int) + 1) ∧ b.2.2 ≠ y := by
  obtain ⟨p, q1, q2⟩ := b
  unfold f4
  rw [List.mem_flatMap]
  constructor
  · rintro ⟨v, hv, hb⟩
    have hv := rgI_mem.mp hv
    by_cases e : v ≠ y
    · rw [if_pos e] at hb
      have := List.mem_singleton.mp hb
      cases this
      exact ⟨rfl, rfl, hv, e⟩
    · rw [if_neg e] at hb; cases hb
  · rintro ⟨h1, h2, h3, h4⟩
    subst h1 h2
    exact ⟨q2, rgI_mem.mpr h3, by rw [if_pos h4]; exact List.mem_singleton.mpr rfl⟩
theorem f1_mem {W Hh : Nat} {b : Pq} : b ∈ f1 W Hh ↔ b ∈ AllB W Hh := by
  unfold f1 f2 f3 AllB
  rw [List.mem_append, rising_mem, falling_mem]
  unfold OnB
  obtain ⟨⟨p1, p2⟩, q1, q2⟩ := b
  simp only [List.mem_flatMap, rgI_mem, f4_mem, Prod.mk.injEq]
  constructor
  · rintro ⟨x, hx, y, hy, u, hu, ⟨rfl, rfl⟩, rfl, h3, h4⟩
    omega
  · intro h
    exact ⟨p1, by omega, p2, by omega, q1, by omega, ⟨rfl, rfl⟩, rfl, by omega, by omega⟩
theorem f1_nodup (W Hh : Nat) : (f1 W Hh).Nodup := by
  refine nodup_flat (rgI_nodup _ _) (fun x _ => nodup_flat (rgI_nodup _ _) (fun y _ => nodup_flat (rgI_nodup _ _) (fun u _ => nodup_flat (rgI_nodup _ _) (fun v _ => ?_) ?_) ?_) ?_) ?_
  · by_cases e : v ≠ y
    · rw [if_pos e]; exact List.nodup_cons.mpr ⟨List.not_mem_nil, List.nodup_nil⟩
    · rw [if_neg e]; exact List.nodup_nil
  · intro a b z ha hb
    by_cases e : a ≠ y
    · rw [if_pos e] at ha
      by_cases e2 : b ≠ y
      · rw [if_pos e2] at hb
        have h1 := List.mem_singleton.mp ha
        have h2 := List.mem_singleton.mp hb
        rw [h1] at h2
        cases h2
        rfl
      · rw [if_neg e2] at hb; cases hb
    · rw [if_neg e] at ha; cases ha
  · intro a b z ha hb
    rw [← (f4_mem.mp ha).2.1, ← (f4_mem.mp hb).2.1]
  · intro a b z ha hb
    obtain ⟨u, _, hu⟩ := List.mem_flatMap.mp ha
    obtain ⟨u', _, hu'⟩ := List.mem_flatMap.mp hb
    have h1 := (f4_mem.mp hu).1
    have h2 := (f4_mem.mp hu').1
    rw [h1] at h2
    cases h2
    rfl
  · intro a b z ha hb
    obtain ⟨y, _, hy⟩ := List.mem_flatMap.mp ha
    obtain ⟨y', _, hy'⟩ := List.mem_flatMap.mp hb
    obtain ⟨u, _, hu⟩ := List.mem_flatMap.mp hy
    obtain ⟨u', _, hu'⟩ := List.mem_flatMap.mp hy'
    have h1 := (f4_mem.mp hu).1
    have h2 := (f4_mem.mp hu').1
    rw [h1] at h2
    cases h2
    rfl
theorem f1_len {W Hh : Nat} (hW : W ≤ 8) (hH : Hh ≤ 8) : (f1 W Hh).length ≤ 6561 := by
  have l4 : ∀ x y u, (f4 Hh x y u).length ≤ 9 := fun x y u => by
    refine Nat.le_trans (flat_len (n := 1) _ fun v _ => by split <;> simp) ?_
    rw [rgI_len]; omega
  have l3 : ∀ x, 0 ≤ x → ∀ y, (f3 W Hh x y).length ≤ 81 := fun x hx y => by
    refine Nat.le_trans (flat_len (n := 9) _ fun u _ => l4 x y u) ?_
    rw [rgI_len]
    exact Nat.mul_le_mul_right 9 (by omega : ((W : Int) + 1 - (x + 1)).toNat ≤ 9)
  have l2 : ∀ x, 0 ≤ x → (f2 W Hh x).length ≤ 729 := fun x hx => by
    refine Nat.le_trans (flat_len (n := 81) _ fun y _ => l3 x hx y) ?_
    rw [rgI_len]
    exact Nat.mul_le_mul_right 81 (by omega : ((Hh : Int) + 1 - 0).toNat ≤ 9)
  refine Nat.le_trans (flat_len (n := 729) _ fun x hx => l2 x (rgI_mem.mp hx).1) ?_
  rw [rgI_len]
  exact Nat.mul_le_mul_right 729 (by omega : ((W : Int) + 1 - 0).toNat ≤ 9)
def RwR (H : Hp) (v : V) (b : Pq) : Prop := ∃ t v1 v2, v = .ref t ∧ H t = some (.tup [.int (stp b), v1, v2]) ∧ Cn H v1 b.1 ∧ Cn H v2 b.2
theorem trR : Tr RwR := ⟨fun s h => by
  obtain ⟨t, v1, v2, e, h, h1, h2⟩ := h
  exact ⟨t, v1, v2, e, s _ _ h, h1.upT s, h2.upT s⟩⟩
def encR (b : Pq) : PyData := .tuple [.int (stp b), eP b.1, eP b.2]
theorem encR_alike (b b' : Pq) : PySem.W.alike (encR b) (encR b') = true := by simp [encR, eP, PySem.W.alike, PySem.W.alikeAll]
theorem encR_depth (b : Pq) : (encR b).depth ≤ 8 := by simp [encR, eP, PyData.depth, PyData.depthAll]
theorem RwR.dp {H : Hp} {v : V} {b : Pq} (h : RwR H v b) : Dp K H v (encR b) := by
  obtain ⟨t, v1, v2, rfl, ht, h1, h2⟩ := h
  exact .tup (SqT.of ht) (.cons (.int _) (.cons h1.dp (.cons h2.dp .nil)))
def sortR (bs : List Pq) : List Pq := bs.mergeSort (PySem.W.dataLe false encR)
def spLPairs : Sp := fun vs H Q _ => ∃ vb, ∃ W Hh : Nat, vs = [vb] ∧ Cn H vb ((W : Int), (Hh : Int)) ∧ W ≤ 8 ∧ Hh ≤ 8 ∧ ∀ p H', H p = none → Same H H' → LsR RwR H' p (sortR (f1 W Hh)) → Q (.ref p) H'
theorem sc_l_pairs : FnScope ["_law_board_here", "_law_found", "_law_x", "_law_y", "_law_u", "_law_v"] ["_law_board_here"] (defScope s_l_pairs) := ⟨rfl, rfl, rfl, by decide +kernel, rfl, by decide +kernel, by decide +kernel⟩
theorem c_l_pairs (g : Gs mg)  {f : Addr} (hm : mg "_law_pairs" = some (.ref f)) (F : Fd K "_law_pairs" "_law_pairs" s_l_pairs f) : Cal P w K mg base 1 "_law_pairs" ["_law_board_here"] spLPairs := by
  refine Cal.mk' hm (fn_mk (k := 0) F sc_l_pairs (fun _ _ _ _ _ _ us hl => match us, hl with | [_], _ => rfl) (fun vs H Q E h => ?_) (fun cdv A outer s H vs Q E hr h => ?_))
  · obtain ⟨_, _, _, rfl, _⟩ := h; rfl
  · obtain ⟨vb, W, Hh, rfl, ⟨tb, rfl, hb⟩, hW, hH, k⟩ := h
    refine ⟨_, (pss_cons (ps_asg (pe_ulst pa_nil) (pg_name (i := 1) sc_l_pairs.nd rfl (.inl rfl)))
      (pss_cons (ps_for PassesOwn.never rfl (pi_range1 (by rfl) g.range (pa_cons (pe_op op_add (pe_ix ix_tup (pv 0) (pe_int) (fun _ _ => rfl)) (pe_int)) pa_nil)) (pg_name (i := 2) sc_l_pairs.nd rfl (.inl rfl)) (pss_one (ps_for PassesOwn.never rfl (pi_range1 (by rfl) g.range (pa_cons (pe_op op_add (pe_ix ix_tup (pv 0) (pe_int) (fun _ _ => rfl)) (pe_int)) pa_nil)) (pg_name (i := 3) sc_l_pairs.nd rfl (.inl rfl)) (pss_one (ps_for PassesOwn.never rfl (pi_range2 (by rfl) g.range (pa_cons (pe_op op_add (pv 2) (pe_int)) (pa_cons (pe_op op_add (pe_ix ix_tup (pv 0) (pe_int) (fun _ _ => rfl)) (pe_int)) pa_nil))) (pg_name (i := 4) sc_l_pairs.nd rfl (.inl rfl)) (pss_one (ps_for PassesOwn.never rfl (pi_range1 (by rfl) g.range (pa_cons (pe_op op_add (pe_ix ix_tup (pv 0) (pe_int) (fun _ _ => rfl)) (pe_int)) pa_nil)) (pg_name (i := 5) sc_l_pairs.nd rfl (.inl rfl)) (pss_one (ps_if (pt_cmpR op_ne (pv 5) (pv 3) (nomark _)) (pss_one (ps_expr (pe_bm PySem.F.plainAttrs_list PySem.F.slot_list_append PySem.F.type_list_append mt_append (pv 1) (pa_cons (pe_utup (pa_cons (pe_op op_add (pe_op op_sub (pv 4) (pv 2)) (pe_callB cr_abs (by rfl) g.abs (by rfl) (pa_cons (pe_op op_sub (pv 5) (pv 3)) pa_nil))) (pa_cons (pe_utup (pa_cons (pv 2) (pa_cons (pv 3) pa_nil))) (pa_cons (pe_utup (pa_cons (pv 4) (pa_cons (pv 5) pa_nil))) pa_nil)))) pa_nil)))) pss_nil)))))))))
      (pss_one (ps_ret (pe_callB (cr_sortedD encR hr.units encR_alike (fun b => ⟨_, _, rfl⟩) encR_depth) (by rfl) g.sorted (by rfl) (pa_cons (pv 1) pa_nil)))))), ?_⟩
    have hfl := f1_len hW hH
    have hb : H tb = some (.tup [.int W, .int Hh]) := hb
    walk_at "go"
    rename_i D H1 hD hs1 hl1
    refine u_rng1 (by omega) (by omega) ?_
    refine u_rngacc (lo := 0) (hi := (W : Int) + 1) [] (f2 W Hh) (fun acc σ H2 => ∃ a b c e, σ = [some (.ref tb), some (.ref D), a, b, c, e] ∧ Bld RwR H H2 D acc) (by omega) ⟨_, _, _, _, rfl, Bld.new (Same.refl _) hD hs1 hl1⟩ (fun x acc σ H2 hx1 hx2 hr1 h => ?_) (fun σ H2 h => ?_)
    · obtain ⟨a, b, c, e, rfl, B⟩ := h
      have hb2 := B.same _ _ hb
      walk_at "go"
      refine u_rng1 (by omega) (by omega) ?_
      refine u_rngacc (lo := 0) (hi := (Hh : Int) + 1) acc (f3 W Hh x) (fun acc σ H2 => ∃ b c e, σ = [some (.ref tb), some (.ref D), some (.int x), b, c, e] ∧ Bld RwR H H2 D acc) (by omega) ⟨_, _, _, rfl, B⟩ (fun y acc2 σ H3 hy1 hy2 hr2 h => ?_) (fun σ H2 h => by obtain ⟨b, c, e, h1, h2⟩ := h; exact ⟨_, _, _, _, h1, h2⟩)
      obtain ⟨b, c, e, rfl, B3⟩ := h
      have hb3 := B3.same _ _ hb
      walk_at "go"
      refine u_rng2 (by omega) (by omega) (by omega) (by omega) ?_
      refine u_rngacc (lo := x + 1) (hi := (W : Int) + 1) acc2 (f4 Hh x y) (fun acc σ H2 => ∃ c e, σ = [some (.ref tb), some (.ref D), some (.int x), some (.int y), c, e] ∧ Bld RwR H H2 D acc) rfl ⟨_, _, rfl, B3⟩ (fun u acc3 σ H4 hu1 hu2 hr3 h => ?_) (fun σ H2 h => by obtain ⟨c, e, h1, h2⟩ := h; exact ⟨_, _, _, h1, h2⟩)
      obtain ⟨c, e, rfl, B4⟩ := h
      have hb4 := B4.same _ _ hb
      walk_at "go"
      refine u_rng1 (by omega) (by omega) ?_
      refine u_rngacc (lo := 0) (hi := (Hh : Int) + 1) acc3 (fun v => if v ≠ y then [((x, y), (u, v))] else []) (fun acc σ H2 => ∃ e, σ = [some (.ref tb), some (.ref D), some (.int x), some (.int y), some (.int u), e] ∧ Bld RwR H H2 D acc) (by omega) ⟨_, rfl, B4⟩ (fun v acc4 σ H5 hv1 hv2 hr4 h => ?_) (fun σ H2 h => by obtain ⟨e, h1, h2⟩ := h; exact ⟨_, _, h1, h2⟩)
      obtain ⟨e, rfl, B5⟩ := h
      obtain ⟨ys, hy, _⟩ := id B5.ls
      walk_at "go"
      refine ite3n (fun hvy => ?_) (fun hvy => ?_)
      · rw [if_pos hvy] at hr4 ⊢
        have hal : acc4.length ≤ 6561 := by
          obtain ⟨r4, q4⟩ := hr4
          obtain ⟨r3, q3⟩ := hr3
          obtain ⟨r2, q2⟩ := hr2
          obtain ⟨r1, q1⟩ := hr1
          have a4 := congrArg List.length q4
          have a3 := congrArg List.length q3
          have a2 := congrArg List.length q2
          have a1 := congrArg List.length q1
          have b4 : f4 Hh x y u = (rgI 0 ((Hh : Int) + 1)).flatMap fun v => if v ≠ y then [((x, y), (u, v))] else [] := rfl
          have b3 : f3 W Hh x y = (rgI (x + 1) ((W : Int) + 1)).flatMap (f4 Hh x y) := rfl
          have b2 : f2 W Hh x = (rgI 0 ((Hh : Int) + 1)).flatMap (f3 W Hh x) := rfl
          have b1 : f1 W Hh = (rgI 0 ((W : Int) + 1)).flatMap (f2 W Hh) := rfl
          rw [← b4] at a4
          rw [← b3] at a3
          rw [← b2] at a2
          rw [← b1] at a1
          simp only [List.length_append, List.nil_append] at a4 a3 a2 a1
          omega
        walk_at "go"
        refine u_bmL hy ?_
        walk_at "go"
        refine u_append trR (B5.up trR (by walk_at "sm")) (a := ((x, y), (u, v))) ⟨_, _, _, rfl, ?_, ⟨_, rfl, by walk_at "f"⟩, ⟨_, rfl, by walk_at "f"⟩⟩ (by omega) fun H6 bu B6 _ => ?_
        · have e1 : stp ((x, y), (u, v)) = u - x + ((v - y).natAbs : Int) := by
            unfold stp
            simp only
            omega
          rw [e1]
          assumption
        · exact ⟨_, rfl, B6⟩
      · rw [if_neg (fun h => h hvy)]
        rw [List.append_nil]
        walk_at "go"
        exact ⟨_, rfl, B5⟩
    · obtain ⟨a, b, c, e, rfl, B⟩ := h
      obtain ⟨xs, hx, pr⟩ := id B.ls
      have b1 : [] ++ (rgI 0 ((W : Int) + 1)).flatMap (f2 W Hh) = f1 W Hh := rfl
      rw [b1] at pr
      walk_at "go"
      refine ⟨D, xs, f1 W Hh, RwR H2, rfl, SqL.of hx, pr, fun v b h => h.dp, by omega, fun ys p H3 hp hs3 hl3 pr3 => ?_⟩
      exact k p H3 (by
        cases e : H p with
        | none => rfl
        | some o => rw [B.same _ _ e] at hp; cases hp) (Same.trans B.same hs3) ⟨ys, hl3, Paired.mono (fun a b r => trR.up (.of hs3) r) pr3⟩
end
end Cp
end
section
namespace Cp
open PySem PySem.Spec PyProof.Rows L2
local macro_rules | `(tactic| walk_at "f") => `(tactic| first | assumption | (refine' keep_of ?_ (by assumption); walk_at "f") | (refine Cn.up ?_ (by assumption); walk_at "f") | (refine Pr.up ?_ (by assumption); walk_at "f") | (refine NTab.up ?_ (by assumption); walk_at "f") | (refine PlI.up ?_ (by assumption); walk_at "f") | (refine LsR.up (by first | exact trC | exact trP | exact trI | assumption) ?_ (by assumption); walk_at "f"))
local macro_rules | `(tactic| walk_at "sm") => `(tactic| first | exact Same.refl _ | assumption | (refine same_tr ?_ (by assumption); walk_at "sm"))
local macro_rules | `(tactic| walk_at "fr") => `(tactic| first | assumption | (refine nof ?_ (by assumption); walk_at "fr"))
local macro_rules | `(tactic| walk_at "s1") => `(tactic| first
  | with_reducible refine s_seq ?_ | with_reducible refine s_ret ?_ | with_reducible refine s_asg ?_ | with_reducible refine s_if ?_ | with_reducible refine s_next ?_ | with_reducible refine s_drop ?_
  | ((with_reducible refine' s_var ?h ?q); (case h => exact rfl)) | with_reducible refine s_c ?_ | with_reducible refine s_op ?_ | with_reducible refine s_I0 ?_
  | with_reducible refine s_eqI ?_ | with_reducible refine s_neI ?_ | with_reducible refine s_eqS ?_ | with_reducible refine s_neS ?_
  | with_reducible refine s_test ?_ | with_reducible refine s_tB ?_ | with_reducible refine s_bl ?_ | with_reducible refine s_and ?_ | with_reducible refine s_or ?_ | with_reducible refine s_not ?_ | with_reducible refine s_andV ?_ | with_reducible refine s_chain ?_
  | with_reducible refine s_cons ?_ | with_reducible refine s_nil ?_ | with_reducible refine s_tup ?_ | with_reducible refine s_lst ?_
  | with_reducible refine s_CB ?_ | with_reducible refine s_call ?_ | with_reducible refine s_gname ?_ | with_reducible refine s_gcons ?_ | with_reducible refine s_gnil ?_
  | ((with_reducible refine' s_gtup ?h ?e ?q); (case h => walk_at "f"); (case e => exact rfl))
  | ((with_reducible refine' s_ixT ?h ?e ?q); (case h => walk_at "f"); (case e => exact rfl))
  | (with_reducible refine s_BM ?_) | ((with_reducible refine s_new ?z ?q); (case z => exact rfl); intro p H1 hp hs hv))
local macro_rules | `(tactic| walk_at "s2") => `(tactic| first
  | walk_at "s1" | with_reducible refine iteF ?_ | with_reducible refine iteT ?_ | with_reducible refine iteNT ?_ | with_reducible refine iteNF ?_ | with_reducible refine u_tup ?_ | with_reducible refine u_lst ?_ | ((with_reducible refine u_newT ?z ?q); (case z => exact rfl); intro p H1 hp hs hv) | ((with_reducible refine u_newL ?z ?q); (case z => exact rfl); intro p H1 hp hs hv) | with_reducible refine s_min2 ?_ | ((with_reducible refine' s_aug ?h ?q); (case h => exact rfl)) | with_reducible refine s_ipI ?_ | with_reducible refine s_sl2 ?_ | with_reducible refine s_part ?_ | with_reducible refine u_part ?_ | with_reducible refine s_nopart ?_ | with_reducible refine s_rev ?_ | with_reducible refine s_un ?_ | with_reducible refine s_U ?_ | with_reducible refine s_gsub ?_ | ((with_reducible refine s_lenS ?z ?q); (case z => assumption)) | with_reducible refine s_rng1 ?_ | with_reducible refine s_rng2 ?_ | with_reducible refine s_list ?_ | with_reducible refine s_istr ?_ | with_reducible refine u_str ?_ | with_reducible refine s_for ?_ | with_reducible refine s_lc ?_ | with_reducible refine s_lc2 ?_ | with_reducible refine s_yes ?_ | with_reducible refine s_bm ?_ | with_reducible refine s_mth ?_ | with_reducible refine s_abs ?_ | with_reducible refine s_int1 ?_ | with_reducible refine s_nget ?_ | with_reducible refine s_fld ?_
  | ((with_reducible refine' s_lenL ?h ?q); (case h => walk_at "f"))
  | ((with_reducible refine' s_lenT ?h ?q); (case h => walk_at "f")))
local macro_rules | `(tactic| walk_at "go") => `(tactic| repeat walk_at "s2")
section
variable {P : Program} {w : World} {K : PySem.W.Frag} {mg : Str → Option Value} {base : Heap} {C : Addr}
theorem rgI_split {a b c : Int} (h1 : a ≤ b) (h2 : b ≤ c) : rgI a c = rgI a b ++ rgI b c := by
  unfold rgI
  have e : (c - a).toNat = (b - a).toNat + (c - b).toNat := by omega
  rw [e, List.range_add, List.map_append, List.map_map]
  congr 1
  refine List.map_congr_left fun i _ => ?_
  show a + (((b - a).toNat + i : Nat) : Int) = b + (i : Int)
  omega
theorem rgI_nat (n : Nat) : rgI 0 (n : Int) = (List.range n).map fun (i : Nat) => (i : Int) := by
  unfold rgI
  rw [show ((n : Int) - 0).toNat = n by omega]
  exact List.map_congr_left fun i _ => by omega
def upB (b : Pq) : Bool := decide (b.1.2 < b.2.2)
def dnB (b : Pq) : Bool := decide (b.2.2 < b.1.2)
theorem flat_nil {α β : Type} {f : α → List β} : ∀ {l : List α}, (∀ a ∈ l, f a = []) → l.flatMap f = []
  | [], _ => rfl
  | a :: l, h => by
    rw [List.flatMap_cons, h a (by simp), flat_nil fun b hb => h b (List.mem_cons_of_mem _ hb)]
    rfl
theorem flat_one {α β : Type} {f : α → List β} {g : α → β} : ∀ {l : List α}, (∀ a ∈ l, f a = [g a]) → l.flatMap f = l.map g
  | [], _ => rfl
  | a :: l, h => by
    rw [List.flatMap_cons, h a (by simp), flat_one fun b hb => h b (List.mem_cons_of_mem _ hb)]
    rfl
theorem f4_up {Hh : Nat} {x y u : Int} (h0 : 0 ≤ y) (h1 : y ≤ Hh) : (f4 Hh x y u).filter upB = rowR (x, y) u (y + 1) (Hh + 1) := by
  unfold f4 rowR
  rw [List.filter_flatMap, rgI_split (b := y + 1) (by omega) (by omega), List.flatMap_append, flat_nil, List.nil_append]
  · refine flat_one fun v hv => ?_
    have := rgI_mem.mp hv
    rw [if_pos (by omega)]
    simp only [List.filter, upB]
    rw [decide_eq_true (by omega)]
  · intro v hv
    have := rgI_mem.mp hv
    by_cases e : v ≠ y
    · rw [if_pos e]
      simp only [List.filter, upB]
      rw [decide_eq_false (by omega)]
    · rw [if_neg e]; rfl
theorem f4_dn {Hh : Nat} {x y u : Int} (h0 : 0 ≤ y) (h1 : y ≤ Hh) : (f4 Hh x y u).filter dnB = rowR (x, y) u 0 y := by
  unfold f4 rowR
  rw [List.filter_flatMap, rgI_split (b := y) (by omega) (by omega), List.flatMap_append, flat_nil (l := rgI y _), List.append_nil]
  · refine flat_one fun v hv => ?_
    have := rgI_mem.mp hv
    rw [if_pos (by omega)]
    simp only [List.filter, dnB]
    rw [decide_eq_true (by omega)]
  · intro v hv
    have := rgI_mem.mp hv
    by_cases e : v ≠ y
    · rw [if_pos e]
      simp only [List.filter, dnB]
      rw [decide_eq_false (by omega)]
    · rw [if_neg e]; rfl
theorem flat_congr {α β : Type} {f g : α → List β} : ∀ {l : List α}, (∀ a ∈ l, f a = g a) → l.flatMap f = l.flatMap g
  | [], _ => rfl
  | a :: l, h => by
    rw [List.flatMap_cons, List.flatMap_cons, h a (by simp), flat_congr fun b hb => h b (List.mem_cons_of_mem _ hb)]
theorem corners_flat {W Hh : Nat} {β : Type} (g : Pt → List β) : (cornersL W Hh).flatMap g = (rgI 0 ((W : Int) + 1)).flatMap fun x => (rgI 0 ((Hh : Int) + 1)).flatMap fun y => g (x, y) := by
  unfold cornersL
  have e1 : ((W : Int) + 1) = ((W + 1 : Nat) : Int) := by omega
  have e2 : ((Hh : Int) + 1) = ((Hh + 1 : Nat) : Int) := by omega
  rw [e1, e2, rgI_nat, rgI_nat, List.flatMap_assoc, List.flatMap_map]
  refine flat_congr fun x _ => ?_
  rw [List.flatMap_map, List.flatMap_map]
theorem f1_up (W Hh : Nat) : (f1 W Hh).filter upB = pairsL W Hh "rising" := by
  have e : pairsL W Hh "rising" = risingL W Hh := by unfold pairsL; rw [if_pos rfl]
  rw [e]
  unfold f1 f2 f3 risingL
  rw [corners_flat, List.filter_flatMap]
  refine flat_congr fun x hx => ?_
  rw [List.filter_flatMap]
  refine flat_congr fun y hy => ?_
  rw [List.filter_flatMap]
  have := rgI_mem.mp hy
  unfold atR
  exact flat_congr fun u _ => f4_up (by omega) (by omega)
theorem f1_dn (W Hh : Nat) : (f1 W Hh).filter dnB = pairsL W Hh "falling" := by
  have e : pairsL W Hh "falling" = fallingL W Hh := by unfold pairsL; rw [if_neg (by decide)]
  rw [e]
  unfold f1 f2 f3 fallingL
  rw [corners_flat, List.filter_flatMap]
  refine flat_congr fun x hx => ?_
  rw [List.filter_flatMap]
  refine flat_congr fun y hy => ?_
  rw [List.filter_flatMap]
  have := rgI_mem.mp hy
  unfold atR
  exact flat_congr fun u _ => f4_dn (by omega) (by omega)
/-- a text of one sign -/
def One (s : Str) : Prop := s = "E" ∨ s = "N" ∨ s = "S"
theorem TX.snoc {z s : Str} {cs : List Str} (h : TX z cs) (o : One s) (hz : cs.length < 50000) : TX (z ++ s) (cs ++ [s]) := by
  have hl := h.len
  have ho : s.length = 1 ∧ s.cps.toList.map (fun c => (⟨#[c]⟩ : Str)) = [s] := by
    rcases o with rfl | rfl | rfl <;> exact ⟨rfl, rfl⟩
  have e : (z ++ s).cps = z.cps ++ s.cps := PySem.Str.cps_append z s
  refine ⟨?_, ?_⟩
  · have : (z ++ s).length = z.length + s.length := by
      show (z ++ s).cps.size = z.cps.size + s.cps.size
      rw [e, Array.size_append]
    omega
  · rw [e, Array.toList_append, List.map_append, h.2, ho.2]
theorem TX.nil : TX "" [] := ⟨by decide, rfl⟩
theorem vd_one {W Hh : Nat} {F : Fn} (v : Vd W Hh F) {b : Pq} (hb : b ∈ AllB W Hh) : One (F b) := by
  have : OnB W Hh b.1 ∧ OnB W Hh b.2 ∧ b.1.1 < b.2.1 ∧ b.1.2 ≠ b.2.2 := by
    unfold AllB at hb
    rcases List.mem_append.mp hb with h | h
    · have := rising_mem.mp h; exact ⟨this.1, this.2.1, this.2.2.1, by omega⟩
    · have := falling_mem.mp h; exact ⟨this.1, this.2.1, this.2.2.1, by omega⟩
  obtain ⟨h1, h2, h3, h4⟩ := this
  rcases v b.1 b.2 h1 h2 h3 h4 with e | e
  · exact .inl e
  · have e : F b = (if b.2.2 < b.1.2 then "S" else "N") := e
    rw [e]
    split
    · exact .inr (.inr rfl)
    · exact .inr (.inl rfl)
def spTexts (P : Program) (w : World) : Sp := fun vs H Q _ => ∃ vb d, ∃ W Hh : Nat, ∃ F : Fn, ∃ kvs, vs = [vb, .ref d] ∧ Cn H vb ((W : Int), (Hh : Int)) ∧ W ≤ 8 ∧ Hh ≤ 8 ∧ Vd W Hh F ∧ NTab kt2 P w H d kvs ∧ (∀ b ∈ AllB W Hh, look kvs b = some (.str (F b))) ∧
  ∀ p H' z1 z2, H p = none → Same H H' → H' p = some (.tup [.str z1, .str z2]) → TX z1 ((pairsL W Hh "rising").map F) → TX z2 ((pairsL W Hh "falling").map F) → Q (.ref p) H'
theorem sc_l_texts : FnScope ["_law_board_here", "_law_table", "_law_upward", "_law_downward", "_law_x", "_law_y", "_law_u", "_law_v"] ["_law_board_here", "_law_table"] (defScope s_l_texts) := ⟨rfl, rfl, rfl, by decide +kernel, rfl, by decide +kernel, by decide +kernel⟩
theorem c_l_texts (g : Gs mg)  {f : Addr} (hm : mg "_law_texts" = some (.ref f)) (F : Fd K "_law_texts" "_law_texts" s_l_texts f) : Cal P w K mg base 1 "_law_texts" ["_law_board_here", "_law_table"] (spTexts P w) := by
  refine Cal.mk' hm (fn_mk (k := 0) F sc_l_texts (fun _ _ _ _ _ _ us hl => match us, hl with | [_, _], _ => rfl) (fun vs H Q E h => ?_) (fun cdv A outer s H vs Q E hr h => ?_))
  · obtain ⟨_, _, _, _, _, _, rfl, _⟩ := h; rfl
  · obtain ⟨vb, d, W, Hh, F, kvs, rfl, ⟨tb, rfl, hb⟩, hW, hH, vd, hd, hl, k⟩ := h
    refine ⟨_, (pss_cons (ps_asg (pe_str) (pg_name (i := 2) sc_l_texts.nd rfl (.inl rfl)))
      (pss_cons (ps_asg (pe_str) (pg_name (i := 3) sc_l_texts.nd rfl (.inl rfl)))
      (pss_cons (ps_for PassesOwn.never rfl (pi_range1 (by rfl) g.range (pa_cons (pe_op op_add (pe_ix ix_tup (pv 0) (pe_int) (fun _ _ => rfl)) (pe_int)) pa_nil)) (pg_name (i := 4) sc_l_texts.nd rfl (.inl rfl)) (pss_one (ps_for PassesOwn.never rfl (pi_range1 (by rfl) g.range (pa_cons (pe_op op_add (pe_ix ix_tup (pv 0) (pe_int) (fun _ _ => rfl)) (pe_int)) pa_nil)) (pg_name (i := 5) sc_l_texts.nd rfl (.inl rfl)) (pss_one (ps_for PassesOwn.never rfl (pi_range2 (by rfl) g.range (pa_cons (pe_op op_add (pv 4) (pe_int)) (pa_cons (pe_op op_add (pe_ix ix_tup (pv 0) (pe_int) (fun _ _ => rfl)) (pe_int)) pa_nil))) (pg_name (i := 6) sc_l_texts.nd rfl (.inl rfl)) (pss_one (ps_for PassesOwn.never rfl (pi_range1 (by rfl) g.range (pa_cons (pe_op op_add (pe_ix ix_tup (pv 0) (pe_int) (fun _ _ => rfl)) (pe_int)) pa_nil)) (pg_name (i := 7) sc_l_texts.nd rfl (.inl rfl)) (pss_cons (ps_if (pt_cmpR op_gt (pv 7) (pv 5) (nomark _)) (pss_one (ps_asg (pe_op op_addS (pv 2) (pe_nget kt2 hr.units (pv 1) (pe_utup (pa_cons (pe_utup (pa_cons (pv 4) (pa_cons (pv 5) pa_nil))) (pa_cons (pe_utup (pa_cons (pv 6) (pa_cons (pv 7) pa_nil))) pa_nil))) (fun _ _ => rfl))) (pg_name (i := 2) sc_l_texts.nd rfl (.inl rfl)))) pss_nil)
      (pss_one (ps_if (pt_cmpR op_lt (pv 7) (pv 5) (nomark _)) (pss_one (ps_asg (pe_op op_addS (pv 3) (pe_nget kt2 hr.units (pv 1) (pe_utup (pa_cons (pe_utup (pa_cons (pv 4) (pa_cons (pv 5) pa_nil))) (pa_cons (pe_utup (pa_cons (pv 6) (pa_cons (pv 7) pa_nil))) pa_nil))) (fun _ _ => rfl))) (pg_name (i := 3) sc_l_texts.nd rfl (.inl rfl)))) pss_nil))))))))))
      (pss_one (ps_ret (pe_utup (pa_cons (pv 2) (pa_cons (pv 3) pa_nil)))))))), ?_⟩
    have hfl := f1_len hW hH
    have hb : H tb = some (.tup [.int W, .int Hh]) := hb
    walk_at "go"
    refine u_rng1 (by omega) (by omega) ?_
    refine u_rngacc (lo := 0) (hi := (W : Int) + 1) [] (f2 W Hh) (fun acc σ H2 => ∃ z1 z2 a b c e, σ = [some (.ref tb), some (.ref d), some (.str z1), some (.str z2), a, b, c, e] ∧ Same H H2 ∧ TX z1 ((acc.filter upB).map F) ∧ TX z2 ((acc.filter dnB).map F)) (by omega) ⟨_, _, _, _, _, _, rfl, Same.refl _, TX.nil, TX.nil⟩ (fun x acc σ H2 hx1 hx2 hr1 h => ?_) (fun σ H2 h => ?_)
    · obtain ⟨z1, z2, a, b, c, e, rfl, s2, t1, t2⟩ := h
      have hb2 := s2 _ _ hb
      walk_at "go"
      refine u_rng1 (by omega) (by omega) ?_
      refine u_rngacc (lo := 0) (hi := (Hh : Int) + 1) acc (f3 W Hh x) (fun acc σ H2 => ∃ z1 z2 b c e, σ = [some (.ref tb), some (.ref d), some (.str z1), some (.str z2), some (.int x), b, c, e] ∧ Same H H2 ∧ TX z1 ((acc.filter upB).map F) ∧ TX z2 ((acc.filter dnB).map F)) (by omega) ⟨_, _, _, _, _, rfl, s2, t1, t2⟩ (fun y acc2 σ H3 hy1 hy2 hr2 h => ?_) (fun σ H2 h => by obtain ⟨z1, z2, b, c, e, h1, h2⟩ := h; exact ⟨_, _, _, _, _, _, h1, h2⟩)
      obtain ⟨z1, z2, b, c, e, rfl, s3, t1, t2⟩ := h
      have hb3 := s3 _ _ hb
      walk_at "go"
      refine u_rng2 (by omega) (by omega) (by omega) (by omega) ?_
      refine u_rngacc (lo := x + 1) (hi := (W : Int) + 1) acc2 (f4 Hh x y) (fun acc σ H2 => ∃ z1 z2 c e, σ = [some (.ref tb), some (.ref d), some (.str z1), some (.str z2), some (.int x), some (.int y), c, e] ∧ Same H H2 ∧ TX z1 ((acc.filter upB).map F) ∧ TX z2 ((acc.filter dnB).map F)) rfl ⟨_, _, _, _, rfl, s3, t1, t2⟩ (fun u acc3 σ H4 hu1 hu2 hr3 h => ?_) (fun σ H2 h => by obtain ⟨z1, z2, c, e, h1, h2⟩ := h; exact ⟨_, _, _, _, _, h1, h2⟩)
      obtain ⟨z1, z2, c, e, rfl, s4, t1, t2⟩ := h
      have hb4 := s4 _ _ hb
      walk_at "go"
      refine u_rng1 (by omega) (by omega) ?_
      refine u_rngacc (lo := 0) (hi := (Hh : Int) + 1) acc3 (fun v => if v ≠ y then [((x, y), (u, v))] else []) (fun acc σ H2 => ∃ z1 z2 e, σ = [some (.ref tb), some (.ref d), some (.str z1), some (.str z2), some (.int x), some (.int y), some (.int u), e] ∧ Same H H2 ∧ TX z1 ((acc.filter upB).map F) ∧ TX z2 ((acc.filter dnB).map F)) (by omega) ⟨_, _, _, rfl, s4, t1, t2⟩ (fun v acc4 σ H5 hv1 hv2 hr4 h => ?_) (fun σ H2 h => by obtain ⟨z1, z2, e, h1, h2⟩ := h; exact ⟨_, _, _, _, h1, h2⟩)
      obtain ⟨z1, z2, e, rfl, s5, t1, t2⟩ := h
      have hd5 := hd.up s5
      by_cases hvy : v ≠ y
      · rw [if_pos hvy] at hr4 ⊢
        have hal : acc4.length ≤ 6561 := by
          obtain ⟨r4, q4⟩ := hr4
          obtain ⟨r3, q3⟩ := hr3
          obtain ⟨r2, q2⟩ := hr2
          obtain ⟨r1, q1⟩ := hr1
          have a4 := congrArg List.length q4
          have a3 := congrArg List.length q3
          have a2 := congrArg List.length q2
          have a1 := congrArg List.length q1
          have b4 : f4 Hh x y u = (rgI 0 ((Hh : Int) + 1)).flatMap fun v => if v ≠ y then [((x, y), (u, v))] else [] := rfl
          have b3 : f3 W Hh x y = (rgI (x + 1) ((W : Int) + 1)).flatMap (f4 Hh x y) := rfl
          have b2 : f2 W Hh x = (rgI 0 ((Hh : Int) + 1)).flatMap (f3 W Hh x) := rfl
          have b1 : f1 W Hh = (rgI 0 ((W : Int) + 1)).flatMap (f2 W Hh) := rfl
          rw [← b4] at a4
          rw [← b3] at a3
          rw [← b2] at a2
          rw [← b1] at a1
          simp only [List.length_append, List.nil_append] at a4 a3 a2 a1
          omega
        have hbm : ((x, y), (u, v)) ∈ AllB W Hh := allB_mem (p := (x, y)) (q := (u, v)) ⟨by simp only; omega, by simp only; omega, by simp only; omega, by simp only; omega⟩ ⟨by simp only; omega, by simp only; omega, by simp only; omega, by simp only; omega⟩ (by simp only; omega) (fun h => hvy h.symm)
        have o := vd_one vd hbm
        have lb := hl _ hbm
        have lo1 : (F ((x, y), (u, v))).length = 1 := by rcases o with h | h | h <;> rw [h] <;> rfl
        have sz : (100001 : Nat) ≤ sizeLine := by decide
        have f1l : ((acc4.filter upB).map F).length ≤ acc4.length := by rw [List.length_map]; exact List.length_filter_le _ _
        have f2l : ((acc4.filter dnB).map F).length ≤ acc4.length := by rw [List.length_map]; exact List.length_filter_le _ _
        walk_at "go"
        refine ite3 (fun h1 => ?_) (fun h1 => ?_)
        · have u1 : upB ((x, y), (u, v)) = true := decide_eq_true h1
          have u2 : dnB ((x, y), (u, v)) = false := decide_eq_false (by simp only; omega)
          walk_at "go"
          refine u_nget (k := ((x, y), (u, v))) (kvs := kvs) (by walk_at "f") ⟨_, _, _, rfl, by assumption, ⟨_, rfl, by walk_at "f"⟩, ⟨_, rfl, by walk_at "f"⟩⟩ lb ?_
          refine s_addS (by have := t1.1; omega) ?_
          walk_at "go"
          refine ite3 (fun h2 => absurd h2 (by omega)) (fun h2 => ?_)
          walk_at "go"
          refine ⟨_, _, _, rfl, by walk_at "sm", ?_, ?_⟩
          · rw [List.filter_append, List.map_append]
            simp only [List.filter, u1, List.map_cons, List.map_nil]
            exact t1.snoc o (by omega)
          · rw [List.filter_append, List.map_append]
            simp only [List.filter, u2, List.map_nil, List.append_nil]
            exact t2
        · have u1 : upB ((x, y), (u, v)) = false := decide_eq_false h1
          have h3 : v < y := by omega
          have u2 : dnB ((x, y), (u, v)) = true := decide_eq_true h3
          walk_at "go"
          refine ite3 (fun h2 => ?_) (fun h2 => absurd h3 h2)
          walk_at "go"
          refine u_nget (k := ((x, y), (u, v))) (kvs := kvs) (by walk_at "f") ⟨_, _, _, rfl, by assumption, ⟨_, rfl, by walk_at "f"⟩, ⟨_, rfl, by walk_at "f"⟩⟩ lb ?_
          refine s_addS (by have := t2.1; omega) ?_
          walk_at "go"
          refine ⟨_, _, _, rfl, by walk_at "sm", ?_, ?_⟩
          · rw [List.filter_append, List.map_append]
            simp only [List.filter, u1, List.map_nil, List.append_nil]
            exact t1
          · rw [List.filter_append, List.map_append]
            simp only [List.filter, u2, List.map_cons, List.map_nil]
            exact t2.snoc o (by omega)
      · rw [if_neg hvy, List.append_nil]
        have hvy : v = y := Classical.not_not.mp hvy
        walk_at "go"
        refine ite3 (fun h2 => absurd h2 (by omega)) (fun h2 => ?_)
        walk_at "go"
        refine ite3 (fun h2 => absurd h2 (by omega)) (fun h2 => ?_)
        walk_at "go"
        exact ⟨_, _, _, rfl, s5, t1, t2⟩
    · obtain ⟨z1, z2, a, b, c, e, rfl, s2, t1, t2⟩ := h
      have b1 : [] ++ (rgI 0 ((W : Int) + 1)).flatMap (f2 W Hh) = f1 W Hh := rfl
      rw [b1, f1_up] at t1
      rw [b1, f1_dn] at t2
      walk_at "go"
      exact k _ _ z1 z2 (by walk_at "fr") (by walk_at "sm") (by assumption) t1 t2
end
end Cp
end
section
namespace Cp
open PySem PySem.Spec PyProof.Rows L2
/-! ### the table as it grows -/
def Fk (kvs : List (Pq × V)) : Fn := fun b => match look kvs b with
  | some (.str s) => s
  | _ => steep b.1 b.2
def admB (F : Fn) (p q : Pt) (l : Str) : Bool := decide (ltr F p (pen (p :: walk F (mv p l) q)) = l)
def rows (W Hh : Nat) : List Pq := sortR (f1 W Hh)
theorem rows_mem {W Hh : Nat} {b : Pq} : b ∈ rows W Hh ↔ b ∈ AllB W Hh := ((List.mergeSort_perm _ _).mem_iff).trans f1_mem
theorem rows_nodup (W Hh : Nat) : (rows W Hh).Nodup := ((List.mergeSort_perm _ _).nodup_iff).mpr (f1_nodup W Hh)
theorem rows_first (W Hh : Nat) : (rows W Hh).Pairwise fun a b => stp a ≤ stp b := sorted_first (fun _ => rfl) _
theorem rows_len {W Hh : Nat} (hW : W ≤ 8) (hH : Hh ≤ 8) : (rows W Hh).length ≤ 6561 := by
  unfold rows sortR
  rw [List.length_mergeSort]
  exact f1_len hW hH
structure FI (W Hh : Nat) (kvs : List (Pq × V)) (i : Nat) : Prop where
  keys : kvs.map (·.1) = (rows W Hh).take i
  vals : ∀ b v, look kvs b = some v → v = .str (Fk kvs b)
  vd : Vd W Hh (Fk kvs)
  adm : ∀ b ∈ (rows W Hh).take i, ltr (Fk kvs) b.1 (pen (walk (Fk kvs) b.1 b.2)) = Fk kvs b
theorem skew_of {W Hh : Nat} {b : Pq} (hb : b ∈ AllB W Hh) : Ok W Hh b.1 b.2 ∧ b.1.1 < b.2.1 ∧ b.1.2 ≠ b.2.2 := by
  unfold AllB at hb
  rcases List.mem_append.mp hb with h | h
  · have := rising_mem.mp h; exact ⟨⟨this.1, this.2.1, by omega⟩, this.2.2.1, by omega⟩
  · have := falling_mem.mp h; exact ⟨⟨this.1, this.2.1, by omega⟩, this.2.2.1, by omega⟩
section
variable {W Hh : Nat} {F G : Fn}
theorem walk_congr (v : Vd W Hh F) (v' : Vd W Hh G) {q : Pt} : ∀ (n : Nat) (p : Pt), dst p q = n → Ok W Hh p q → (∀ c, Ok W Hh c q → c.1 < q.1 → c.2 ≠ q.2 → (dst c q < n ∨ c = p) → F (c, q) = G (c, q)) → walk F p q = walk G p q
  | 0, p, h, o, _ => by
    have e := dst_zero h
    subst e
    rw [walk_end, walk_end]
  | n + 1, p, h, o, hh => by
    have hne : p ≠ q := fun e => by rw [e, dst_self] at h; cases h
    have e : nx F p q = nx G p q := by
      unfold nx ltr
      by_cases h1 : p.2 = q.2
      · rw [if_pos h1, if_pos h1]
      · by_cases h2 : p.1 = q.1
        · rw [if_neg h1, if_pos h2, if_neg h1, if_pos h2]
        · rw [if_neg h1, if_neg h2, if_neg h1, if_neg h2, hh p o (by have := o.le; omega) h1 (.inr rfl)]
    obtain ⟨o1, h1⟩ := o.nx v hne
    rw [ok_step v o hne, ok_step v' o hne, ← e, walk_congr v v' n _ (by omega) o1 fun c oc a b d => hh c oc a b (.inl (by
      rcases d with d | d
      · omega
      · rw [d]; omega))]
theorem ltr_congr {p q : Pt} (h : p.1 ≠ q.1 → p.2 ≠ q.2 → F (p, q) = G (p, q)) : ltr F p q = ltr G p q := by
  unfold ltr
  by_cases h1 : p.2 = q.2
  · rw [if_pos h1, if_pos h1]
  · by_cases h2 : p.1 = q.1
    · rw [if_neg h1, if_pos h2, if_neg h1, if_pos h2]
    · rw [if_neg h1, if_neg h2, if_neg h1, if_neg h2, h h2 h1]
end
theorem Fk_put {kvs : List (Pq × V)} {b c : Pq} {l : Str} : Fk (put kvs b (.str l)) c = if c = b then l else Fk kvs c := by
  unfold Fk
  rw [look_put]
  by_cases h : c = b
  · rw [if_pos h, if_pos h]
  · rw [if_neg h, if_neg h]
theorem steepS (p q : Pt) : steep p q = Str.ofString (if q.2 < p.2 then "S" else "N") := by unfold steep; split <;> rfl
theorem FI.nil (W Hh : Nat) : FI W Hh [] 0 := ⟨by simp, fun b v h => (by rw [look_nil] at h; cases h), fun p q _ _ _ _ => Or.inr (by unfold Fk; rw [look_nil]; exact steepS p q), fun b hb => (by simp at hb)⟩
theorem FI.has {W Hh : Nat} {kvs : List (Pq × V)} {i : Nat} (f : FI W Hh kvs i) {b : Pq} (h : b ∈ (rows W Hh).take i) : look kvs b = some (.str (Fk kvs b)) := by
  cases e : look kvs b with
  | none =>
    have := look_none.mp e
    rw [f.keys] at this
    exact absurd h this
  | some v => rw [f.vals b v e]
theorem FI.done {W Hh : Nat} {kvs : List (Pq × V)} {i : Nat} (f : FI W Hh kvs i) {b : Pq} (hi : (rows W Hh)[i]? = some b) {c : Pq} (hc : c ∈ AllB W Hh) (hd : dst c.1 c.2 < dst b.1 b.2) : c ∈ (rows W Hh).take i :=
  earlier (rows_first W Hh) hi (rows_mem.mpr hc) (by rw [stp_dst, stp_dst]; omega)
theorem FI.admTo {W Hh : Nat} {kvs : List (Pq × V)} {i : Nat} (f : FI W Hh kvs i) {b : Pq} (hi : (rows W Hh)[i]? = some b) {n : Nat} (hn : n < dst b.1 b.2) : AdmTo W Hh (Fk kvs) n := by
  refine adm_of f.vd fun p q o h1 h2 h3 => ?_
  have hm := f.done hi (c := (p, q)) (allB_mem o.bp o.bq h1 h2) (by simp only; omega)
  have := f.adm (p, q) hm
  unfold ltr at this ⊢
  rw [if_neg h2, if_neg (show ¬ p.1 = q.1 by omega)]
  exact this
theorem mvl_ok {W Hh : Nat} {p q : Pt} {l : Str} (o : Ok W Hh p q) (hx : p.1 < q.1) (hy : p.2 ≠ q.2) (hl : l = "E" ∨ l = steep p q) : Ok W Hh (mv p l) q ∧ dst (mv p l) q + 1 = dst p q := by
  have h1 := o.bp
  have h2 := o.bq
  rcases hl with rfl | rfl
  · rw [mv_E]
    refine ⟨⟨?_, h2, by simp only; omega⟩, by unfold dst; simp only; omega⟩
    unfold OnB at *
    simp only
    omega
  · obtain ⟨s1, s2⟩ := mv_steep hy
    refine ⟨⟨?_, h2, by omega⟩, by unfold dst; omega⟩
    unfold OnB at *
    omega
/-- a letter that may stand is set -/
theorem FI.next {W Hh : Nat} {kvs : List (Pq × V)} {i : Nat} (f : FI W Hh kvs i) {b : Pq} {l : Str} (hi : (rows W Hh)[i]? = some b) (hl : l = "E" ∨ l = steep b.1 b.2) (ha : admB (Fk kvs) b.1 b.2 l = true) : FI W Hh (put kvs b (.str l)) (i + 1) := by
  have hbm : b ∈ AllB W Hh := rows_mem.mp (List.mem_of_getElem? hi)
  obtain ⟨ob, hx, hy⟩ := skew_of hbm
  have hnot : b ∉ (rows W Hh).take i := by
    intro hm
    obtain ⟨j, hj, e⟩ := List.mem_iff_getElem.mp hm
    rw [List.getElem_take] at e
    obtain ⟨hi', e2⟩ := List.getElem?_eq_some_iff.mp hi
    rw [List.length_take] at hj
    have := List.pairwise_iff_getElem.mp (rows_nodup W Hh) j i (by omega) hi' (by omega)
    exact this (e.trans e2.symm)
  have hnk : b ∉ kvs.map (·.1) := by rw [f.keys]; exact hnot
  have ht : (rows W Hh).take (i + 1) = (rows W Hh).take i ++ [b] := by rw [List.take_add_one, hi]; rfl
  have vd' : Vd W Hh (Fk (put kvs b (.str l))) := by
    intro p q hp hq h1 h2
    rw [Fk_put]
    by_cases e : (p, q) = b
    · rw [if_pos e]
      subst e
      rw [← steepS]
      exact hl
    · rw [if_neg e]
      exact f.vd p q hp hq h1 h2
  have off : ∀ c, c ≠ b → Fk (put kvs b (.str l)) c = Fk kvs c := fun c h => by rw [Fk_put, if_neg h]
  have on : Fk (put kvs b (.str l)) b = l := by rw [Fk_put, if_pos rfl]
  have far : ∀ c : Pq, dst c.1 c.2 < dst b.1 b.2 → c ≠ b := fun c h e => by rw [e] at h; omega
  refine ⟨?_, fun c v h => ?_, vd', fun c hc => ?_⟩
  · rw [put_new hnk, List.map_append, f.keys, ht]
    rfl
  · rw [look_put] at h
    by_cases e : c = b
    · rw [if_pos e] at h
      rw [e, on]
      exact (Option.some.inj h).symm
    · rw [if_neg e] at h
      rw [off c e]
      exact f.vals c v h
  · rw [ht] at hc
    rcases List.mem_append.mp hc with hc | hc
    · have hcb : c ≠ b := fun e => hnot (e ▸ hc)
      obtain ⟨oc, cx, cy⟩ := skew_of (rows_mem.mp (List.mem_of_mem_take hc))
      have hle : dst c.1 c.2 ≤ dst b.1 b.2 := by
        obtain ⟨j, hj, e⟩ := List.mem_iff_getElem.mp hc
        rw [List.getElem_take] at e
        obtain ⟨hi', e2⟩ := List.getElem?_eq_some_iff.mp hi
        rw [List.length_take] at hj
        have := List.pairwise_iff_getElem.mp (rows_first W Hh) j i (by omega) hi' (by omega)
        rw [e, e2, stp_dst, stp_dst] at this
        omega
      have ew : walk (Fk (put kvs b (.str l))) c.1 c.2 = walk (Fk kvs) c.1 c.2 := walk_congr vd' f.vd _ c.1 rfl oc fun d _ _ _ hd => by
        refine off _ fun e => ?_
        rcases hd with hd | hd
        · subst e
          simp only at hle
          omega
        · subst hd
          exact hcb e
      rw [ew, off c hcb, ← f.adm c hc]
      refine ltr_congr fun _ _ => off _ fun e => ?_
      have hd1 : dst c.1 c.2 = (dst c.1 c.2 - 1) + 1 := by unfold dst; omega
      obtain ⟨bt, d1, _⟩ := pen_ok f.vd _ _ hd1 oc
      have := btw_dst bt
      subst e
      simp only at hle
      omega
    · have e := List.mem_singleton.mp hc
      subst e
      have hne : c.1 ≠ c.2 := fun e => by rw [e] at hx; omega
      obtain ⟨om, dm⟩ := mvl_ok ob hx hy hl
      have en : nx (Fk (put kvs c (.str l))) c.1 c.2 = mv c.1 l := by
        unfold nx ltr
        rw [if_neg hy, if_neg (show ¬ c.1.1 = c.2.1 by omega)]
        rw [show ((c.1, c.2) : Pq) = c from rfl, on]
      have ew : walk (Fk (put kvs c (.str l))) (mv c.1 l) c.2 = walk (Fk kvs) (mv c.1 l) c.2 := walk_congr vd' f.vd _ _ rfl om fun d _ _ _ hd => by
        refine off _ (far _ ?_)
        rcases hd with hd | hd
        · simp only; omega
        · rw [hd]; simp only; omega
      rw [on, ok_step vd' ob hne, en, ew]
      have ha' := of_decide_eq_true ha
      refine Eq.trans (ltr_congr fun _ _ => off _ (far _ ?_)) ha'
      have hl2 : (walk (Fk kvs) (mv c.1 l) c.2).length = dst (mv c.1 l) c.2 + 1 := len_of f.vd om
      have hd2 : 2 ≤ dst c.1 c.2 := by unfold dst; omega
      rw [pen_cons (by omega)]
      obtain ⟨bt, d1, _⟩ := pen_ok f.vd (dst (mv c.1 l) c.2 - 1) (mv c.1 l) (by omega) om
      have hb2 : Btw c.1 (pen (walk (Fk kvs) (mv c.1 l) c.2)) c.2 := by
        rcases hl with rfl | rfl
        · rw [mv_E] at bt ⊢; unfold Btw at *; simp only at bt; omega
        · obtain ⟨s1, s2⟩ := mv_steep hy
          unfold Btw at *; omega
      have := btw_dst hb2
      simp only
      omega
/-- there is a letter that may stand -/
theorem FI.some {W Hh : Nat} {kvs : List (Pq × V)} {i : Nat} (f : FI W Hh kvs i) {b : Pq} (hi : (rows W Hh)[i]? = some b) : admB (Fk kvs) b.1 b.2 "E" = true ∨ admB (Fk kvs) b.1 b.2 (steep b.1 b.2) = true := by
  have hbm : b ∈ AllB W Hh := rows_mem.mp (List.mem_of_getElem? hi)
  obtain ⟨ob, hx, hy⟩ := skew_of hbm
  have hd2 : 2 ≤ dst b.1 b.2 := by unfold dst; omega
  have key : ∀ l : Str, l = "E" ∨ l = steep b.1 b.2 → ltr (Fk kvs) b.1 (pen (walk (Fk kvs) (mv b.1 l) b.2)) = l → admB (Fk kvs) b.1 b.2 l = true := fun l hl h => by
    obtain ⟨om, dm⟩ := mvl_ok ob hx hy hl
    unfold admB
    rw [pen_cons (by rw [len_of f.vd om]; omega)]
    exact decide_eq_true h
  rcases one_stands f.vd ob hx hy (n := dst b.1 b.2 - 1) (by omega) (f.admTo hi (by omega)) with h | h
  · exact .inl (key _ (.inl rfl) h)
  · exact .inr (key _ (.inr rfl) h)
end Cp
end
section
namespace Cp
open PySem PySem.Spec PyProof.Rows L2
local macro_rules | `(tactic| walk_at "f") => `(tactic| first | assumption | (refine' keep_of ?_ (by assumption); walk_at "f") | (refine Cn.up ?_ (by assumption); walk_at "f") | (refine Pr.up ?_ (by assumption); walk_at "f") | (refine NTab.up ?_ (by assumption); walk_at "f") | (refine PlI.up ?_ (by assumption); walk_at "f") | (refine LsR.up (by first | exact trC | exact trP | exact trI | assumption) ?_ (by assumption); walk_at "f"))
local macro_rules | `(tactic| walk_at "sm") => `(tactic| first | exact Same.refl _ | assumption | (refine same_tr ?_ (by assumption); walk_at "sm"))
local macro_rules | `(tactic| walk_at "fr") => `(tactic| first | assumption | (refine nof ?_ (by assumption); walk_at "fr"))
local macro_rules | `(tactic| walk_at "s1") => `(tactic| first
  | with_reducible refine s_seq ?_ | with_reducible refine s_ret ?_ | with_reducible refine s_asg ?_ | with_reducible refine s_if ?_ | with_reducible refine s_next ?_ | with_reducible refine s_drop ?_
  | ((with_reducible refine' s_var ?h ?q); (case h => exact rfl)) | with_reducible refine s_c ?_ | with_reducible refine s_op ?_ | with_reducible refine s_I0 ?_
  | with_reducible refine s_eqI ?_ | with_reducible refine s_neI ?_ | with_reducible refine s_eqS ?_ | with_reducible refine s_neS ?_
  | with_reducible refine s_test ?_ | with_reducible refine s_tB ?_ | with_reducible refine s_bl ?_ | with_reducible refine s_and ?_ | with_reducible refine s_or ?_ | with_reducible refine s_not ?_ | with_reducible refine s_andV ?_ | with_reducible refine s_chain ?_
  | with_reducible refine s_cons ?_ | with_reducible refine s_nil ?_ | with_reducible refine s_tup ?_ | with_reducible refine s_lst ?_
  | with_reducible refine s_CB ?_ | with_reducible refine s_call ?_ | with_reducible refine s_gname ?_ | with_reducible refine s_gcons ?_ | with_reducible refine s_gnil ?_
  | ((with_reducible refine' s_gtup ?h ?e ?q); (case h => walk_at "f"); (case e => exact rfl))
  | ((with_reducible refine' s_ixT ?h ?e ?q); (case h => walk_at "f"); (case e => exact rfl))
  | (with_reducible refine s_BM ?_) | ((with_reducible refine s_new ?z ?q); (case z => exact rfl); intro p H1 hp hs hv))
local macro_rules | `(tactic| walk_at "s2") => `(tactic| first
  | walk_at "s1" | with_reducible refine iteF ?_ | with_reducible refine iteT ?_ | with_reducible refine iteNT ?_ | with_reducible refine iteNF ?_ | with_reducible refine u_tup ?_ | with_reducible refine u_lst ?_ | ((with_reducible refine u_newT ?z ?q); (case z => exact rfl); intro p H1 hp hs hv) | ((with_reducible refine u_newL ?z ?q); (case z => exact rfl); intro p H1 hp hs hv) | with_reducible refine s_min2 ?_ | ((with_reducible refine' s_aug ?h ?q); (case h => exact rfl)) | with_reducible refine s_ipI ?_ | with_reducible refine s_sl2 ?_ | with_reducible refine s_part ?_ | with_reducible refine u_part ?_ | with_reducible refine s_nopart ?_ | with_reducible refine s_rev ?_ | with_reducible refine s_un ?_ | with_reducible refine s_U ?_ | with_reducible refine s_gsub ?_ | ((with_reducible refine s_lenS ?z ?q); (case z => assumption)) | with_reducible refine s_rng1 ?_ | with_reducible refine s_rng2 ?_ | with_reducible refine s_list ?_ | with_reducible refine s_istr ?_ | with_reducible refine u_str ?_ | with_reducible refine s_for ?_ | with_reducible refine s_lc ?_ | with_reducible refine s_lc2 ?_ | with_reducible refine s_yes ?_ | with_reducible refine s_bm ?_ | with_reducible refine s_mth ?_ | with_reducible refine s_abs ?_ | with_reducible refine s_int1 ?_ | with_reducible refine s_nget ?_ | with_reducible refine s_fld ?_
  | ((with_reducible refine' s_lenL ?h ?q); (case h => walk_at "f"))
  | ((with_reducible refine' s_lenT ?h ?q); (case h => walk_at "f")))
local macro_rules | `(tactic| walk_at "go") => `(tactic| repeat walk_at "s2")
section
variable {P : Program} {w : World} {K : PySem.W.Frag} {mg : Str → Option Value} {base : Heap} {C : Addr}
def SR (_ : Hp) (v : V) (s : Str) : Prop := v = .str s
theorem trS : Tr SR := ⟨fun _ h => h⟩
theorem s_nin {κ : Type} [DecidableEq κ] {T : KT κ} {d : Addr} {kvs : List (κ × V)} {k : κ} {y : V} {H : Hp} {Q : VK} (h : NTab T P w H d kvs) (hk : T.is H y k) (q : Q (.bl (look kvs k).isSome) H) : rNIn T P w y (.ref d) H Q := ⟨d, kvs, k, rfl, h, hk, q⟩
theorem atI_pen {L : List Pt} (h : 2 ≤ L.length) : atI L (-2) = some (pen L) := by
  unfold atI ixN pen
  rw [if_neg (by decide), if_pos (by omega)]
  show L[(-2 + (L.length : Int)).toNat]? = _
  rw [show (-2 + (L.length : Int)).toNat = L.length - 2 by omega, List.getD_eq_getElem?_getD, List.getElem?_eq_getElem (by omega)]
  rfl
def spFill (P : Program) (w : World) : Sp := fun vs H Q _ => ∃ vb fd bd, ∃ W Hh : Nat, ∃ bits : List Int, vs = [vb, .ref fd, .ref bd] ∧ Cn H vb ((W : Int), (Hh : Int)) ∧ W ≤ 8 ∧ Hh ≤ 8 ∧ NTab kt2 P w H fd [] ∧ LsR In H bd bits ∧ 0 < bits.length ∧ bits.length ≤ 1000 ∧ (∀ b ∈ bits, b = 0 ∨ b = 1) ∧
  ∀ D H' kvs, H D = none → Same H H' → NTab kt2 P w H' D kvs → FI W Hh kvs (rows W Hh).length → Q (.ref D) H'
theorem sc_l_fill : FnScope ["_law_board_here", "_law_forced", "_law_bits_here", "_law_table", "_law_k", "_law_row", "_law_p", "_law_q", "_law_steep", "_law_options", "_law_letter_here", "_law_line_here"] ["_law_board_here", "_law_forced", "_law_bits_here"] (defScope s_l_fill) := ⟨rfl, rfl, rfl, by decide +kernel, rfl, by decide +kernel, by decide +kernel⟩
theorem c_l_fill (g : Gs mg) (c_l_pairs : Cal P w K mg base 1 "_law_pairs" ["_law_board_here"] spLPairs) (c_l_walk : Cal P w K mg base 2 "_law_walk" ["_law_table", "_law_p", "_law_q"] (spLWalk P w)) (c_l_moved : Cal P w K mg base 1 "_law_moved" ["_law_corner", "_law_letter_here"] spMoved) (c_l_letter : Cal P w K mg base 1 "_law_letter" ["_law_table", "_law_p", "_law_q"] (spLetter P w)) {f : Addr} (hm : mg "_law_fill" = some (.ref f)) (F : Fd K "_law_fill" "_law_fill" s_l_fill f) : Cal P w K mg base 3 "_law_fill" ["_law_board_here", "_law_forced", "_law_bits_here"] (spFill P w) := by
  refine Cal.mk' hm (fn_mk (k := 2) F sc_l_fill (fun _ _ _ _ _ _ us hl => match us, hl with | [_, _, _], _ => rfl) (fun vs H Q E h => ?_) (fun cdv A outer s H vs Q E hr h => ?_))
  · obtain ⟨_, _, _, _, _, _, rfl, _⟩ := h; rfl
  · obtain ⟨vb, fd, bd, W, Hh, bits, rfl, ⟨tb, rfl, hb⟩, hW, hH, hfd, hbd, hb0, hbz, hbit, k⟩ := h
    refine ⟨_, (pss_cons (ps_asg (pe_nnew kt2) (pg_name (i := 3) sc_l_fill.nd rfl (.inl rfl)))
      (pss_cons (ps_asg (pe_int) (pg_name (i := 4) sc_l_fill.nd rfl (.inl rfl)))
      (pss_cons (ps_for PassesOwn.never rfl (pi_list (pc c_l_pairs hr (pa_cons (pv 0) pa_nil))) (pg_name (i := 5) sc_l_fill.nd rfl (.inl rfl)) (pss_cons (ps_asg (pe_ix ix_tup (pv 5) (pe_int) (fun _ _ => rfl)) (pg_name (i := 6) sc_l_fill.nd rfl (.inl rfl)))
      (pss_cons (ps_asg (pe_ix ix_tup (pv 5) (pe_int) (fun _ _ => rfl)) (pg_name (i := 7) sc_l_fill.nd rfl (.inl rfl)))
      (pss_cons (ps_asg (pe_str) (pg_name (i := 8) sc_l_fill.nd rfl (.inl rfl)))
      (pss_cons (ps_if (pt_cmpR op_lt (pe_ix ix_tup (pv 7) (pe_int) (fun _ _ => rfl)) (pe_ix ix_tup (pv 6) (pe_int) (fun _ _ => rfl)) (nomark _)) (pss_one (ps_asg (pe_str) (pg_name (i := 8) sc_l_fill.nd rfl (.inl rfl)))) pss_nil)
      (pss_cons (ps_asg (pe_ulst pa_nil) (pg_name (i := 9) sc_l_fill.nd rfl (.inl rfl)))
      (pss_cons (ps_for PassesOwn.never rfl (pi_list (pe_ulst (pa_cons (pe_str) (pa_cons (pv 8) pa_nil)))) (pg_name (i := 10) sc_l_fill.nd rfl (.inl rfl)) (pss_cons (ps_asg (pe_op op_cat (pe_ulst (pa_cons (pv 6) pa_nil)) (pc c_l_walk hr (pa_cons (pv 3) (pa_cons (pc c_l_moved hr (pa_cons (pv 6) (pa_cons (pv 10) pa_nil))) (pa_cons (pv 7) pa_nil))))) (pg_name (i := 11) sc_l_fill.nd rfl (.inl rfl)))
      (pss_one (ps_if (pt_cmpR op_eq (pc c_l_letter hr (pa_cons (pv 3) (pa_cons (pv 6) (pa_cons (pe_ix ix_list (pv 11) (pe_un un_neg (pe_int)) (fun _ _ => rfl)) pa_nil)))) (pv 10) (nomark _)) (pss_one (ps_expr (pe_bm PySem.F.plainAttrs_list PySem.F.slot_list_append PySem.F.type_list_append mt_append (pv 9) (pa_cons (pv 10) pa_nil)))) pss_nil))))
      (pss_one (ps_if (pt_cmpR (or_nin kt2 hr.units) (pe_utup (pa_cons (pv 6) (pa_cons (pv 7) pa_nil))) (pv 1) (by with_unfolding_all rfl)) (pss_one (ps_asg (pe_nget kt2 hr.units (pv 1) (pe_utup (pa_cons (pv 6) (pa_cons (pv 7) pa_nil))) (fun _ _ => rfl)) (pg_sub (pv 3) (pe_utup (pa_cons (pv 6) (pa_cons (pv 7) pa_nil))) (set_n kt2 hr.units)))) (pss_one (ps_if (pt_cmpR op_eq (pe_callB cr_len (by rfl) g.len (by rfl) (pa_cons (pv 9) pa_nil)) (pe_int) (nomark _)) (pss_one (ps_asg (pe_ix ix_list (pv 9) (pe_int) (fun _ _ => rfl)) (pg_sub (pv 3) (pe_utup (pa_cons (pv 6) (pa_cons (pv 7) pa_nil))) (set_n kt2 hr.units)))) (pss_cons (ps_asg (pe_ix ix_list (pv 9) (pe_ix ix_list (pv 2) (pe_op op_modN (pv 4) (pe_callB cr_len (by rfl) g.len (by rfl) (pa_cons (pv 2) pa_nil))) (fun _ _ => rfl)) (fun _ _ => rfl)) (pg_sub (pv 3) (pe_utup (pa_cons (pv 6) (pa_cons (pv 7) pa_nil))) (set_n kt2 hr.units)))
      (pss_one (ps_asg (pe_op op_add (pv 4) (pe_int)) (pg_name (i := 4) sc_l_fill.nd rfl (.inl rfl))))))))))))))))
      (pss_one (ps_ret (pv 3)))))), ?_⟩
    have hrl := rows_len hW hH
    refine s_seq ?_
    refine s_asg ?_
    intro D H1 hD hs1 hnt
    walk_at "go"
    refine ⟨_, W, Hh, rfl, ⟨tb, rfl, by walk_at "f"⟩, hW, hH, fun p H2 hp hs2 hls => ?_⟩
    obtain ⟨xs, hx, _⟩ := id hls
    refine u_list hx ?_
    refine u_items (as := rows W Hh) (Rr := RwR) (fun i σ H3 => ∃ kvs, ∃ kk : Nat, ∃ a b c d e f g, σ = [some (.ref tb), some (.ref fd), some (.ref bd), some (.ref D), some (.int kk), a, b, c, d, e, f, g] ∧ LsR RwR H3 p (rows W Hh) ∧ NTab kt2 P w H3 D kvs ∧ FI W Hh kvs i ∧ Same H H3)
      ⟨[], 0, _, _, _, _, _, _, _, rfl, hls, hnt.up hs2, FI.nil W Hh, Same.trans hs1 hs2⟩ (fun i σ H3 _ h => by obtain ⟨_, _, _, _, _, _, _, _, _, _, h, _⟩ := h; exact h) (fun i bq x σ H3 hi hx h => ?_) (fun σ H3 h => ?_)
    · obtain ⟨kvs, kk, a, b, c, d, e, f, g', rfl, hls3, hD3, fi, s3⟩ := h
      obtain ⟨t, v1, v2, rfl, ht, ⟨t1, rfl, ht1⟩, ⟨t2, rfl, ht2⟩⟩ := hx
      have hbm : bq ∈ AllB W Hh := rows_mem.mp (List.mem_of_getElem? hi)
      obtain ⟨ob, hxx, hyy⟩ := skew_of hbm
      obtain ⟨p0, q0⟩ := bq
      simp only at ht ht1 ht2 ob hxx hyy
      have hd2 : 2 ≤ dst p0 q0 := by unfold dst; omega
      have hp3 : ∀ {H' : Hp}, Same H3 H' → Cn H' (.ref t1) p0 := fun s => ⟨t1, rfl, s _ _ ht1⟩
      have hq3 : ∀ {H' : Hp}, Same H3 H' → Cn H' (.ref t2) q0 := fun s => ⟨t2, rfl, s _ _ ht2⟩
      have eS : q0.2 < p0.2 → ("S" : Str) = steep p0 q0 := fun h => by unfold steep; rw [if_pos h]
      have eN : ¬ q0.2 < p0.2 → ("N" : Str) = steep p0 q0 := fun h => by unfold steep; rw [if_neg h]
      walk_at "go"
      refine ite3 (fun h1 => ?_) (fun h1 => ?_)
      · refine s_asg ?_
        refine s_c ?_
        rw [eS h1]
        walk_at "go"
        rename_i ol H4 ho4 hs4 hm4 l2 H5 hl5 hs5 hm5
        refine u_list hm5 ?_
        have hm5' : LsR SR H5 l2 [("E" : Str), steep p0 q0] := ⟨_, hm5, .cons rfl (.cons rfl .nil)⟩
        have hol2 : l2 ≠ ol := fun z => by rw [z] at hl5; rw [hm4] at hl5; cases hl5
        have B5 : Bld SR H3 H5 ol (([("E" : Str), steep p0 q0].take 0).filter (admB (Fk kvs) p0 q0)) := (Bld.new (Same.refl _) ho4 hs4 hm4).up trS hs5
        refine u_items (Rr := SR) (as := [("E" : Str), steep p0 q0]) (fun j σ H6 => ∃ a10 a11, σ = [some (.ref tb), some (.ref fd), some (.ref bd), some (.ref D), some (.int kk), some (.ref t), some (.ref t1), some (.ref t2), some (.str (steep p0 q0)), some (.ref ol), a10, a11] ∧ Bld SR H3 H6 ol (([("E" : Str), steep p0 q0].take j).filter (admB (Fk kvs) p0 q0)) ∧ LsR SR H6 l2 [("E" : Str), steep p0 q0]) ⟨_, _, rfl, B5, hm5'⟩ (fun j σ H6 _ h => by obtain ⟨_, _, _, _, h⟩ := h; exact h) (fun j c y σ H6 hj hy h => ?_) (fun σ H6 h => ?_)
        · obtain ⟨a10, a11, rfl, B6, hl6⟩ := h
          obtain rfl : y = V.str c := hy
          have hcl : c = "E" ∨ c = steep p0 q0 := by
            have := List.mem_of_getElem? hj
            rcases List.mem_cons.mp this with h | h
            · exact .inl h
            · exact .inr (List.mem_singleton.mp h)
          obtain ⟨om, dm⟩ := mvl_ok ob hxx hyy hcl
          have hD6 := hD3.up B6.same
          have hft : ([("E" : Str), steep p0 q0].take (j + 1)).filter (admB (Fk kvs) p0 q0) = ([("E" : Str), steep p0 q0].take j).filter (admB (Fk kvs) p0 q0) ++ [c].filter (admB (Fk kvs) p0 q0) := by
            rw [List.take_add_one, hj, List.filter_append]
            rfl
          walk_at "go"
          rename_i l6 H7 hl7 hs7 hm7
          have s37 : Same H3 H7 := Same.trans B6.same hs7
          refine ⟨.ref t1, p0, c, rfl, hp3 s37, fun r H8 hr8 hs8 hm8 => ?_⟩
          walk_at "go"
          have s38 : Same H3 H8 := Same.trans s37 hs8
          refine ⟨D, .ref r, .ref t2, mv p0 c, q0, W, Hh, Fk kvs, kvs, rfl, hD3.up s38, fi.vd, hW, hH, ⟨r, rfl, hm8⟩, hq3 s38, om.bp, om.bq, om.le, fun d bd1 bd2 bd3 bd4 => ?_, fun r2 H9 hr9 hs9 hm9 => ?_⟩
          · exact fi.has (fi.done hi (c := (d, q0)) (allB_mem bd1 ob.bq bd2 bd3) (by simp only; omega))
          have s39 : Same H3 H9 := Same.trans s38 hs9
          have hlw : (walk (Fk kvs) (mv p0 c) q0).length = dst (mv p0 c) q0 + 1 := len_of fi.vd om
          have hdl : dst (mv p0 c) q0 ≤ 16 := by
            have g1 := om.bp
            have g2 := om.bq
            unfold OnB at g1 g2
            unfold dst
            omega
          refine u_cat trC (as := [p0]) ⟨_, (hs9 _ _ (hs8 _ _ hm7)), .cons (hp3 s39) .nil⟩ hm9 (by rw [List.length_singleton, hlw]; omega) fun r3 H10 hr10 hs10 hm10 => ?_
          have s310 : Same H3 H10 := Same.trans s39 hs10
          have hpl : 2 ≤ (walk (Fk kvs) (mv p0 c) q0).length := by rw [hlw]; omega
          walk_at "go"
          refine u_ixL (a := pen (p0 :: walk (Fk kvs) (mv p0 c) q0)) hm10 (atI_pen (by rw [List.length_append, List.length_singleton]; omega)) fun ve hve => ?_
          walk_at "go"
          obtain ⟨bt, d1, _⟩ := pen_ok fi.vd (dst (mv p0 c) q0 - 1) (mv p0 c) (by omega) om
          have hpen : pen (p0 :: walk (Fk kvs) (mv p0 c) q0) = pen (walk (Fk kvs) (mv p0 c) q0) := pen_cons hpl
          have hbt : Btw p0 (pen (walk (Fk kvs) (mv p0 c) q0)) q0 := by
            rcases hcl with e | e
            · rw [e, mv_E] at bt ⊢; unfold Btw at *; simp only at bt; omega
            · obtain ⟨s1, s2⟩ := mv_steep hyy
              rw [e] at bt ⊢
              unfold Btw at *; omega
          have hbd := btw_dst hbt
          refine ⟨D, .ref t1, ve, p0, pen (p0 :: walk (Fk kvs) (mv p0 c) q0), Fk kvs, kvs, rfl, hD3.up s310, hp3 s310, hve, fun e1 e2 => ?_, fun H11 hs11 => ?_⟩
          · rw [hpen] at e1 e2 ⊢
            have := hbt
            exact fi.has (fi.done hi (c := (p0, _)) (allB_mem ob.bp (btw_onB ob hbt) (by unfold Btw at this; omega) e1) (by simp only; omega))
          have s311 : Same H3 H11 := Same.trans s310 hs11
          have s611 : Same H6 H11 := Same.trans hs7 (Same.trans hs8 (Same.trans hs9 (Same.trans hs10 hs11)))
          have B11 := B6.up trS s611
          obtain ⟨ys, hys, _⟩ := id B11.ls
          walk_at "go"
          refine ite3 (fun h2 => ?_) (fun h2 => ?_)
          · have ha : admB (Fk kvs) p0 q0 c = true := decide_eq_true h2
            walk_at "go"
            refine u_bmL hys ?_
            walk_at "go"
            refine u_append trS B11 (a := c) rfl (by
              have := List.length_filter_le (admB (Fk kvs) p0 q0) ([("E" : Str), steep p0 q0].take j)
              rw [List.length_take] at this
              have e2 : ([("E" : Str), steep p0 q0] : List Str).length = 2 := rfl
              omega) fun H12 bu12 B12 _ => ?_
            refine ⟨_, _, rfl, ?_, (hl6.up trS s611).up2 trS (bu12.tup hys fun _ z => by cases z) fun xs e => bu12 _ _ hol2 e⟩
            rw [hft]
            simp only [List.filter, ha]
            exact B12
          · have ha : admB (Fk kvs) p0 q0 c = false := decide_eq_false h2
            walk_at "go"
            refine ⟨_, _, rfl, ?_, hl6.up trS s611⟩
            rw [hft]
            simp only [List.filter, ha, List.append_nil]
            exact B11
        obtain ⟨a10, a11, rfl, B6, hl6⟩ := h
        have e2 : ([("E" : Str), steep p0 q0].take ([("E" : Str), steep p0 q0] : List Str).length).filter (admB (Fk kvs) p0 q0) = ([("E" : Str), steep p0 q0] : List Str).filter (admB (Fk kvs) p0 q0) := by rw [List.take_length]
        rw [e2] at B6
        have hD6 := hD3.up B6.same
        have hsome := fi.some hi
        generalize hopt : ([("E" : Str), steep p0 q0] : List Str).filter (admB (Fk kvs) p0 q0) = op at *
        have hom : ∀ l ∈ op, (l = "E" ∨ l = steep p0 q0) ∧ admB (Fk kvs) p0 q0 l = true := fun l hl => by
          rw [← hopt] at hl
          obtain ⟨h1, h2⟩ := List.mem_filter.mp hl
          refine ⟨?_, h2⟩
          rcases List.mem_cons.mp h1 with h | h
          · exact .inl h
          · exact .inr (List.mem_singleton.mp h)
        have hol : op.length ≤ 2 := by rw [← hopt]; exact List.length_filter_le _ _
        have ho1 : 0 < op.length := by
          rcases hsome with h | h
          · exact List.length_pos_of_mem (show ("E" : Str) ∈ op by rw [← hopt]; exact List.mem_filter.mpr ⟨List.mem_cons_self, h⟩)
          · exact List.length_pos_of_mem (show steep p0 q0 ∈ op by rw [← hopt]; exact List.mem_filter.mpr ⟨List.mem_cons_of_mem _ List.mem_cons_self, h⟩)
        have hkl : kvs.length ≤ 6561 := by
          have := congrArg List.length fi.keys
          rw [List.length_map, List.length_take] at this
          omega
        walk_at "go"
        rename_i t9 H9 ht9 hs9 hm9
        refine s_nin ((hfd.up s3).up (Same.trans B6.same hs9)) (k := (p0, q0)) ⟨_, _, _, rfl, hm9, hp3 (Same.trans B6.same hs9), hq3 (Same.trans B6.same hs9)⟩ ?_
        walk_at "go"
        rw [look_nil]
        show if false = true then _ else _
        walk_at "go"
        refine u_len (B6.ls.up trS hs9) ?_
        walk_at "go"
        have s39 : Same H3 H9 := Same.trans B6.same hs9
        refine ite3 (fun h2 => ?_) (fun h2 => ?_)
        · have e0 : op[0]? = some op[0] := List.getElem?_eq_getElem _
          obtain ⟨hm1, hm2⟩ := hom op[0] (List.getElem_mem _)
          walk_at "go"
          refine u_ixL (a := op[0]) (i := 0) (B6.ls.up trS hs9) (atI_nat (j := 0) e0) fun vl hvl => ?_
          obtain rfl : vl = V.str op[0] := hvl
          walk_at "go"
          rename_i t10 H10 ht10 hs10 hm10
          have s310 := Same.trans s39 hs10
          refine u_nset (k := (p0, q0)) (kvs := kvs) (hD3.up s310) (by omega) ⟨_, _, _, rfl, hm10, hp3 s310, hq3 s310⟩ fun H11 nt11 bu11 _ => ?_
          refine ⟨_, kk, _, _, _, _, _, _, _, rfl, LsR.but trR (hls3.up trR s310) (hD3.up s310) bu11, nt11, fi.next hi hm1 hm2, But.same bu11 (Same.trans s3 s310) hD⟩
        · have hop2 : op.length = 2 := by omega
          walk_at "go"
          refine u_len (hbd.up trI (Same.trans s3 s39)) ?_
          refine s_I (by show ((bits.length : Nat) : Int) ≠ 0; omega) ?_
          walk_at "go"
          have g1 := fmod_lo (a := ((kk : Nat) : Int)) (b := ((bits.length : Nat) : Int)) (by omega)
          have g2 := fmod_hi (a := ((kk : Nat) : Int)) (b := ((bits.length : Nat) : Int)) (by omega)
          generalize ((kk : Nat) : Int).fmod ((bits.length : Nat) : Int) = mm at g1 g2
          obtain ⟨mn, rfl⟩ : ∃ mn : Nat, mm = mn := ⟨mm.toNat, by omega⟩
          have eb : bits[mn]? = some (bits[mn]'(by omega)) := List.getElem?_eq_getElem _
          have hbb := hbit _ (List.getElem_mem (h := (by omega : mn < bits.length)))
          generalize bits[mn]'(by omega) = bv at eb hbb
          refine u_ixL (a := bv) (hbd.up trI (Same.trans s3 s39)) (atI_nat eb) fun vb2 hvb2 => ?_
          obtain rfl : vb2 = V.int bv := hvb2
          obtain ⟨bn, rfl, hbn⟩ : ∃ bn : Nat, bv = bn ∧ bn < 2 := by
            rcases hbb with h | h
            · exact ⟨0, h, by omega⟩
            · exact ⟨1, h, by omega⟩
          have eo : op[bn]? = some (op[bn]'(by omega)) := List.getElem?_eq_getElem _
          obtain ⟨hm1, hm2⟩ := hom (op[bn]'(by omega)) (List.getElem_mem _)
          generalize op[bn]'(by omega) = lv at eo hm1 hm2
          refine u_ixL (a := lv) (B6.ls.up trS hs9) (atI_nat eo) fun vl hvl => ?_
          obtain rfl : vl = V.str lv := hvl
          walk_at "go"
          rename_i t10 H10 ht10 hs10 hm10
          have s310 := Same.trans s39 hs10
          refine u_nset (k := (p0, q0)) (kvs := kvs) (hD3.up s310) (by omega) ⟨_, _, _, rfl, hm10, hp3 s310, hq3 s310⟩ fun H11 nt11 bu11 _ => ?_
          walk_at "go"
          refine ⟨_, kk + 1, _, _, _, _, _, _, _, rfl, LsR.but trR (hls3.up trR s310) (hD3.up s310) bu11, nt11, fi.next hi hm1 hm2, But.same bu11 (Same.trans s3 s310) hD⟩
      · rw [eN h1]
        walk_at "go"
        rename_i ol H4 ho4 hs4 hm4 l2 H5 hl5 hs5 hm5
        refine u_list hm5 ?_
        have hm5' : LsR SR H5 l2 [("E" : Str), steep p0 q0] := ⟨_, hm5, .cons rfl (.cons rfl .nil)⟩
        have hol2 : l2 ≠ ol := fun z => by rw [z] at hl5; rw [hm4] at hl5; cases hl5
        have B5 : Bld SR H3 H5 ol (([("E" : Str), steep p0 q0].take 0).filter (admB (Fk kvs) p0 q0)) := (Bld.new (Same.refl _) ho4 hs4 hm4).up trS hs5
        refine u_items (Rr := SR) (as := [("E" : Str), steep p0 q0]) (fun j σ H6 => ∃ a10 a11, σ = [some (.ref tb), some (.ref fd), some (.ref bd), some (.ref D), some (.int kk), some (.ref t), some (.ref t1), some (.ref t2), some (.str (steep p0 q0)), some (.ref ol), a10, a11] ∧ Bld SR H3 H6 ol (([("E" : Str), steep p0 q0].take j).filter (admB (Fk kvs) p0 q0)) ∧ LsR SR H6 l2 [("E" : Str), steep p0 q0]) ⟨_, _, rfl, B5, hm5'⟩ (fun j σ H6 _ h => by obtain ⟨_, _, _, _, h⟩ := h; exact h) (fun j c y σ H6 hj hy h => ?_) (fun σ H6 h => ?_)
        · obtain ⟨a10, a11, rfl, B6, hl6⟩ := h
          obtain rfl : y = V.str c := hy
          have hcl : c = "E" ∨ c = steep p0 q0 := by
            have := List.mem_of_getElem? hj
            rcases List.mem_cons.mp this with h | h
            · exact .inl h
            · exact .inr (List.mem_singleton.mp h)
          obtain ⟨om, dm⟩ := mvl_ok ob hxx hyy hcl
          have hD6 := hD3.up B6.same
          have hft : ([("E" : Str), steep p0 q0].take (j + 1)).filter (admB (Fk kvs) p0 q0) = ([("E" : Str), steep p0 q0].take j).filter (admB (Fk kvs) p0 q0) ++ [c].filter (admB (Fk kvs) p0 q0) := by
            rw [List.take_add_one, hj, List.filter_append]
            rfl
          walk_at "go"
          rename_i l6 H7 hl7 hs7 hm7
          have s37 : Same H3 H7 := Same.trans B6.same hs7
          refine ⟨.ref t1, p0, c, rfl, hp3 s37, fun r H8 hr8 hs8 hm8 => ?_⟩
          walk_at "go"
          have s38 : Same H3 H8 := Same.trans s37 hs8
          refine ⟨D, .ref r, .ref t2, mv p0 c, q0, W, Hh, Fk kvs, kvs, rfl, hD3.up s38, fi.vd, hW, hH, ⟨r, rfl, hm8⟩, hq3 s38, om.bp, om.bq, om.le, fun d bd1 bd2 bd3 bd4 => ?_, fun r2 H9 hr9 hs9 hm9 => ?_⟩
          · exact fi.has (fi.done hi (c := (d, q0)) (allB_mem bd1 ob.bq bd2 bd3) (by simp only; omega))
          have s39 : Same H3 H9 := Same.trans s38 hs9
          have hlw : (walk (Fk kvs) (mv p0 c) q0).length = dst (mv p0 c) q0 + 1 := len_of fi.vd om
          have hdl : dst (mv p0 c) q0 ≤ 16 := by
            have g1 := om.bp
            have g2 := om.bq
            unfold OnB at g1 g2
            unfold dst
            omega
          refine u_cat trC (as := [p0]) ⟨_, (hs9 _ _ (hs8 _ _ hm7)), .cons (hp3 s39) .nil⟩ hm9 (by rw [List.length_singleton, hlw]; omega) fun r3 H10 hr10 hs10 hm10 => ?_
          have s310 : Same H3 H10 := Same.trans s39 hs10
          have hpl : 2 ≤ (walk (Fk kvs) (mv p0 c) q0).length := by rw [hlw]; omega
          walk_at "go"
          refine u_ixL (a := pen (p0 :: walk (Fk kvs) (mv p0 c) q0)) hm10 (atI_pen (by rw [List.length_append, List.length_singleton]; omega)) fun ve hve => ?_
          walk_at "go"
          obtain ⟨bt, d1, _⟩ := pen_ok fi.vd (dst (mv p0 c) q0 - 1) (mv p0 c) (by omega) om
          have hpen : pen (p0 :: walk (Fk kvs) (mv p0 c) q0) = pen (walk (Fk kvs) (mv p0 c) q0) := pen_cons hpl
          have hbt : Btw p0 (pen (walk (Fk kvs) (mv p0 c) q0)) q0 := by
            rcases hcl with e | e
            · rw [e, mv_E] at bt ⊢; unfold Btw at *; simp only at bt; omega
            · obtain ⟨s1, s2⟩ := mv_steep hyy
              rw [e] at bt ⊢
              unfold Btw at *; omega
          have hbd := btw_dst hbt
          refine ⟨D, .ref t1, ve, p0, pen (p0 :: walk (Fk kvs) (mv p0 c) q0), Fk kvs, kvs, rfl, hD3.up s310, hp3 s310, hve, fun e1 e2 => ?_, fun H11 hs11 => ?_⟩
          · rw [hpen] at e1 e2 ⊢
            have := hbt
            exact fi.has (fi.done hi (c := (p0, _)) (allB_mem ob.bp (btw_onB ob hbt) (by unfold Btw at this; omega) e1) (by simp only; omega))
          have s311 : Same H3 H11 := Same.trans s310 hs11
          have s611 : Same H6 H11 := Same.trans hs7 (Same.trans hs8 (Same.trans hs9 (Same.trans hs10 hs11)))
          have B11 := B6.up trS s611
          obtain ⟨ys, hys, _⟩ := id B11.ls
          walk_at "go"
          refine ite3 (fun h2 => ?_) (fun h2 => ?_)
          · have ha : admB (Fk kvs) p0 q0 c = true := decide_eq_true h2
            walk_at "go"
            refine u_bmL hys ?_
            walk_at "go"
            refine u_append trS B11 (a := c) rfl (by
              have := List.length_filter_le (admB (Fk kvs) p0 q0) ([("E" : Str), steep p0 q0].take j)
              rw [List.length_take] at this
              have e2 : ([("E" : Str), steep p0 q0] : List Str).length = 2 := rfl
              omega) fun H12 bu12 B12 _ => ?_
            refine ⟨_, _, rfl, ?_, (hl6.up trS s611).up2 trS (bu12.tup hys fun _ z => by cases z) fun xs e => bu12 _ _ hol2 e⟩
            rw [hft]
            simp only [List.filter, ha]
            exact B12
          · have ha : admB (Fk kvs) p0 q0 c = false := decide_eq_false h2
            walk_at "go"
            refine ⟨_, _, rfl, ?_, hl6.up trS s611⟩
            rw [hft]
            simp only [List.filter, ha, List.append_nil]
            exact B11
        obtain ⟨a10, a11, rfl, B6, hl6⟩ := h
        have e2 : ([("E" : Str), steep p0 q0].take ([("E" : Str), steep p0 q0] : List Str).length).filter (admB (Fk kvs) p0 q0) = ([("E" : Str), steep p0 q0] : List Str).filter (admB (Fk kvs) p0 q0) := by rw [List.take_length]
        rw [e2] at B6
        have hD6 := hD3.up B6.same
        have hsome := fi.some hi
        generalize hopt : ([("E" : Str), steep p0 q0] : List Str).filter (admB (Fk kvs) p0 q0) = op at *
        have hom : ∀ l ∈ op, (l = "E" ∨ l = steep p0 q0) ∧ admB (Fk kvs) p0 q0 l = true := fun l hl => by
          rw [← hopt] at hl
          obtain ⟨h1, h2⟩ := List.mem_filter.mp hl
          refine ⟨?_, h2⟩
          rcases List.mem_cons.mp h1 with h | h
          · exact .inl h
          · exact .inr (List.mem_singleton.mp h)
        have hol : op.length ≤ 2 := by rw [← hopt]; exact List.length_filter_le _ _
        have ho1 : 0 < op.length := by
          rcases hsome with h | h
          · exact List.length_pos_of_mem (show ("E" : Str) ∈ op by rw [← hopt]; exact List.mem_filter.mpr ⟨List.mem_cons_self, h⟩)
          · exact List.length_pos_of_mem (show steep p0 q0 ∈ op by rw [← hopt]; exact List.mem_filter.mpr ⟨List.mem_cons_of_mem _ List.mem_cons_self, h⟩)
        have hkl : kvs.length ≤ 6561 := by
          have := congrArg List.length fi.keys
          rw [List.length_map, List.length_take] at this
          omega
        walk_at "go"
        rename_i t9 H9 ht9 hs9 hm9
        refine s_nin ((hfd.up s3).up (Same.trans B6.same hs9)) (k := (p0, q0)) ⟨_, _, _, rfl, hm9, hp3 (Same.trans B6.same hs9), hq3 (Same.trans B6.same hs9)⟩ ?_
        walk_at "go"
        rw [look_nil]
        show if false = true then _ else _
        walk_at "go"
        refine u_len (B6.ls.up trS hs9) ?_
        walk_at "go"
        have s39 : Same H3 H9 := Same.trans B6.same hs9
        refine ite3 (fun h2 => ?_) (fun h2 => ?_)
        · have e0 : op[0]? = some op[0] := List.getElem?_eq_getElem _
          obtain ⟨hm1, hm2⟩ := hom op[0] (List.getElem_mem _)
          walk_at "go"
          refine u_ixL (a := op[0]) (i := 0) (B6.ls.up trS hs9) (atI_nat (j := 0) e0) fun vl hvl => ?_
          obtain rfl : vl = V.str op[0] := hvl
          walk_at "go"
          rename_i t10 H10 ht10 hs10 hm10
          have s310 := Same.trans s39 hs10
          refine u_nset (k := (p0, q0)) (kvs := kvs) (hD3.up s310) (by omega) ⟨_, _, _, rfl, hm10, hp3 s310, hq3 s310⟩ fun H11 nt11 bu11 _ => ?_
          refine ⟨_, kk, _, _, _, _, _, _, _, rfl, LsR.but trR (hls3.up trR s310) (hD3.up s310) bu11, nt11, fi.next hi hm1 hm2, But.same bu11 (Same.trans s3 s310) hD⟩
        · have hop2 : op.length = 2 := by omega
          walk_at "go"
          refine u_len (hbd.up trI (Same.trans s3 s39)) ?_
          refine s_I (by show ((bits.length : Nat) : Int) ≠ 0; omega) ?_
          walk_at "go"
          have g1 := fmod_lo (a := ((kk : Nat) : Int)) (b := ((bits.length : Nat) : Int)) (by omega)
          have g2 := fmod_hi (a := ((kk : Nat) : Int)) (b := ((bits.length : Nat) : Int)) (by omega)
          generalize ((kk : Nat) : Int).fmod ((bits.length : Nat) : Int) = mm at g1 g2
          obtain ⟨mn, rfl⟩ : ∃ mn : Nat, mm = mn := ⟨mm.toNat, by omega⟩
          have eb : bits[mn]? = some (bits[mn]'(by omega)) := List.getElem?_eq_getElem _
          have hbb := hbit _ (List.getElem_mem (h := (by omega : mn < bits.length)))
          generalize bits[mn]'(by omega) = bv at eb hbb
          refine u_ixL (a := bv) (hbd.up trI (Same.trans s3 s39)) (atI_nat eb) fun vb2 hvb2 => ?_
          obtain rfl : vb2 = V.int bv := hvb2
          obtain ⟨bn, rfl, hbn⟩ : ∃ bn : Nat, bv = bn ∧ bn < 2 := by
            rcases hbb with h | h
            · exact ⟨0, h, by omega⟩
            · exact ⟨1, h, by omega⟩
          have eo : op[bn]? = some (op[bn]'(by omega)) := List.getElem?_eq_getElem _
          obtain ⟨hm1, hm2⟩ := hom (op[bn]'(by omega)) (List.getElem_mem _)
          generalize op[bn]'(by omega) = lv at eo hm1 hm2
          refine u_ixL (a := lv) (B6.ls.up trS hs9) (atI_nat eo) fun vl hvl => ?_
          obtain rfl : vl = V.str lv := hvl
          walk_at "go"
          rename_i t10 H10 ht10 hs10 hm10
          have s310 := Same.trans s39 hs10
          refine u_nset (k := (p0, q0)) (kvs := kvs) (hD3.up s310) (by omega) ⟨_, _, _, rfl, hm10, hp3 s310, hq3 s310⟩ fun H11 nt11 bu11 _ => ?_
          walk_at "go"
          refine ⟨_, kk + 1, _, _, _, _, _, _, _, rfl, LsR.but trR (hls3.up trR s310) (hD3.up s310) bu11, nt11, fi.next hi hm1 hm2, But.same bu11 (Same.trans s3 s310) hD⟩
    · obtain ⟨kvs, kk, a, b, c, d, e, f, g', rfl, hls3, hD3, fi, s3⟩ := h
      walk_at "go"
      exact k D H3 kvs hD s3 hD3 fi
end
end Cp
end
section
namespace Cp
open PySem PySem.Spec PyProof.Rows L2
local macro_rules | `(tactic| walk_at "f") => `(tactic| first | assumption | (refine' keep_of ?_ (by assumption); walk_at "f") | (refine Cn.up ?_ (by assumption); walk_at "f") | (refine Pr.up ?_ (by assumption); walk_at "f") | (refine NTab.up ?_ (by assumption); walk_at "f") | (refine PlI.up ?_ (by assumption); walk_at "f") | (refine LsR.up (by first | exact trC | exact trP | exact trI | assumption) ?_ (by assumption); walk_at "f"))
local macro_rules | `(tactic| walk_at "sm") => `(tactic| first | exact Same.refl _ | assumption | (refine same_tr ?_ (by assumption); walk_at "sm"))
local macro_rules | `(tactic| walk_at "fr") => `(tactic| first | assumption | (refine nof ?_ (by assumption); walk_at "fr"))
local macro_rules | `(tactic| walk_at "s1") => `(tactic| first
  | with_reducible refine s_seq ?_ | with_reducible refine s_ret ?_ | with_reducible refine s_asg ?_ | with_reducible refine s_if ?_ | with_reducible refine s_next ?_ | with_reducible refine s_drop ?_
  | ((with_reducible refine' s_var ?h ?q); (case h => exact rfl)) | with_reducible refine s_c ?_ | with_reducible refine s_op ?_ | with_reducible refine s_I0 ?_
  | with_reducible refine s_eqI ?_ | with_reducible refine s_neI ?_ | with_reducible refine s_eqS ?_ | with_reducible refine s_neS ?_
  | with_reducible refine s_test ?_ | with_reducible refine s_tB ?_ | with_reducible refine s_bl ?_ | with_reducible refine s_and ?_ | with_reducible refine s_or ?_ | with_reducible refine s_not ?_ | with_reducible refine s_andV ?_ | with_reducible refine s_chain ?_
  | with_reducible refine s_cons ?_ | with_reducible refine s_nil ?_ | with_reducible refine s_tup ?_ | with_reducible refine s_lst ?_
  | with_reducible refine s_CB ?_ | with_reducible refine s_call ?_ | with_reducible refine s_gname ?_ | with_reducible refine s_gcons ?_ | with_reducible refine s_gnil ?_
  | ((with_reducible refine' s_gtup ?h ?e ?q); (case h => walk_at "f"); (case e => exact rfl))
  | ((with_reducible refine' s_ixT ?h ?e ?q); (case h => walk_at "f"); (case e => exact rfl))
  | (with_reducible refine s_BM ?_) | ((with_reducible refine s_new ?z ?q); (case z => exact rfl); intro p H1 hp hs hv))
local macro_rules | `(tactic| walk_at "s2") => `(tactic| first
  | walk_at "s1" | with_reducible refine iteF ?_ | with_reducible refine iteT ?_ | with_reducible refine iteNT ?_ | with_reducible refine iteNF ?_ | with_reducible refine u_tup ?_ | with_reducible refine u_lst ?_ | ((with_reducible refine u_newT ?z ?q); (case z => exact rfl); intro p H1 hp hs hv) | ((with_reducible refine u_newL ?z ?q); (case z => exact rfl); intro p H1 hp hs hv) | with_reducible refine s_min2 ?_ | ((with_reducible refine' s_aug ?h ?q); (case h => exact rfl)) | with_reducible refine s_ipI ?_ | with_reducible refine s_sl2 ?_ | with_reducible refine s_part ?_ | with_reducible refine u_part ?_ | with_reducible refine s_nopart ?_ | with_reducible refine s_rev ?_ | with_reducible refine s_un ?_ | with_reducible refine s_U ?_ | with_reducible refine s_gsub ?_ | ((with_reducible refine s_lenS ?z ?q); (case z => assumption)) | with_reducible refine s_rng1 ?_ | with_reducible refine s_rng2 ?_ | with_reducible refine s_list ?_ | with_reducible refine s_istr ?_ | with_reducible refine u_str ?_ | with_reducible refine s_for ?_ | with_reducible refine s_lc ?_ | with_reducible refine s_lc2 ?_ | with_reducible refine s_yes ?_ | with_reducible refine s_bm ?_ | with_reducible refine s_mth ?_ | with_reducible refine s_abs ?_ | with_reducible refine s_int1 ?_ | with_reducible refine s_nget ?_ | with_reducible refine s_fld ?_
  | ((with_reducible refine' s_lenL ?h ?q); (case h => walk_at "f"))
  | ((with_reducible refine' s_lenT ?h ?q); (case h => walk_at "f")))
local macro_rules | `(tactic| walk_at "go") => `(tactic| repeat walk_at "s2")
section
variable {P : Program} {w : World} {K : PySem.W.Frag} {mg : Str → Option Value} {base : Heap} {C : Addr}
theorem u_isi {H : Hp} {Q : VK} {x : V} {T c : String} {b : Bool} (ty : TyX K H x (.type T)) (e : PySem.W.kitOne K (.type T) (.type c) = some b) (q : Q (.bl b) H) : rIsi K [x, .ty c] H Q := ⟨x, .ty c, .type T, .type c, b, rfl, .ty c, ty, e, q⟩
theorem s_notV {σ : L2.St} {H : Hp} {ta : TE} {Q : VK} (h : ta σ H fun x H1 => ∃ c, x = .bl c ∧ Q (.bl (!c)) H1) : tNotV ta σ H Q := h
theorem isi_ii {H : Hp} {Q : VK} {n : Int} (q : Q (.bl true) H) : rIsi K [.int n, .ty "int"] H Q := u_isi (T := "int") (.base (.int n)) (kit_ty (by decide +kernel)) q
theorem isi_ib {H : Hp} {Q : VK} {n : Int} (q : Q (.bl false) H) : rIsi K [.int n, .ty "bool"] H Q := u_isi (T := "int") (.base (.int n)) (kit_ty (by decide +kernel)) q
theorem isi_bb {H : Hp} {Q : VK} {b : Bool} (q : Q (.bl true) H) : rIsi K [.bl b, .ty "bool"] H Q := u_isi (T := "bool") (.base (.bl b)) (kit_ty (by decide +kernel)) q
theorem isi_tt {H : Hp} {Q : VK} {a : Addr} {xs : List V} (h : H a = some (.tup xs)) (q : Q (.bl true) H) : rIsi K [.ref a, .ty "tuple"] H Q := u_isi (T := "tuple") (.base (.tup h)) (kit_ty (by decide +kernel)) q
theorem isi_ll {H : Hp} {Q : VK} {a : Addr} {xs : List V} (h : H a = some (.lst xs)) (q : Q (.bl true) H) : rIsi K [.ref a, .ty "list"] H Q := u_isi (T := "list") (.base (.lst h)) (kit_ty (by decide +kernel)) q
def spIsI : Sp := fun vs H Q _ => ∃ n : Int, vs = [.int n] ∧ Q (.bl true) H
theorem sc_l_is_integer : FnScope ["_law_told"] ["_law_told"] (defScope s_l_is_integer) := ⟨rfl, rfl, rfl, by decide +kernel, rfl, by decide +kernel, by decide +kernel⟩
theorem c_l_is_integer (g : Gs mg)  {f : Addr} (hm : mg "_law_is_integer" = some (.ref f)) (F : Fd K "_law_is_integer" "_law_is_integer" s_l_is_integer f) : Cal P w K mg base 1 "_law_is_integer" ["_law_told"] spIsI := by
  refine Cal.mk' hm (fn_mk (k := 0) F sc_l_is_integer (fun _ _ _ _ _ _ us hl => match us, hl with | [_], _ => rfl) (fun vs H Q E h => ?_) (fun cdv A outer s H vs Q E hr h => ?_))
  · obtain ⟨_, rfl, _⟩ := h; rfl
  · obtain ⟨n, rfl, k⟩ := h
    refine ⟨_, (pss_one (ps_ret (pe_and (pe_callB call_isi (by rfl) g.isinstance (by rfl) (pa_cons (pv 0) (pa_cons (pe_bltn (v := .ty "int") (by rfl) g.int (by rfl) rfl) pa_nil))) (pe_one (pe_not (pe_callB call_isi (by rfl) g.isinstance (by rfl) (pa_cons (pv 0) (pa_cons (pe_bltn (v := .ty "bool") (by rfl) g.bool (by rfl) rfl) pa_nil)))))))), ?_⟩
    walk_at "go"
    refine isi_ii ?_
    walk_at "go"
    refine s_notV ?_
    walk_at "go"
    refine isi_ib ?_
    walk_at "go"
    exact k
def spIsC : Sp := fun vs H Q _ => ∃ v c, vs = [v] ∧ Cn H v c ∧ Q (.bl true) H
theorem sc_l_is_corner : FnScope ["_law_told"] ["_law_told"] (defScope s_l_is_corner) := ⟨rfl, rfl, rfl, by decide +kernel, rfl, by decide +kernel, by decide +kernel⟩
theorem c_l_is_corner (g : Gs mg) (c_l_is_integer : Cal P w K mg base 1 "_law_is_integer" ["_law_told"] spIsI) {f : Addr} (hm : mg "_law_is_corner" = some (.ref f)) (F : Fd K "_law_is_corner" "_law_is_corner" s_l_is_corner f) : Cal P w K mg base 2 "_law_is_corner" ["_law_told"] spIsC := by
  refine Cal.mk' hm (fn_mk (k := 1) F sc_l_is_corner (fun _ _ _ _ _ _ us hl => match us, hl with | [_], _ => rfl) (fun vs H Q E h => ?_) (fun cdv A outer s H vs Q E hr h => ?_))
  · obtain ⟨_, _, rfl, _⟩ := h; rfl
  · obtain ⟨v, c, rfl, ⟨t, rfl, ht⟩, k⟩ := h
    refine ⟨_, (pss_one (ps_ret (pe_and (pe_callB call_isi (by rfl) g.isinstance (by rfl) (pa_cons (pv 0) (pa_cons (pe_bltn (v := .ty "tuple") (by rfl) g.tuple (by rfl) rfl) pa_nil))) (pe_and (pe_cmpR op_eq (pe_callB cr_len (by rfl) g.len (by rfl) (pa_cons (pv 0) pa_nil)) (pe_int) (nomark _)) (pe_and (pc c_l_is_integer hr (pa_cons (pe_ix ix_tup (pv 0) (pe_int) (fun _ _ => rfl)) pa_nil)) (pe_one (pc c_l_is_integer hr (pa_cons (pe_ix ix_tup (pv 0) (pe_int) (fun _ _ => rfl)) pa_nil)))))))), ?_⟩
    walk_at "go"
    refine isi_tt ht ?_
    walk_at "go"
    refine ite3 (fun _ => ?_) (fun h => absurd rfl h)
    walk_at "go"
    refine ⟨_, rfl, ?_⟩
    walk_at "go"
    refine ⟨_, rfl, ?_⟩
    exact k
def spIsR : Sp := fun vs H Q _ => ∃ p q cs, vs = [.ref p, .ref q] ∧ LsR Cn H p cs ∧ LsR Cn H q cs ∧ cs.length ≤ 1000 ∧ Q (.bl true) H
theorem sc_l_is_row : FnScope ["_law_told", "_law_wanted", "_law_k"] ["_law_told", "_law_wanted"] (defScope s_l_is_row) := ⟨rfl, rfl, rfl, by decide +kernel, rfl, by decide +kernel, by decide +kernel⟩
theorem c_l_is_row (g : Gs mg) (c_l_is_corner : Cal P w K mg base 2 "_law_is_corner" ["_law_told"] spIsC) {f : Addr} (hm : mg "_law_is_row" = some (.ref f)) (F : Fd K "_law_is_row" "_law_is_row" s_l_is_row f) : Cal P w K mg base 3 "_law_is_row" ["_law_told", "_law_wanted"] spIsR := by
  refine Cal.mk' hm (fn_mk (k := 2) F sc_l_is_row (fun _ _ _ _ _ _ us hl => match us, hl with | [_, _], _ => rfl) (fun vs H Q E h => ?_) (fun cdv A outer s H vs Q E hr h => ?_))
  · obtain ⟨_, _, _, rfl, _⟩ := h; rfl
  · obtain ⟨p, q, cs, rfl, hp, hq, hz, k⟩ := h
    refine ⟨_, (pss_cons (ps_if (PW.pt (pw_or (pt_not (pt_val (pe_callB call_isi (by rfl) g.isinstance (by rfl) (pa_cons (pv 0) (pa_cons (pe_bltn (v := .ty "list") (by rfl) g.list (by rfl) rfl) pa_nil))))) (pw_or1 (pt_cmpR op_ne (pe_callB cr_len (by rfl) g.len (by rfl) (pa_cons (pv 0) pa_nil)) (pe_callB cr_len (by rfl) g.len (by rfl) (pa_cons (pv 1) pa_nil)) (nomark _))))) (pss_one (ps_ret (pe_bl))) pss_nil)
      (pss_cons (ps_for PassesOwn.never rfl (pi_range1 (by rfl) g.range (pa_cons (pe_callB cr_len (by rfl) g.len (by rfl) (pa_cons (pv 1) pa_nil)) pa_nil)) (pg_name (i := 2) sc_l_is_row.nd rfl (.inl rfl)) (pss_one (ps_if (PW.pt (pw_or (pt_not (pt_val (pc c_l_is_corner hr (pa_cons (pe_ix ix_list (pv 0) (pv 2) (fun _ _ => rfl)) pa_nil)))) (pw_or1 (pt_cmpR (op_neD hr.units) (pe_ix ix_list (pv 0) (pv 2) (fun _ _ => rfl)) (pe_ix ix_list (pv 1) (pv 2) (fun _ _ => rfl)) (nomark _))))) (pss_one (ps_ret (pe_bl))) pss_nil)))
      (pss_one (ps_ret (pe_bl))))), ?_⟩
    obtain ⟨xs, hx, _⟩ := id hp
    walk_at "go"
    refine isi_ll hx ?_
    walk_at "go"
    refine u_len hq ?_
    walk_at "go"
    have hxl : xs.length = cs.length := by
      obtain ⟨ys, hy, q⟩ := hp
      rw [hx] at hy
      cases hy
      exact Paired.length q
    refine ite3n (fun h => absurd (by rw [hxl]) h) (fun _ => ?_)
    walk_at "go"
    refine u_len hq ?_
    walk_at "go"
    refine u_rng1 (by omega) (by omega) ?_
    refine u_range (fun i σ H2 => ∃ a, σ = [some (.ref p), some (.ref q), a] ∧ H2 = H) ⟨_, rfl, rfl⟩ (fun i σ H2 hi h => ?_) (fun σ H2 h => ?_)
    · obtain ⟨a, rfl, rfl⟩ := h
      have hi' : i < cs.length := by omega
      have ec : cs[i]? = some cs[i] := List.getElem?_eq_getElem _
      have ei : atI cs ((0 : Int) + (i : Int)) = some cs[i] := by rw [Int.zero_add]; exact atI_nat ec
      walk_at "go"
      refine u_ixL (a := cs[i]) hp ei fun v hv => ?_
      walk_at "go"
      refine ⟨v, _, rfl, hv, ?_⟩
      refine ⟨true, rfl, ?_⟩
      walk_at "go"
      refine u_ixL (a := cs[i]) hp ei fun v2 hv2 => ?_
      walk_at "go"
      refine u_ixL (a := cs[i]) hq ei fun v3 hv3 => ?_
      refine u_neC hv2 hv3 ?_
      walk_at "go"
      refine ite3n (fun h => absurd rfl h) (fun _ => ?_)
      walk_at "go"
      exact ⟨_, rfl, rfl⟩
    · obtain ⟨a, rfl, rfl⟩ := h
      walk_at "go"
      exact k
def spIsLn (P : Program) (w : World) : Sp := fun vs H Q _ => ∃ d p, ∃ W Hh : Nat, ∃ F : Fn, ∃ kvs row c0 c1, vs = [.ref d, .ref p] ∧ NTab kt2 P w H d kvs ∧ Vd W Hh F ∧ W ≤ 8 ∧ Hh ≤ 8 ∧ (∀ b ∈ AllB W Hh, look kvs b = some (.str (F b))) ∧ LsR Cn H p row ∧ row[0]? = some c0 ∧ atI row (-1) = some c1 ∧ OnB W Hh c0 ∧ OnB W Hh c1 ∧ ∀ H', Same H H' → Q (.bl (decide (row = line F c0 c1))) H'
theorem line_len {W Hh : Nat} {F : Fn} (v : Vd W Hh F) {p q : Pt} (hp : OnB W Hh p) (hq : OnB W Hh q) : (line F p q).length = dst p q + 1 := by
  unfold line
  cases h : ltP q p with
  | true =>
    rw [if_pos rfl, List.length_reverse, len_of v ⟨hq, hp, ltP_le h⟩, dst_symm]
  | false =>
    rw [if_neg Bool.false_ne_true, len_of v ⟨hp, hq, ltP_not h⟩]
theorem sc_l_is_line : FnScope ["_law_table", "_law_row", "_law_p", "_law_q"] ["_law_table", "_law_row"] (defScope s_l_is_line) := ⟨rfl, rfl, rfl, by decide +kernel, rfl, by decide +kernel, by decide +kernel⟩
theorem c_l_is_line (g : Gs mg) (c_l_line : Cal P w K mg base 3 "_law_line" ["_law_table", "_law_p", "_law_q"] (spLLine P w)) {f : Addr} (hm : mg "_law_is_line" = some (.ref f)) (F : Fd K "_law_is_line" "_law_is_line" s_l_is_line f) : Cal P w K mg base 4 "_law_is_line" ["_law_table", "_law_row"] (spIsLn P w) := by
  refine Cal.mk' hm (fn_mk (k := 3) F sc_l_is_line (fun _ _ _ _ _ _ us hl => match us, hl with | [_, _], _ => rfl) (fun vs H Q E h => ?_) (fun cdv A outer s H vs Q E hr h => ?_))
  · obtain ⟨_, _, _, _, _, _, _, _, _, rfl, _⟩ := h; rfl
  · obtain ⟨d, p, W, Hh, F, kvs, row, c0, c1, rfl, hd, vd, hW, hH, hl, hp, e0, e1, b0, b1, k⟩ := h
    refine ⟨_, (pss_cons (ps_asg (pe_ix ix_list (pv 1) (pe_int) (fun _ _ => rfl)) (pg_name (i := 2) sc_l_is_line.nd rfl (.inl rfl)))
      (pss_cons (ps_asg (pe_ix ix_list (pv 1) (pe_un un_neg (pe_int)) (fun _ _ => rfl)) (pg_name (i := 3) sc_l_is_line.nd rfl (.inl rfl)))
      (pss_cons (ps_if (pt_cmpR op_ne (pe_op op_add (pe_callB cr_abs (by rfl) g.abs (by rfl) (pa_cons (pe_op op_sub (pe_ix ix_tup (pv 2) (pe_int) (fun _ _ => rfl)) (pe_ix ix_tup (pv 3) (pe_int) (fun _ _ => rfl))) pa_nil)) (pe_callB cr_abs (by rfl) g.abs (by rfl) (pa_cons (pe_op op_sub (pe_ix ix_tup (pv 2) (pe_int) (fun _ _ => rfl)) (pe_ix ix_tup (pv 3) (pe_int) (fun _ _ => rfl))) pa_nil))) (pe_op op_sub (pe_callB cr_len (by rfl) g.len (by rfl) (pa_cons (pv 1) pa_nil)) (pe_int)) (nomark _)) (pss_one (ps_ret (pe_bl))) pss_nil)
      (pss_one (ps_ret (pe_cmpR (op_eqD hr.units) (pv 1) (pc c_l_line hr (pa_cons (pv 0) (pa_cons (pv 2) (pa_cons (pv 3) pa_nil)))) (nomark _))))))), ?_⟩
    walk_at "go"
    refine u_ixL (a := c0) (i := 0) hp (atI_nat (j := 0) e0) fun v0 hv0 => ?_
    walk_at "go"
    refine u_ixL (a := c1) hp e1 fun v1 hv1 => ?_
    obtain ⟨t0, rfl, ht0⟩ := hv0
    obtain ⟨t1, rfl, ht1⟩ := hv1
    walk_at "go"
    refine u_len hp ?_
    walk_at "go"
    have hll := line_len vd b0 b1
    refine ite3n (fun h1 => ?_) (fun h1 => ?_)
    · walk_at "go"
      have e : row ≠ line F c0 c1 := fun e => by
        rw [e, hll] at h1
        unfold dst at h1
        omega
      have := k H (Same.refl _)
      rw [decide_eq_false e] at this
      exact this
    · walk_at "go"
      refine ⟨d, _, _, c0, c1, W, Hh, F, kvs, rfl, hd, vd, hW, hH, ⟨t0, rfl, ht0⟩, ⟨t1, rfl, ht1⟩, b0, b1, hl, fun r H2 hr hs2 hm2 => ?_⟩
      refine u_eqL (hp.up trC hs2) hm2 ?_
      exact k H2 hs2
end
end Cp
end
section
namespace Cp
open PySem PySem.Spec PyProof.Rows L2
local macro_rules | `(tactic| walk_at "f") => `(tactic| first | assumption | (refine' keep_of ?_ (by assumption); walk_at "f") | (refine Cn.up ?_ (by assumption); walk_at "f") | (refine Pr.up ?_ (by assumption); walk_at "f") | (refine NTab.up ?_ (by assumption); walk_at "f") | (refine PlI.up ?_ (by assumption); walk_at "f") | (refine LsR.up (by first | exact trC | exact trP | exact trI | assumption) ?_ (by assumption); walk_at "f"))
local macro_rules | `(tactic| walk_at "sm") => `(tactic| first | exact Same.refl _ | assumption | (refine same_tr ?_ (by assumption); walk_at "sm"))
local macro_rules | `(tactic| walk_at "fr") => `(tactic| first | assumption | (refine nof ?_ (by assumption); walk_at "fr"))
local macro_rules | `(tactic| walk_at "s1") => `(tactic| first
  | with_reducible refine s_seq ?_ | with_reducible refine s_ret ?_ | with_reducible refine s_asg ?_ | with_reducible refine s_if ?_ | with_reducible refine s_next ?_ | with_reducible refine s_drop ?_
  | ((with_reducible refine' s_var ?h ?q); (case h => exact rfl)) | with_reducible refine s_c ?_ | with_reducible refine s_op ?_ | with_reducible refine s_I0 ?_
  | with_reducible refine s_eqI ?_ | with_reducible refine s_neI ?_ | with_reducible refine s_eqS ?_ | with_reducible refine s_neS ?_
  | with_reducible refine s_test ?_ | with_reducible refine s_tB ?_ | with_reducible refine s_bl ?_ | with_reducible refine s_and ?_ | with_reducible refine s_or ?_ | with_reducible refine s_not ?_ | with_reducible refine s_andV ?_ | with_reducible refine s_chain ?_
  | with_reducible refine s_cons ?_ | with_reducible refine s_nil ?_ | with_reducible refine s_tup ?_ | with_reducible refine s_lst ?_
  | with_reducible refine s_CB ?_ | with_reducible refine s_call ?_ | with_reducible refine s_gname ?_ | with_reducible refine s_gcons ?_ | with_reducible refine s_gnil ?_
  | ((with_reducible refine' s_gtup ?h ?e ?q); (case h => walk_at "f"); (case e => exact rfl))
  | ((with_reducible refine' s_ixT ?h ?e ?q); (case h => walk_at "f"); (case e => exact rfl))
  | (with_reducible refine s_BM ?_) | ((with_reducible refine s_new ?z ?q); (case z => exact rfl); intro p H1 hp hs hv))
local macro_rules | `(tactic| walk_at "s2") => `(tactic| first
  | walk_at "s1" | with_reducible refine iteF ?_ | with_reducible refine iteT ?_ | with_reducible refine iteNT ?_ | with_reducible refine iteNF ?_ | with_reducible refine u_tup ?_ | with_reducible refine u_lst ?_ | ((with_reducible refine u_newT ?z ?q); (case z => exact rfl); intro p H1 hp hs hv) | ((with_reducible refine u_newL ?z ?q); (case z => exact rfl); intro p H1 hp hs hv) | with_reducible refine s_min2 ?_ | ((with_reducible refine' s_aug ?h ?q); (case h => exact rfl)) | with_reducible refine s_ipI ?_ | with_reducible refine s_sl2 ?_ | with_reducible refine s_part ?_ | with_reducible refine u_part ?_ | with_reducible refine s_nopart ?_ | with_reducible refine s_rev ?_ | with_reducible refine s_un ?_ | with_reducible refine s_U ?_ | with_reducible refine s_gsub ?_ | ((with_reducible refine s_lenS ?z ?q); (case z => assumption)) | with_reducible refine s_rng1 ?_ | with_reducible refine s_rng2 ?_ | with_reducible refine s_list ?_ | with_reducible refine s_istr ?_ | with_reducible refine u_str ?_ | with_reducible refine s_for ?_ | with_reducible refine s_lc ?_ | with_reducible refine s_lc2 ?_ | with_reducible refine s_yes ?_ | with_reducible refine s_bm ?_ | with_reducible refine s_mth ?_ | with_reducible refine s_abs ?_ | with_reducible refine s_int1 ?_ | with_reducible refine s_nget ?_ | with_reducible refine s_fld ?_
  | ((with_reducible refine' s_lenL ?h ?q); (case h => walk_at "f"))
  | ((with_reducible refine' s_lenT ?h ?q); (case h => walk_at "f")))
local macro_rules | `(tactic| walk_at "go") => `(tactic| repeat walk_at "s2")
section
variable {P : Program} {w : World} {K : PySem.W.Frag} {mg : Str → Option Value} {base : Heap} {C : Addr}
/-- a list of lists -/
def LLR {α : Type} (R : Hp → V → α → Prop) (H : Hp) (p : Addr) (xss : List (List α)) : Prop := ∃ as : List Addr, H p = some (.lst (as.map V.ref)) ∧ Paired (fun a xs => LsR R H a xs) as xss ∧ ∀ a ∈ as, a ≠ p
theorem LLR.up {α : Type} {R : Hp → V → α → Prop} {H H' : Hp} {p : Addr} {xss : List (List α)} (t : Tr R) (h : LLR R H p xss) (s : Same H H') : LLR R H' p xss := by
  obtain ⟨as, e, q, n⟩ := h
  exact ⟨as, s _ _ e, Paired.mono (fun a b r => r.up t s) q, n⟩
theorem paired_mem {α β : Type} {F G : α → β → Prop} : ∀ {l : List α} {m : List β}, Paired F l m → (∀ a ∈ l, ∀ b, F a b → G a b) → Paired G l m
  | _, _, .nil, _ => .nil
  | _, _, .cons r t, h => .cons (h _ List.mem_cons_self _ r) (paired_mem t fun a ha => h a (List.mem_cons_of_mem _ ha))
/-- an append of a list -/
theorem u_appendLL {α : Type} {R : Hp → V → α → Prop} {H : Hp} {Q : VK} {p a : Addr} {xss : List (List α)} {xs : List α} (t : Tr R) (h : LLR R H p xss) (ha : LsR R H a xs) (hn : a ≠ p) (hl : xss.length < 100000) (q : ∀ H1, But p H H1 → LLR R H1 p (xss ++ [xs]) → (∀ b, H1 b = none → H b = none) → Q .non H1) : rAppend (.ref p) [.ref a] H Q := by
  obtain ⟨as, e, pr, n⟩ := h
  have hx := Paired.length pr
  refine s_append e (by rw [List.length_map]; omega) fun H1 h1 h2 h3 => q H1 h1 ⟨as ++ [a], by rw [h2, List.map_append]; rfl, ?_, fun b hb => ?_⟩ h3
  · have bt : TupK H H1 := But.tup (p := p) h1 e fun _ z => by cases z
    refine Paired.snoc (paired_mem pr fun b hb xs r => r.up2 t bt fun ys e => h1 _ _ (n b hb) e) (ha.up2 t bt fun ys e => h1 _ _ hn e)
  · rcases List.mem_append.mp hb with hb | hb
    · exact n b hb
    · rw [List.mem_singleton.mp hb]; exact hn
theorem u_ixLL {α : Type} {R : Hp → V → α → Prop} {H : Hp} {Q : VK} {p : Addr} {xss : List (List α)} {i : Int} {xs : List α} (h : LLR R H p xss) (e : atI xss i = some xs) (q : ∀ a, LsR R H a xs → a ≠ p → Q (.ref a) H) : rIxL K (.ref p) (.int i) H Q := by
  obtain ⟨as, hx, pr, n⟩ := h
  obtain ⟨a, ha, r⟩ := paired_atI pr e
  have hm : atI (as.map V.ref) i = some (V.ref a) := by
    unfold atI at *
    rw [List.length_map]
    cases e2 : ixN as.length i with
    | none => rw [e2] at ha; cases ha
    | some j =>
      rw [e2] at ha
      show (as.map V.ref)[j]? = _
      rw [List.getElem?_map]
      have : as[j]? = some a := ha
      rw [this]
      rfl
  have ham : a ∈ as := by
    unfold atI at ha
    cases e2 : ixN as.length i with
    | none => rw [e2] at ha; cases ha
    | some j => rw [e2] at ha; exact List.mem_of_getElem? (show as[j]? = some a from ha)
  exact ⟨p, _, i, _, rfl, rfl, SqL.of hx, hm, q a r (n a ham)⟩
theorem u_lenLL {α : Type} {R : Hp → V → α → Prop} {H : Hp} {Q : VK} {p : Addr} {xss : List (List α)} (h : LLR R H p xss) (q : Q (.int xss.length) H) : rLenQ K [V.ref p] H Q := by
  obtain ⟨as, hx, pr, n⟩ := h
  refine s_lenL hx ?_
  rw [List.length_map, Paired.length pr]; exact q
def reachA (L : Nat → Nat → Bool) (n most a : Nat) : List Int := (rgI ((a : Int) + 1) ((min n (a + most) : Nat) + 1)).filter fun b => L a b.toNat
def reachL (L : Nat → Nat → Bool) (n most : Nat) : List (List Int) := (List.range n).map (reachA L n most)
theorem reachA_mem {L : Nat → Nat → Bool} {n most a : Nat} {b : Int} : b ∈ reachA L n most a ↔ (a : Int) + 1 ≤ b ∧ b ≤ n ∧ b ≤ a + most ∧ L a b.toNat = true := by
  unfold reachA
  rw [List.mem_filter, rgI_mem]
  constructor
  · rintro ⟨h1, h2⟩
    refine ⟨by omega, by omega, by omega, h2⟩
  · rintro ⟨h1, h2, h3, h4⟩
    exact ⟨⟨by omega, by omega⟩, h4⟩
theorem reachL_at {L : Nat → Nat → Bool} {n most a : Nat} (h : a < n) : (reachL L n most)[a]? = some (reachA L n most a) := by
  unfold reachL
  rw [List.getElem?_map, List.getElem?_range h]
  rfl
theorem reachL_len (L : Nat → Nat → Bool) (n most : Nat) : (reachL L n most).length = n := by unfold reachL; simp
def spReach (P : Program) (w : World) : Sp := fun vs H Q _ => ∃ d p, ∃ most W Hh : Nat, ∃ F : Fn, ∃ kvs cs, vs = [.ref d, .ref p, .int most] ∧ NTab kt2 P w H d kvs ∧ Vd W Hh F ∧ W ≤ 8 ∧ Hh ≤ 8 ∧ (∀ b ∈ AllB W Hh, look kvs b = some (.str (F b))) ∧ LsR Cn H p cs ∧ (∀ c ∈ cs, OnB W Hh c) ∧ 0 < cs.length ∧ cs.length ≤ 1000 ∧ most ≤ 100 ∧ ∀ r H', H r = none → Same H H' → LLR In H' r (reachL (Ln F (clo cs)) cs.length most) → Q (.ref r) H'
theorem sc_l_reach : FnScope ["_law_table", "_law_loop", "_law_most", "_law_corners", "_law_reach_here", "_law_a", "_law_last", "_law_b"] ["_law_table", "_law_loop", "_law_most"] (defScope s_l_reach) := ⟨rfl, rfl, rfl, by decide +kernel, rfl, by decide +kernel, by decide +kernel⟩
theorem c_l_reach (g : Gs mg) (c_l_is_line : Cal P w K mg base 4 "_law_is_line" ["_law_table", "_law_row"] (spIsLn P w)) {f : Addr} (hm : mg "_law_reach" = some (.ref f)) (F : Fd K "_law_reach" "_law_reach" s_l_reach f) : Cal P w K mg base 5 "_law_reach" ["_law_table", "_law_loop", "_law_most"] (spReach P w) := by
  refine Cal.mk' hm (fn_mk (k := 4) F sc_l_reach (fun _ _ _ _ _ _ us hl => match us, hl with | [_, _, _], _ => rfl) (fun vs H Q E h => ?_) (fun cdv A outer s H vs Q E hr h => ?_))
  · obtain ⟨_, _, _, _, _, _, _, _, rfl, _⟩ := h; rfl
  · obtain ⟨d, p, most, W, Hh, F, kvs, cs, rfl, hd, vd, hW, hH, hl, hp, hon, h0, hz, hmo, k⟩ := h
    refine ⟨_, (pss_cons (ps_asg (pe_op op_cat (pv 1) (pe_ulst (pa_cons (pe_ix ix_list (pv 1) (pe_int) (fun _ _ => rfl)) pa_nil))) (pg_name (i := 3) sc_l_reach.nd rfl (.inr rfl)))
      (pss_cons (ps_asg (pe_ulst pa_nil) (pg_name (i := 4) sc_l_reach.nd rfl (.inl rfl)))
      (pss_cons (ps_for PassesOwn.never rfl (pi_range1 (by rfl) g.range (pa_cons (pe_callB cr_len (by rfl) g.len (by rfl) (pa_cons (pv 1) pa_nil)) pa_nil)) (pg_name (i := 5) sc_l_reach.nd rfl (.inr rfl)) (pss_cons (ps_asg (pe_callB (cr_min2 rfl) (by rfl) g.min (by rfl) (pa_cons (pe_callB cr_len (by rfl) g.len (by rfl) (pa_cons (pv 1) pa_nil)) (pa_cons (pe_op op_add (pv 5) (pv 2)) pa_nil))) (pg_name (i := 6) sc_l_reach.nd rfl (.inl rfl)))
      (pss_one (ps_expr (pe_bm PySem.F.plainAttrs_list PySem.F.slot_list_append PySem.F.type_list_append mt_append (pv 4) (pa_cons (pe_lc (own := [("_law_b", 7)]) (g := gName 7) rfl sc_l_reach.nd (pi_range2 (by rfl) g.range (pa_cons (pe_op op_add (pv 5) (pe_int)) (pa_cons (pe_op op_add (pv 6) (pe_int)) pa_nil))) (blkOk_by (own := [("_law_b", 7)]) (N := ["_law_table", "_law_loop", "_law_most", "_law_corners", "_law_reach_here", "_law_a", "_law_last", "_law_b"]) (sc := defScope s_l_reach) (by decide +kernel)) (fun _ _ _ _ _ => pg_name (i := 7) sc_l_reach.nd rfl (Or.inl rfl)) (fun _ _ _ _ _ => pts_one (pt_val (pc c_l_is_line hr (pa_cons (pv 0) (pa_cons (pe_slice (r := rSlL K) sl_list (pv 3) (po_some (pv 5)) (po_some (pe_op op_add (pv 7) (pe_int)))) pa_nil))))) (fun _ _ _ _ _ => pv 7)) pa_nil))))))
      (pss_one (ps_ret (pv 4)))))), ?_⟩
    have e0 : cs[0]? = some cs[0] := List.getElem?_eq_getElem _
    walk_at "go"
    refine u_ixL (a := cs[0]) (i := 0) hp (atI_nat (j := 0) e0) fun v0 hv0 => ?_
    walk_at "go"
    rename_i l2 H2 hl2 hs2 hm2
    refine u_cat trC (hp.up trC hs2) ⟨_, hm2, .cons (hv0.up hs2) .nil⟩ (by simp; omega) fun q H3 hq hs3 hm3 => ?_
    have hclo : cs ++ [cs[0]] = clo cs := by unfold clo; rw [getD_of e0]
    rw [hclo] at hm3
    have hcl : (clo cs).length = cs.length + 1 := by unfold clo; simp
    have honc : ∀ c ∈ clo cs, OnB W Hh c := fun c hc => by
      unfold clo at hc
      rcases List.mem_append.mp hc with h | h
      · exact hon c h
      · rw [List.mem_singleton.mp h, getD_of e0]; exact hon _ (List.getElem_mem _)
    have s03 : Same H H3 := Same.trans hs2 hs3
    walk_at "go"
    rename_i r H4 hr4 hs4 hm4
    have hrH : H r = none := nof hr4 s03
    have hqr : q ≠ r := fun z => by
      obtain ⟨xs, hx, _⟩ := hm3
      rw [z, hr4] at hx; cases hx
    refine u_len ((hp.up trC s03).up trC hs4) ?_
    walk_at "go"
    refine u_rng1 (by omega) (by omega) ?_
    generalize hL : Ln F (clo cs) = L at k
    refine u_range (fun i σ H5 => ∃ a b c, σ = [some (.ref d), some (.ref p), some (.int most), some (.ref q), some (.ref r), a, b, c] ∧ Same H H5 ∧ LsR Cn H5 q (clo cs) ∧ LLR In H5 r ((reachL L cs.length most).take i)) ⟨_, _, _, rfl, Same.trans s03 hs4, hm3.up trC hs4, [], hm4, by simp; exact .nil, fun a ha => by cases ha⟩ (fun i σ H5 hi h => ?_) (fun σ H5 h => ?_)
    · obtain ⟨a, b, c, rfl, s5, hq5, hr5⟩ := h
      have hi' : i < cs.length := by omega
      walk_at "go"
      refine u_len (hp.up trC s5) ?_
      walk_at "go"
      obtain ⟨as5, hx5, pr5, n5⟩ := id hr5
      refine u_bmL hx5 ?_
      walk_at "go"
      have emin : (if (0 : Int) + (i : Int) + (most : Int) < (cs.length : Int) then (0 : Int) + (i : Int) + (most : Int) else (cs.length : Int)) = ((min cs.length (i + most) : Nat) : Int) := by split <;> omega
      rw [emin]
      have ezi : (0 : Int) + (i : Int) = (i : Int) := by omega
      rw [ezi]
      walk_at "go"
      refine u_rng2 (by omega) (by omega) (by omega) (by omega) ?_
      intro D2 hD2
      have hD2r : D2 ≠ r := fun z => by rw [z, hx5] at hD2; cases hD2
      have hD2q : q ≠ D2 := fun z => by
        obtain ⟨xs, hx, _⟩ := hq5
        rw [z, hD2] at hx; cases hx
      refine w_range (fun j H6 => Bld In H5 H6 D2 (((rgI ((i : Int) + 1) ((min cs.length (i + most) : Nat) + 1)).take j).filter fun b => L i b.toNat)) ⟨Same.new hD2, hD2, [], upd_same, by simp; exact .nil⟩ (fun j H6 hj B6 => ?_) (fun H6 B6 => ?_)
      · have hjn : i + 1 + j ≤ cs.length := by omega
        have ejb : (i : Int) + 1 + (j : Int) = ((i + 1 + j : Nat) : Int) := by omega
        have etk := rgI_take (lo := (i : Int) + 1) (hi := ((min cs.length (i + most) : Nat) : Int) + 1) hj
        walk_at "go"
        refine ⟨rfl, ?_⟩
        walk_at "go"
        rw [ejb]
        refine u_slice trC (hq5.up trC B6.same) fun r7 H7 hr7 hs7 hm7 => ?_
        rw [cut_sgm (by omega) (by omega)] at hm7
        have ea : (clo cs)[i]? = some ((clo cs)[i]'(by omega)) := List.getElem?_eq_getElem _
        have eb : (clo cs)[i + 1 + j]? = some ((clo cs)[i + 1 + j]'(by omega)) := List.getElem?_eq_getElem _
        walk_at "go"
        refine ⟨d, r7, W, Hh, F, kvs, _, (clo cs)[i]'(by omega), (clo cs)[i + 1 + j]'(by omega), rfl, (hd.up s5).up (Same.trans B6.same hs7), vd, hW, hH, hl, hm7, sgm_head (by omega) ea, by rw [sgm_snoc (by omega) eb]; exact atI_last _ _, honc _ (List.getElem_mem _), honc _ (List.getElem_mem _), fun H8 hs8 => ?_⟩
        have eL : decide (sgm (clo cs) i (i + 1 + j) = line F ((clo cs)[i]'(by omega)) ((clo cs)[i + 1 + j]'(by omega))) = L i (i + 1 + j) := by
          rw [← hL]
          unfold Ln
          rw [getD_of ea, getD_of eb]
        rw [eL]
        refine ⟨_, rfl, ?_⟩
        rw [etk, List.filter_append]
        have s68 : Same H6 H8 := Same.trans hs7 hs8
        refine iteB (fun h2 => ?_) (fun h2 => ?_)
        · walk_at "go"
          refine (B6.up trI s68).lc trI (Same.refl _) (a := ((i + 1 + j : Nat) : Int)) rfl ?_ fun H9 bu9 B9 => ?_
          · have := List.length_filter_le (fun b => L i b.toNat) ((rgI ((i : Int) + 1) ((min cs.length (i + most) : Nat) + 1)).take j)
            rw [List.length_take, rgI_len] at this
            omega
          · have e3 : [(i : Int) + 1 + (j : Int)].filter (fun b => L i b.toNat) = [((i + 1 + j : Nat) : Int)] := by
              rw [ejb]
              simp only [List.filter, Int.toNat_natCast, h2]
            rw [e3]
            exact B9
        · have e3 : [(i : Int) + 1 + (j : Int)].filter (fun b => L i b.toNat) = [] := by
            rw [ejb]
            simp only [List.filter, Int.toNat_natCast, h2]
          rw [e3, List.append_nil]
          exact B6.up trI s68
      · have e4 : (((min cs.length (i + most) : Nat) : Int) + 1 - ((i : Int) + 1)).toNat = (((min cs.length (i + most) : Nat) : Int) + 1 - ((i : Int) + 1)).toNat := rfl
        rw [rgI_all] at B6
        have hr6 := hr5.up trI B6.same
        walk_at "go"
        refine u_appendLL trI hr6 B6.ls hD2r (by rw [List.length_take, reachL_len]; omega) fun H7 bu7 ll7 _ => ?_
        obtain ⟨as6, hx6, _⟩ := id hr6
        refine ⟨_, _, _, rfl, But.same bu7 (Same.trans s5 B6.same) hrH, (hq5.up trC B6.same).up2 trC (bu7.tup hx6 fun _ z => by cases z) fun xs e => bu7 _ _ hqr e, ?_⟩
        rw [List.take_add_one, reachL_at hi']
        exact ll7
    · obtain ⟨a, b, c, rfl, s5, hq5, hr5⟩ := h
      have e5 : ((cs.length : Nat) : Int).toNat = (reachL L cs.length most).length := by rw [reachL_len]; omega
      rw [e5, List.take_length] at hr5
      walk_at "go"
      exact k r H5 hrH s5 hr5
end
end Cp
end
section
namespace Cp
open PySem PySem.Spec PyProof.Rows L2
local macro_rules | `(tactic| walk_at "f") => `(tactic| first | assumption | (refine' keep_of ?_ (by assumption); walk_at "f") | (refine Cn.up ?_ (by assumption); walk_at "f") | (refine Pr.up ?_ (by assumption); walk_at "f") | (refine NTab.up ?_ (by assumption); walk_at "f") | (refine PlI.up ?_ (by assumption); walk_at "f") | (refine LsR.up (by first | exact trC | exact trP | exact trI | assumption) ?_ (by assumption); walk_at "f"))
local macro_rules | `(tactic| walk_at "sm") => `(tactic| first | exact Same.refl _ | assumption | (refine same_tr ?_ (by assumption); walk_at "sm"))
local macro_rules | `(tactic| walk_at "fr") => `(tactic| first | assumption | (refine nof ?_ (by assumption); walk_at "fr"))
local macro_rules | `(tactic| walk_at "s1") => `(tactic| first
  | with_reducible refine s_seq ?_ | with_reducible refine s_ret ?_ | with_reducible refine s_asg ?_ | with_reducible refine s_if ?_ | with_reducible refine s_next ?_ | with_reducible refine s_drop ?_
  | ((with_reducible refine' s_var ?h ?q); (case h => exact rfl)) | with_reducible refine s_c ?_ | with_reducible refine s_op ?_ | with_reducible refine s_I0 ?_
  | with_reducible refine s_eqI ?_ | with_reducible refine s_neI ?_ | with_reducible refine s_eqS ?_ | with_reducible refine s_neS ?_
  | with_reducible refine s_test ?_ | with_reducible refine s_tB ?_ | with_reducible refine s_bl ?_ | with_reducible refine s_and ?_ | with_reducible refine s_or ?_ | with_reducible refine s_not ?_ | with_reducible refine s_andV ?_ | with_reducible refine s_chain ?_
  | with_reducible refine s_cons ?_ | with_reducible refine s_nil ?_ | with_reducible refine s_tup ?_ | with_reducible refine s_lst ?_
  | with_reducible refine s_CB ?_ | with_reducible refine s_call ?_ | with_reducible refine s_gname ?_ | with_reducible refine s_gcons ?_ | with_reducible refine s_gnil ?_
  | ((with_reducible refine' s_gtup ?h ?e ?q); (case h => walk_at "f"); (case e => exact rfl))
  | ((with_reducible refine' s_ixT ?h ?e ?q); (case h => walk_at "f"); (case e => exact rfl))
  | (with_reducible refine s_BM ?_) | ((with_reducible refine s_new ?z ?q); (case z => exact rfl); intro p H1 hp hs hv))
local macro_rules | `(tactic| walk_at "s2") => `(tactic| first
  | walk_at "s1" | with_reducible refine iteF ?_ | with_reducible refine iteT ?_ | with_reducible refine iteNT ?_ | with_reducible refine iteNF ?_ | with_reducible refine u_tup ?_ | with_reducible refine u_lst ?_ | ((with_reducible refine u_newT ?z ?q); (case z => exact rfl); intro p H1 hp hs hv) | ((with_reducible refine u_newL ?z ?q); (case z => exact rfl); intro p H1 hp hs hv) | with_reducible refine s_min2 ?_ | ((with_reducible refine' s_aug ?h ?q); (case h => exact rfl)) | with_reducible refine s_ipI ?_ | with_reducible refine s_sl2 ?_ | with_reducible refine s_part ?_ | with_reducible refine u_part ?_ | with_reducible refine s_nopart ?_ | with_reducible refine s_rev ?_ | with_reducible refine s_un ?_ | with_reducible refine s_U ?_ | with_reducible refine s_gsub ?_ | ((with_reducible refine s_lenS ?z ?q); (case z => assumption)) | with_reducible refine s_rng1 ?_ | with_reducible refine s_rng2 ?_ | with_reducible refine s_list ?_ | with_reducible refine s_istr ?_ | with_reducible refine u_str ?_ | with_reducible refine s_for ?_ | with_reducible refine s_lc ?_ | with_reducible refine s_lc2 ?_ | with_reducible refine s_yes ?_ | with_reducible refine s_bm ?_ | with_reducible refine s_mth ?_ | with_reducible refine s_abs ?_ | with_reducible refine s_int1 ?_ | with_reducible refine s_nget ?_ | with_reducible refine s_fld ?_
  | ((with_reducible refine' s_lenL ?h ?q); (case h => walk_at "f"))
  | ((with_reducible refine' s_lenT ?h ?q); (case h => walk_at "f")))
local macro_rules | `(tactic| walk_at "go") => `(tactic| repeat walk_at "s2")
section
variable {P : Program} {w : World} {K : PySem.W.Frag} {mg : Str → Option Value} {base : Heap} {C : Addr}
/-- what is needed of the parts that are lines -/
structure Lw (L : Nat → Nat → Bool) (n most : Nat) : Prop where
  one : ∀ a, a < n → L a (a + 1) = true
  part : ∀ a b, a + 1 < b → b ≤ n → L a b = true → L a (b - 1) = true ∧ L (a + 1) b = true
  most : ∀ a b, a < b → b ≤ n → L a b = true → b ≤ a + most
section
variable {L : Nat → Nat → Bool} {n most : Nat}
theorem Lw.pre (l : Lw L n most) {a : Nat} : ∀ (m b c : Nat), b = c + m → a < c → b ≤ n → L a b = true → L a c = true
  | 0, b, c, h, _, _, hl => by rw [← show b = c by omega]; exact hl
  | m + 1, b, c, h, h1, h2, hl => l.pre m (b - 1) c (by omega) h1 (by omega) (l.part a b (by omega) h2 hl).1
theorem Lw.suf (l : Lw L n most) {b : Nat} : ∀ (m a c : Nat), c = a + m → c < b → b ≤ n → L a b = true → L c b = true
  | 0, a, c, h, _, _, hl => by rw [show c = a by omega]; exact hl
  | m + 1, a, c, h, h1, h2, hl => l.suf m (a + 1) c (by omega) h1 h2 (l.part a b (by omega) h2 hl).2
theorem FarOk.at_ (l : Lw L n most) {a b : Nat} (f : FarOk L n a b) : L a b = true := by
  have h1 := f.lt
  have h2 := f.le
  by_cases h : b = a + 1
  · rw [h]; exact l.one a (by omega)
  · exact f.all b (by omega) (Nat.le_refl _)
theorem FarOk.max (l : Lw L n most) {a b c : Nat} (f : FarOk L n a b) (hac : a < c) (hc : c ≤ n) (hl : L a c = true) : c ≤ b := by
  refine Nat.le_of_not_lt fun h => ?_
  have hs := f.stop (by omega)
  have := l.pre (c - (b + 1)) c (b + 1) (by omega) (by have := f.lt; omega) hc hl
  rw [hs] at this
  cases this
theorem far_ex (l : Lw L n most) : ∀ (m a b : Nat), n = b + m → a < b → (∀ j, a + 1 < j → j ≤ b → L a j = true) → ∃ c, FarOk L n a c
  | 0, a, b, h, h1, h2 => ⟨b, h1, by omega, h2, fun h3 => by omega⟩
  | m + 1, a, b, h, h1, h2 => by
    cases e : L a (b + 1) with
    | false => exact ⟨b, h1, by omega, h2, fun _ => e⟩
    | true =>
      refine far_ex l m a (b + 1) (by omega) (by omega) fun j h3 h4 => ?_
      by_cases h5 : j = b + 1
      · rw [h5]; exact e
      · exact h2 j h3 (by omega)
theorem gr_ex (l : Lw L n most) : ∀ (m a : Nat), n - a ≤ m → a ≤ n → ∃ ms, Gr L n a ms
  | 0, a, h, ha => ⟨[], by rw [show a = n by omega]; exact .nil⟩
  | m + 1, a, h, ha => by
    by_cases e : a = n
    · exact ⟨[], by rw [e]; exact .nil⟩
    · obtain ⟨b, fb⟩ := far_ex l (n - (a + 1)) a (a + 1) (by omega) (by omega) fun j h1 h2 => by omega
      have h1 := fb.lt
      obtain ⟨ms, g⟩ := gr_ex l m b (by omega) fb.le
      exact ⟨a :: ms, .cons (by omega) fb g⟩
/-- later starts need no more marks -/
theorem gr_mono (l : Lw L n most) {a : Nat} {ms : List Nat} (g : Gr L n a ms) : ∀ a' ms', a ≤ a' → Gr L n a' ms' → ms'.length ≤ ms.length := by
  induction g with
  | nil =>
    intro a' ms' h g'
    cases g' with
    | nil => exact Nat.le_refl _
    | cons h1 _ _ => omega
  | @cons a b ms ha f g ih =>
    intro a' ms' h g'
    cases g' with
    | nil => exact Nat.zero_le _
    | @cons _ b' ms'' ha' f' g'' =>
      rw [List.length_cons, List.length_cons]
      have hb : b ≤ b' := by
        by_cases h1 : b ≤ a'
        · have := f'.lt; omega
        · exact f'.max l (by omega) f.le (l.suf (a' - a) a a' (by omega) (by omega) f.le (f.at_ l))
      have := ih b' ms'' hb g''
      omega
end
theorem LsR.setAt {α : Type} {R : Hp → V → α → Prop} {H H' : Hp} {p : Addr} {as : List α} {a : α} {v : V} {j : Nat} (t : Tr R) (h : LsR R H p as) (bu : But p H H') (e : ∀ xs, H p = some (.lst xs) → H' p = some (.lst (xs.set j v))) (r : R H v a) : LsR R H' p (as.set j a) := by
  obtain ⟨xs, hx, pr⟩ := h
  have bt := bu.tup hx fun _ z => by cases z
  refine ⟨_, e _ hx, ?_⟩
  have : ∀ {xs : List V} {as : List α}, Paired (R H) xs as → ∀ j, Paired (R H') (xs.set j v) (as.set j a) := by
    intro xs as pr
    induction pr with
    | nil => intro j; exact .nil
    | cons r0 t0 ih =>
      intro j
      cases j with
      | zero => exact .cons (t.up bt r) (Paired.mono (fun a b r => t.up bt r) t0)
      | succ j => exact .cons (t.up bt r0) (ih j)
  exact this pr j
theorem u_setL {α : Type} {R : Hp → V → α → Prop} {H : Hp} {Q : Hp → Prop} {p : Addr} {as : List α} {a : α} {v : V} {j : Nat} (t : Tr R) (h : LsR R H p as) (hj : j < as.length) (r : R H v a) (q : ∀ H', But p H H' → LsR R H' p (as.set j a) → Q H') : rSetL (.ref p) (.int (j : Int)) v H Q := by
  obtain ⟨xs, hx, pr⟩ := id h
  have hl := Paired.length pr
  refine ⟨p, xs, _, j, rfl, rfl, hx, ?_, q _ (But.upd _ _ _) (h.setAt t (But.upd _ _ _) (fun ys e => ?_) r)⟩
  · unfold ixN
    rw [if_pos (by omega), if_pos (by omega)]
    simp
  · rw [hx] at e; cases e; exact upd_same
def spFewest : Sp := fun vs H Q _ => ∃ p, ∃ L, ∃ n most : Nat, vs = [.ref p] ∧ LLR In H p (reachL L n most) ∧ Lw L n most ∧ n ≤ 900 ∧ ∀ H' (m : Nat), Same H H' → (∀ ms, Gr L n 0 ms → m = ms.length) → Q (.int m) H'
theorem sc_l_fewest : FnScope ["_law_reach_here", "_law_fewest_here", "_law_turn", "_law_a", "_law_b"] ["_law_reach_here"] (defScope s_l_fewest) := ⟨rfl, rfl, rfl, by decide +kernel, rfl, by decide +kernel, by decide +kernel⟩
theorem c_l_fewest (g : Gs mg)  {f : Addr} (hm : mg "_law_fewest" = some (.ref f)) (F : Fd K "_law_fewest" "_law_fewest" s_l_fewest f) : Cal P w K mg base 1 "_law_fewest" ["_law_reach_here"] spFewest := by
  refine Cal.mk' hm (fn_mk (k := 0) F sc_l_fewest (fun _ _ _ _ _ _ us hl => match us, hl with | [_], _ => rfl) (fun vs H Q E h => ?_) (fun cdv A outer s H vs Q E hr h => ?_))
  · obtain ⟨_, _, _, _, rfl, _⟩ := h; rfl
  · obtain ⟨p, L, n, most, rfl, hp, lw, hn, k⟩ := h
    refine ⟨_, (pss_cons (ps_asg (pe_op op_rep (pe_ulst (pa_cons (pe_int) pa_nil)) (pe_op op_add (pe_callB cr_len (by rfl) g.len (by rfl) (pa_cons (pv 0) pa_nil)) (pe_int))) (pg_name (i := 1) sc_l_fewest.nd rfl (.inr rfl)))
      (pss_cons (ps_for PassesOwn.never rfl (pi_range1 (by rfl) g.range (pa_cons (pe_callB cr_len (by rfl) g.len (by rfl) (pa_cons (pv 0) pa_nil)) pa_nil)) (pg_name (i := 2) sc_l_fewest.nd rfl (.inl rfl)) (pss_cons (ps_asg (pe_op op_sub (pe_op op_sub (pe_callB cr_len (by rfl) g.len (by rfl) (pa_cons (pv 0) pa_nil)) (pe_int)) (pv 2)) (pg_name (i := 3) sc_l_fewest.nd rfl (.inl rfl)))
      (pss_one (ps_asg (pe_op op_add (pe_int) (pe_callB (cr_min rfl) (by rfl) g.min (by rfl) (pa_cons (pe_lc (own := [("_law_b", 4)]) (g := gName 4) rfl sc_l_fewest.nd (pi_list (pe_ix ix_list (pv 0) (pv 3) (fun _ _ => rfl))) (blkOk_by (own := [("_law_b", 4)]) (N := ["_law_reach_here", "_law_fewest_here", "_law_turn", "_law_a", "_law_b"]) (sc := defScope s_l_fewest) (by decide +kernel)) (fun _ _ _ _ _ => pg_name (i := 4) sc_l_fewest.nd rfl (Or.inl rfl)) (fun _ _ _ _ _ => pts_nil) (fun _ _ _ _ _ => pe_ix (r := rIxL K) ix_list (pv 1) (pv 4) (fun _ _ => rfl))) pa_nil))) (pg_sub (pv 1) (pv 3) set_list)))))
      (pss_one (ps_ret (pe_ix ix_list (pv 1) (pe_int) (fun _ _ => rfl)))))), ?_⟩
    walk_at "go"
    rename_i z H1 hz1 hs1 hm1
    refine u_lenLL (hp.up trI hs1) ?_
    rw [reachL_len]
    walk_at "go"
    refine u_rep trI (LsR.ints [0] hm1 rfl) (by omega) (by omega) (by decide) fun fl H2 hfl hs2 hm2 => ?_
    have hfl0 : H fl = none := nof hfl hs1
    walk_at "go"
    refine u_lenLL (hp.up trI (Same.trans hs1 hs2)) ?_
    rw [reachL_len]
    walk_at "go"
    refine u_rng1 (by omega) (by omega) ?_
    have hrl : (List.replicate ((n : Int) + 1).toNat [(0 : Int)]).flatten.length = n + 1 := by
      simp
      try omega
    refine u_range (fun t σ H3 => ∃ a b c fs, σ = [some (.ref p), some (.ref fl), a, b, c] ∧ Bld In H H3 fl fs ∧ fs.length = n + 1 ∧ ∀ b : Nat, n - t ≤ b → b ≤ n → ∀ ms, Gr L n b ms → fs[b]? = some ((ms.length : Nat) : Int)) ⟨_, _, _, _, rfl, ⟨Same.trans hs1 hs2, hfl0, hm2⟩, hrl, fun b h1 h2 ms g => ?_⟩ (fun t σ H3 ht h => ?_) (fun σ H3 h => ?_)
    · have e : b = n := by omega
      subst e
      cases g with
      | nil =>
        have hlt : b < (List.replicate ((b : Int) + 1).toNat [(0 : Int)]).flatten.length := by rw [hrl]; omega
        rw [List.getElem?_eq_getElem hlt]
        have : ∀ x ∈ (List.replicate ((b : Int) + 1).toNat [(0 : Int)]).flatten, x = 0 := by
          intro x hx
          obtain ⟨l, hl, hx⟩ := List.mem_flatten.mp hx
          rw [List.eq_of_mem_replicate hl] at hx
          exact List.mem_singleton.mp hx
        rw [this _ (List.getElem_mem hlt)]
        rfl
      | cons h1 _ _ => omega
    · obtain ⟨a', b', c', fs, rfl, B, hfsl, hfs⟩ := h
      have ht' : t < n := by omega
      have hp3 := hp.up trI B.same
      walk_at "go"
      refine u_lenLL hp3 ?_
      rw [reachL_len]
      walk_at "go"
      have ea : (n : Int) - 1 - ((0 : Int) + (t : Int)) = ((n - 1 - t : Nat) : Int) := by omega
      rw [ea]
      generalize han : n - 1 - t = a
      have hal : a < n := by omega
      refine u_ixLL hp3 (atI_nat (reachL_at hal)) fun ra hra hrap => ?_
      obtain ⟨xs, hx, _⟩ := id hra
      refine u_list hx ?_
      intro D hD
      have hraD : ra ≠ D := fun z => by rw [z, hD] at hx; cases hx
      have ral : (reachA L n most a).length ≤ 1000 := by
        unfold reachA
        refine Nat.le_trans (List.length_filter_le _ _) ?_
        rw [rgI_len]; omega
      refine w_items (Rr := In) (as := reachA L n most a) (fun j H4 => Bld In H3 H4 D (((reachA L n most a).take j).map fun b => fs.getD b.toNat 0) ∧ LsR In H4 ra (reachA L n most a)) ⟨⟨Same.new hD, hD, [], upd_same, .nil⟩, hra.up trI (Same.new hD)⟩ (fun j H4 _ h => h.2) (fun j c y H4 hj hy h => ?_) (fun H4 h => ?_)
      · obtain ⟨B4, hr4⟩ := h
        obtain rfl : y = V.int c := hy
        have hcm := reachA_mem.mp (List.mem_of_getElem? hj)
        obtain ⟨cn, rfl⟩ : ∃ cn : Nat, c = cn := ⟨c.toNat, by omega⟩
        walk_at "go"
        refine ⟨rfl, ?_⟩
        walk_at "go"
        have ec : fs[cn]? = some (fs[cn]'(by omega)) := List.getElem?_eq_getElem _
        refine u_ixL (a := fs[cn]'(by omega)) (B.ls.up trI B4.same) (atI_nat ec) fun v hv => ?_
        refine B4.lc trI (Same.refl _) (a := fs.getD cn 0) (by rw [getD_of ec]; exact hv) (by rw [List.length_map, List.length_take]; omega) fun H5 bu5 B5 => ⟨?_, ?_⟩
        · rw [List.take_add_one, hj, List.map_append]
          exact B5
        · obtain ⟨ys, hy, _⟩ := id B4.ls
          exact hr4.up2 trI (bu5.tup hy fun _ z => by cases z) fun xs e => bu5 _ _ hraD e
      · obtain ⟨B4, hr4⟩ := h
        rw [List.take_length] at B4
        walk_at "go"
        have hne : ((a : Int) + 1) ∈ reachA L n most a := by
          have h1 := lw.one a hal
          have h2 := lw.most a (a + 1) (by omega) (by omega) h1
          refine reachA_mem.mpr ⟨Int.le_refl _, by omega, by omega, ?_⟩
          rw [show ((a : Int) + 1).toNat = a + 1 by omega]; exact h1
        refine ⟨D, _, rfl, SqL.of B4.ls.int, by rw [List.length_map]; exact List.length_pos_of_mem hne, fun m hm hmin => ?_⟩
        walk_at "go"
        refine u_setL trI (B.ls.up trI B4.same) (a := 1 + m) (by omega) rfl fun H5 bu5 l5 => ?_
        refine ⟨_, _, _, fs.set a (1 + m), rfl, ⟨But.same bu5 (Same.trans B.same B4.same) hfl0, hfl0, l5⟩, by rw [List.length_set]; exact hfsl, fun b h1 h2 ms g => ?_⟩
        by_cases hb : b = a
        · subst hb
          rw [List.getElem?_set_self (by omega)]
          cases g with
          | nil => omega
          | @cons _ c ms' _ f g' =>
            have hc : ((c : Nat) : Int) ∈ reachA L n most b := by
              have := f.lt
              have := f.le
              have hL := f.at_ lw
              have := lw.most b c f.lt f.le hL
              refine reachA_mem.mpr ⟨by omega, by omega, by omega, by rw [Int.toNat_natCast]; exact hL⟩
            have fc : fs[c]? = some ((ms'.length : Nat) : Int) := hfs c (by have := f.lt; omega) f.le ms' g'
            have h5 : m ≤ ((ms'.length : Nat) : Int) := hmin _ (List.mem_map.mpr ⟨_, hc, by rw [Int.toNat_natCast, getD_of fc]⟩)
            obtain ⟨b2, hb2, e2⟩ := List.mem_map.mp hm
            have hm2 := reachA_mem.mp hb2
            obtain ⟨bn, rfl⟩ : ∃ bn : Nat, b2 = bn := ⟨b2.toNat, by omega⟩
            rw [Int.toNat_natCast] at e2 hm2
            obtain ⟨msb, gb⟩ := gr_ex lw n bn (by omega) (by omega)
            have fb := hfs bn (by omega) (by omega) msb gb
            rw [getD_of fb] at e2
            have := gr_mono lw gb c ms' (f.max lw (by omega) (by omega) hm2.2.2.2) g'
            rw [List.length_cons]
            congr 1
            omega
        · rw [List.getElem?_set_ne (fun e => hb e.symm)]
          exact hfs b (by omega) h2 ms g
    · obtain ⟨a', b', c', fs, rfl, B, hfsl, hfs⟩ := h
      obtain ⟨ms0, g0⟩ := gr_ex lw n 0 (by omega) (by omega)
      have f0 := hfs 0 (by omega) (by omega) ms0 g0
      walk_at "go"
      refine u_ixL (a := ((ms0.length : Nat) : Int)) (i := 0) B.ls (atI_nat (j := 0) f0) fun v hv => ?_
      obtain rfl : v = V.int ((ms0.length : Nat) : Int) := hv
      refine k H3 ms0.length B.same fun ms g => ?_
      have := gr_mono lw g0 0 ms (Nat.le_refl _) g
      have := gr_mono lw g 0 ms0 (Nat.le_refl _) g0
      omega
def spAreL : Sp := fun vs H Q _ => ∃ p m, ∃ L, ∃ n most : Nat, ∃ ms : List Int, vs = [.ref p, .ref m] ∧ LLR In H p (reachL L n most) ∧ LsR In H m ms ∧ Lw L n most ∧ n ≤ 900 ∧ ms.length ≤ 5000 ∧ ∀ H', Same H H' → Q (.bl (okM L n ms)) H'
theorem inV_ints (b : Int) : ∀ ns : List Int, inV (V.int b) (ns.map V.int) = decide (b ∈ ns)
  | [] => by simp [inV]
  | n :: ns => by
    have ih := inV_ints b ns
    unfold inV at ih ⊢
    rw [List.map_cons, List.any_cons, ih]
    by_cases h : b = n
    · subst h; simp [eqV]
    · have h2 : ¬ n = b := fun e => h e.symm
      simp [eqV, h, h2]
theorem flat_ints : ∀ ns : List Int, (ns.map V.int).all flatV = true
  | [] => rfl
  | n :: ns => by rw [List.map_cons, List.all_cons, flat_ints ns]; rfl
theorem u_inI {H : Hp} {Q : VK} {p : Addr} {ns : List Int} {b : Int} (h : LsR In H p ns) (q : Q (.bl (decide (b ∈ ns))) H) : rIn K false (.int b) (.ref p) H Q :=
  ⟨p, _, rfl, .inl (SqL.of h.int), rfl, flat_ints ns, by rw [if_neg Bool.false_ne_true, inV_ints]; exact q⟩
theorem u_ninI {H : Hp} {Q : VK} {p : Addr} {ns : List Int} {b : Int} (h : LsR In H p ns) (q : Q (.bl (!decide (b ∈ ns))) H) : rIn K true (.int b) (.ref p) H Q :=
  ⟨p, _, rfl, .inl (SqL.of h.int), rfl, flat_ints ns, by rw [if_pos rfl, inV_ints]; exact q⟩
theorem s_chain3 {σ : L2.St} {H : Hp} {r r' r'' : R2} {ta tb tc td : TE} {Q : VK} (h : ta σ H fun x H1 => tb σ H1 fun y H2 => r x y H2 fun z H3 => ∃ k, z = .bl k ∧ (if k = true then tc σ H3 fun w' H4 => r' y w' H4 fun z' H5 => ∃ k', z' = .bl k' ∧ (if k' = true then td σ H5 fun v' H6 => r'' w' v' H6 Q else Q (.bl false) H5) else Q (.bl false) H3)) : tChain3 r r' r'' ta tb tc td σ H Q := h
theorem sc_l_are_least : FnScope ["_law_reach_here", "_law_marks", "_law_stops", "_law_k", "_law_a", "_law_b"] ["_law_reach_here", "_law_marks"] (defScope s_l_are_least) := ⟨rfl, rfl, rfl, by decide +kernel, rfl, by decide +kernel, by decide +kernel⟩
theorem c_l_are_least (g : Gs mg)  {f : Addr} (hm : mg "_law_are_least" = some (.ref f)) (F : Fd K "_law_are_least" "_law_are_least" s_l_are_least f) : Cal P w K mg base 1 "_law_are_least" ["_law_reach_here", "_law_marks"] spAreL := by
  refine Cal.mk' hm (fn_mk (k := 0) F sc_l_are_least (fun _ _ _ _ _ _ us hl => match us, hl with | [_, _], _ => rfl) (fun vs H Q E h => ?_) (fun cdv A outer s H vs Q E hr h => ?_))
  · obtain ⟨_, _, _, _, _, _, rfl, _⟩ := h; rfl
  · obtain ⟨p, m, L, n, most, ms, rfl, hp, hm, lw, hn, hmz, k⟩ := h
    refine ⟨_, (pss_cons (ps_asg (pe_op op_cat (pv 1) (pe_ulst (pa_cons (pe_callB cr_len (by rfl) g.len (by rfl) (pa_cons (pv 0) pa_nil)) pa_nil))) (pg_name (i := 2) sc_l_are_least.nd rfl (.inl rfl)))
      (pss_cons (ps_if (pt_cmpR op_ne (pe_ix ix_list (pv 2) (pe_int) (fun _ _ => rfl)) (pe_int) (nomark _)) (pss_one (ps_ret (pe_bl))) pss_nil)
      (pss_cons (ps_for PassesOwn.never rfl (pi_range2 (by rfl) g.range (pa_cons (pe_int) (pa_cons (pe_callB cr_len (by rfl) g.len (by rfl) (pa_cons (pv 2) pa_nil)) pa_nil))) (pg_name (i := 3) sc_l_are_least.nd rfl (.inl rfl)) (pss_cons (ps_asg (pe_ix ix_list (pv 2) (pe_op op_sub (pv 3) (pe_int)) (fun _ _ => rfl)) (pg_name (i := 4) sc_l_are_least.nd rfl (.inl rfl)))
      (pss_cons (ps_asg (pe_ix ix_list (pv 2) (pv 3) (fun _ _ => rfl)) (pg_name (i := 5) sc_l_are_least.nd rfl (.inl rfl)))
      (pss_cons (ps_if (PW.pt (pw_or (pt_not (pt_chain3 op_le op_lt op_le (pe_int) (pv 4) (pv 5) (pe_callB cr_len (by rfl) g.len (by rfl) (pa_cons (pv 0) pa_nil)))) (pw_or1 (pt_cmpR op_notIn_seq (pv 5) (pe_ix ix_list (pv 0) (pv 4) (fun _ _ => rfl)) (by with_unfolding_all rfl))))) (pss_one (ps_ret (pe_bl))) pss_nil)
      (pss_one (ps_if (PW.pt (pw_and (pt_cmpR op_lt (pv 5) (pe_callB cr_len (by rfl) g.len (by rfl) (pa_cons (pv 0) pa_nil)) (nomark _)) (pw_and1 (pt_cmpR op_in_seq (pe_op op_add (pv 5) (pe_int)) (pe_ix ix_list (pv 0) (pv 4) (fun _ _ => rfl)) (by with_unfolding_all rfl))))) (pss_one (ps_ret (pe_bl))) pss_nil))))))
      (pss_one (ps_ret (pe_bl)))))), ?_⟩
    walk_at "go"
    refine u_lenLL hp ?_
    rw [reachL_len]
    walk_at "go"
    rename_i l4 H5 hl4 hs5 hm5
    refine u_cat trI (hm.up trI hs5) (bs := [((n : Nat) : Int)]) ⟨_, hm5, .cons rfl .nil⟩ (by rw [List.length_singleton]; omega) fun q2 H6 hq2 hs6 hm6 => ?_
    have s06 : Same H H6 := Same.trans hs5 hs6
    generalize hst : ms ++ [((n : Nat) : Int)] = st at *
    have hstl : st.length = ms.length + 1 := by rw [← hst]; simp
    obtain ⟨s0, r0, rfl⟩ : ∃ s0 r0, st = s0 :: r0 := by
      cases st with
      | nil => simp at hstl
      | cons a b => exact ⟨a, b, rfl⟩
    have hok := okM_eq (L := L) hst
    walk_at "go"
    refine u_ixL (a := s0) (i := 0) hm6 (atI_nat (j := 0) rfl) fun v1 hv1 => ?_
    obtain rfl : v1 = V.int s0 := hv1
    walk_at "go"
    refine ite3n (fun h1 => ?_) (fun h1 => ?_)
    · walk_at "go"
      have := k H6 s06
      rw [hok, decide_eq_false h1, Bool.false_and] at this
      exact this
    rw [decide_eq_true h1, Bool.true_and] at hok
    walk_at "go"
    refine u_len hm6 ?_
    walk_at "go"
    refine u_rng2 (by omega) (by omega) (by omega) (by omega) ?_
    refine u_range (fun i σ H7 => ∃ a b c, σ = [some (.ref p), some (.ref m), some (.ref q2), a, b, c] ∧ Same H6 H7 ∧ ∃ y, (s0 :: r0)[i]? = some y ∧ 0 ≤ y ∧ okM L n ms = okS L n y (((s0 :: r0)).drop (i + 1))) ⟨_, _, _, rfl, Same.refl _, s0, rfl, by omega, hok⟩ (fun i σ H7 hi h => ?_) (fun σ H7 h => ?_)
    · obtain ⟨a', b', c', rfl, s7, y, hy, hy0, ho⟩ := h
      have hi1 : i + 1 < (s0 :: r0).length := by omega
      have ez : (s0 :: r0)[i + 1]? = some (s0 :: r0)[i + 1] := List.getElem?_eq_getElem _
      generalize (s0 :: r0)[i + 1] = z at ez
      have edr : (s0 :: r0).drop (i + 1) = z :: (s0 :: r0).drop (i + 1 + 1) := by
        rw [List.drop_eq_getElem_cons hi1]
        congr 1
        have := List.getElem?_eq_getElem hi1
        rw [ez] at this
        exact (Option.some.inj this).symm
      rw [edr, okS] at ho
      walk_at "go"
      refine u_ixL (a := y) (hm6.up trI s7) (by
        rw [show (1 : Int) + (i : Int) - 1 = (i : Int) by omega]
        exact atI_nat hy) fun v2 hv2 => ?_
      obtain rfl : v2 = V.int y := hv2
      walk_at "go"
      refine u_ixL (a := z) (hm6.up trI s7) (by
        rw [show (1 : Int) + (i : Int) = ((i + 1 : Nat) : Int) by omega]
        exact atI_nat ez) fun v3 hv3 => ?_
      obtain rfl : v3 = V.int z := hv3
      walk_at "go"
      have hp7 := (hp.up trI s06).up trI s7
      refine s_chain3 ?_
      walk_at "go"
      refine ite3 (fun _ => ?_) (fun h => absurd hy0 h)
      walk_at "go"
      refine ite3 (fun h2 => ?_) (fun h2 => ?_)
      · walk_at "go"
        refine u_lenLL hp7 ?_
        rw [reachL_len]
        walk_at "go"
        rw [decide_eq_true h2, Bool.true_and] at ho
        by_cases h3 : z ≤ ((n : Nat) : Int)
        · rw [decide_eq_true h3, Bool.true_and] at ho
          rw [decide_eq_true h3]
          obtain ⟨yn, rfl⟩ : ∃ yn : Nat, y = yn := ⟨y.toNat, by omega⟩
          obtain ⟨zn, rfl⟩ : ∃ zn : Nat, z = zn := ⟨z.toNat, by omega⟩
          simp only [Int.toNat_natCast] at ho
          have hyn : yn < n := by omega
          have mem : ∀ c : Nat, yn < c → c ≤ n → decide (((c : Nat) : Int) ∈ reachA L n most yn) = L yn c := fun c h1 h2 => by
            cases e : L yn c with
            | true => exact decide_eq_true (reachA_mem.mpr ⟨by omega, by omega, by have := lw.most yn c h1 h2 e; omega, by rw [Int.toNat_natCast]; exact e⟩)
            | false =>
              refine decide_eq_false fun h => ?_
              have := (reachA_mem.mp h).2.2.2
              rw [Int.toNat_natCast, e] at this
              cases this
          walk_at "go"
          refine u_ixLL hp7 (atI_nat (reachL_at hyn)) fun ra hra hrap => ?_
          refine u_ninI hra ?_
          walk_at "go"
          rw [mem zn (by omega) (by omega)]
          cases h4 : L yn zn with
          | false =>
            rw [h4, Bool.false_and, Bool.false_and] at ho
            walk_at "go"
            have := k H7 (Same.trans s06 s7)
            rw [ho] at this
            exact this
          | true =>
            rw [h4, Bool.true_and] at ho
            walk_at "go"
            refine u_lenLL hp7 ?_
            rw [reachL_len]
            walk_at "go"
            refine ite3 (fun h5 => ?_) (fun h5 => ?_)
            · rw [decide_eq_true h5, Bool.true_and] at ho
              walk_at "go"
              refine u_ixLL hp7 (atI_nat (reachL_at hyn)) fun ra hra hrap => ?_
              rw [show ((zn : Nat) : Int) + 1 = ((zn + 1 : Nat) : Int) by omega]
              refine u_inI hra ?_
              walk_at "go"
              rw [mem (zn + 1) (by omega) (by omega)]
              cases h6 : L yn (zn + 1) with
              | true =>
                rw [h6, Bool.not_true, Bool.false_and] at ho
                walk_at "go"
                have := k H7 (Same.trans s06 s7)
                rw [ho] at this
                exact this
              | false =>
                rw [h6, Bool.not_false, Bool.true_and] at ho
                walk_at "go"
                exact ⟨_, _, _, rfl, s7, _, ez, by omega, ho⟩
            · rw [decide_eq_false h5, Bool.false_and, Bool.not_false, Bool.true_and] at ho
              walk_at "go"
              exact ⟨_, _, _, rfl, s7, _, ez, by omega, ho⟩
        · rw [decide_eq_false h3, Bool.false_and, Bool.false_and, Bool.false_and] at ho
          rw [decide_eq_false h3]
          walk_at "go"
          have := k H7 (Same.trans s06 s7)
          rw [ho] at this
          exact this
      · rw [decide_eq_false h2, Bool.false_and, Bool.false_and, Bool.false_and, Bool.false_and] at ho
        walk_at "go"
        have := k H7 (Same.trans s06 s7)
        rw [ho] at this
        exact this
    · obtain ⟨a', b', c', rfl, s7, y, hy, hy0, ho⟩ := h
      rw [List.drop_of_length_le (by omega)] at ho
      walk_at "go"
      have := k H7 (Same.trans s06 s7)
      rw [ho] at this
      exact this
end
end Cp
end
section
namespace Cp
open PySem PySem.Spec PyProof.Rows L2
section
variable {W Hh : Nat} {F : Fn}
def AdmAll (W Hh : Nat) (F : Fn) : Prop := ∀ n, AdmTo W Hh F n
theorem FI.all {kvs : List (Pq × V)} (f : FI W Hh kvs (rows W Hh).length) : AdmAll W Hh (Fk kvs) := fun n => adm_of f.vd fun p q o h1 h2 _ => by
  have hm : (p, q) ∈ (rows W Hh).take (rows W Hh).length := by
    rw [List.take_length]
    exact rows_mem.mpr (allB_mem o.bp o.bq h1 h2)
  have := f.adm (p, q) hm
  unfold ltr at this ⊢
  rw [if_neg h2, if_neg (show ¬ p.1 = q.1 by omega)]
  exact this
theorem FI.get {kvs : List (Pq × V)} (f : FI W Hh kvs (rows W Hh).length) {b : Pq} (hb : b ∈ AllB W Hh) : Cp.look kvs b = Option.some (V.str (Fk kvs b)) := f.has (by rw [List.take_length]; exact rows_mem.mpr hb)
theorem last_eq (v : Vd W Hh F) (a : AdmAll W Hh F) {p q : Pt} (o : Ok W Hh p q) (h : p ≠ q) : walk F p q = walk F p (pen (walk F p q)) ++ [q] := by
  have hd : dst p q ≠ 0 := fun e => h (dst_zero e)
  obtain ⟨n, hn⟩ : ∃ n, dst p q = n + 1 := ⟨dst p q - 1, by omega⟩
  obtain ⟨L, e, hl⟩ := walk_last v _ p rfl o
  have hc := cons_walk v n p hn o (a _)
  rw [← hc, e, List.dropLast_concat]
theorem vert_rev (v : Vd W Hh F) (a : AdmAll W Hh F) {q : Pt} : ∀ (n : Nat) (p : Pt), p.1 = q.1 → q.2 + (n : Int) = p.2 → OnB W Hh p → OnB W Hh q → walk F p q = (walk F q p).reverse
  | 0, p, h1, h2, bp, bq => by
    have e : p = q := Prod.ext h1 (by omega)
    rw [e, walk_end]
    rfl
  | n + 1, p, h1, h2, bp, bq => by
    have hne : p ≠ q := fun e => by rw [e] at h2; omega
    have o : Ok W Hh p q := ⟨bp, bq, by omega⟩
    have o' : Ok W Hh q p := ⟨bq, bp, by omega⟩
    have e1 : nx F p q = (p.1, p.2 - 1) := by
      rcases nx_shape v o hne with ⟨e, h⟩ | ⟨e, h⟩ | ⟨e, h⟩
      · omega
      · omega
      · exact e
    have e2 : pen (walk F q p) = (p.1, p.2 - 1) := by
      have hd : dst q p = (n + 1 - 1) + 1 := by unfold dst; omega
      obtain ⟨b, d1, _⟩ := pen_ok v _ q hd o'
      unfold Btw at b
      unfold dst at d1
      exact Prod.ext (by simp only; omega) (by simp only; omega)
    have b2 : OnB W Hh (p.1, p.2 - 1) := by unfold OnB at *; simp only; omega
    rw [ok_step v o hne, e1, last_eq v a o' (fun e => hne e.symm), e2, List.reverse_append]
    rw [vert_rev v a n (p.1, p.2 - 1) h1 (by simp only; omega) b2 bq]
    rfl
theorem line_fwd (v : Vd W Hh F) (a : AdmAll W Hh F) {p q : Pt} (o : Ok W Hh p q) : line F p q = walk F p q := by
  unfold line
  cases h : ltP q p with
  | false => rfl
  | true =>
    have h1 := ltP_le h
    have h2 := o.le
    have h3 : q.2 < p.2 := by
      unfold ltP at h
      simp only [Bool.or_eq_true, Bool.and_eq_true, decide_eq_true_eq] at h
      omega
    rw [if_pos rfl, vert_rev v a (p.2 - q.2).toNat p (by omega) (by omega) o.bp o.bq]
theorem line_bwd (v : Vd W Hh F) (a : AdmAll W Hh F) {p q : Pt} (o : Ok W Hh q p) : line F p q = (walk F q p).reverse := by
  unfold line
  cases h : ltP q p with
  | true => rfl
  | false =>
    have h1 := ltP_not h
    have h2 := o.le
    have h3 : p.2 ≤ q.2 := by
      unfold ltP at h
      simp only [Bool.or_eq_false_iff, Bool.and_eq_false_iff, decide_eq_false_iff_not] at h
      omega
    rw [if_neg Bool.false_ne_true, vert_rev v a (q.2 - p.2).toNat q (by omega) (by omega) o.bp o.bq, List.reverse_reverse]
theorem line_near (v : Vd W Hh F) (a : AdmAll W Hh F) {p q : Pt} (hp : OnB W Hh p) (hq : OnB W Hh q) (h : dst p q = 1) : line F p q = [p, q] := by
  have hne : p ≠ q := fun e => by rw [e, dst_self] at h; cases h
  rcases Int.le_total p.1 q.1 with h1 | h1
  · have o : Ok W Hh p q := ⟨hp, hq, h1⟩
    obtain ⟨_, h2⟩ := o.nx v hne
    rw [line_fwd v a o, ok_step v o hne, dst_zero (by omega : dst (nx F p q) q = 0), walk_end]
  · have o : Ok W Hh q p := ⟨hq, hp, h1⟩
    obtain ⟨_, h2⟩ := o.nx v (fun e => hne e.symm)
    have h3 : dst q p = 1 := by rw [dst_symm]; exact h
    rw [line_bwd v a o, ok_step v o (fun e => hne e.symm), dst_zero (by omega : dst (nx F q p) p = 0), walk_end]
    rfl
theorem sgm_cons {α : Type} {cs : List α} {a b : Nat} {c : α} (h : a ≤ b) (ha : cs[a]? = some c) : sgm cs a b = c :: sgm cs (a + 1) b := by
  unfold sgm
  obtain ⟨h1, h2⟩ := List.getElem?_eq_some_iff.mp ha
  rw [List.drop_eq_getElem_cons h1, h2, show b + 1 - a = (b + 1 - (a + 1)) + 1 by omega, List.take_succ_cons]
theorem sgm_snoc' {α : Type} {cs : List α} {a b : Nat} {c : α} (h : a < b) (hb : cs[b]? = some c) : sgm cs a b = sgm cs a (b - 1) ++ [c] := by
  rw [sgm_snoc (Nat.le_of_lt h) hb]
  unfold sgm
  rw [show b - 1 + 1 - a = b - a by omega]
/-- a closed row of neighbours on the board -/
structure LoopOk (W Hh : Nat) (cs : List Pt) : Prop where
  pos : 0 < cs.length
  on : ∀ c ∈ cs, OnB W Hh c
  near : ∀ i c d, (clo cs)[i]? = some c → (clo cs)[i + 1]? = some d → dst c d = 1
theorem clo_len (cs : List Pt) : (clo cs).length = cs.length + 1 := by unfold clo; simp
theorem clo_on {cs : List Pt} (l : LoopOk W Hh cs) : ∀ c ∈ clo cs, OnB W Hh c := fun c hc => by
  unfold clo at hc
  rcases List.mem_append.mp hc with h | h
  · exact l.on c h
  · have e0 : cs[0]? = some (cs[0]'l.pos) := List.getElem?_eq_getElem _
    rw [List.mem_singleton.mp h, getD_of e0]; exact l.on _ (List.getElem_mem _)
theorem lw_of (v : Vd W Hh F) (ad : AdmAll W Hh F) {cs : List Pt} (l : LoopOk W Hh cs) : Lw (Ln F (clo cs)) cs.length (W + Hh) := by
  have hcl := clo_len cs
  have at_ : ∀ i, i ≤ cs.length → ∃ c, (clo cs)[i]? = some c ∧ OnB W Hh c := fun i hi => by
    have h : i < (clo cs).length := by omega
    exact ⟨_, List.getElem?_eq_getElem h, clo_on l _ (List.getElem_mem h)⟩
  have lnEq : ∀ {a b : Nat} {c d : Pt}, (clo cs)[a]? = some c → (clo cs)[b]? = some d → Ln F (clo cs) a b = decide (sgm (clo cs) a b = line F c d) := fun h1 h2 => by
    unfold Ln
    rw [getD_of h1, getD_of h2]
  refine ⟨fun a ha => ?_, fun a b hab hb hL => ?_, fun a b hab hb hL => ?_⟩
  · obtain ⟨c, hc, bc⟩ := at_ a (by omega)
    obtain ⟨d, hd, bd⟩ := at_ (a + 1) (by omega)
    rw [lnEq hc hd]
    refine decide_eq_true ?_
    rw [line_near v ad bc bd (l.near a c d hc hd), sgm_cons (by omega) hc, sgm_cons (Nat.le_refl _) hd]
    unfold sgm
    simp
  · obtain ⟨P, hP, bP⟩ := at_ a (by omega)
    obtain ⟨Q, hQ, bQ⟩ := at_ b hb
    obtain ⟨P', hP', bP'⟩ := at_ (a + 1) (by omega)
    obtain ⟨Q', hQ', bQ'⟩ := at_ (b - 1) (by omega)
    rw [lnEq hP hQ] at hL
    have hS := of_decide_eq_true hL
    have s1 := sgm_snoc' (by omega : a < b) hQ
    have s2 := sgm_cons (by omega : a ≤ b) hP
    have s3 := sgm_snoc (by omega : a ≤ b - 1) hQ'
    have s4 := sgm_cons (by omega : a + 1 ≤ b) hP'
    have hlen := sgm_len (by omega : a ≤ b) (by omega : b < (clo cs).length)
    have hdst : dst P Q = b - a := by
      have := line_len v bP bQ
      rw [← hS, hlen] at this
      omega
    have hne : P ≠ Q := fun e => by rw [e, dst_self] at hdst; omega
    rw [lnEq hP hQ', lnEq hP' hQ]
    rcases Int.le_total P.1 Q.1 with h1 | h1
    · have o : Ok W Hh P Q := ⟨bP, bQ, h1⟩
      rw [line_fwd v ad o] at hS
      obtain ⟨om, dm⟩ := o.nx v hne
      obtain ⟨n, hn⟩ : ∃ n, dst P Q = n + 1 := ⟨dst P Q - 1, by omega⟩
      obtain ⟨bt, d1, _⟩ := pen_ok v n P hn o
      have oe : Ok W Hh P (pen (walk F P Q)) := ⟨bP, btw_onB o bt, bt.1⟩
      have hl := last_eq v ad o hne
      have e1 : sgm (clo cs) a (b - 1) = walk F P (pen (walk F P Q)) := by
        rw [s1] at hS
        rw [hl] at hS
        exact (List.append_inj_left' hS rfl)
      have e2 : sgm (clo cs) (a + 1) b = walk F (nx F P Q) Q := by
        rw [s2, ok_step v o hne] at hS
        exact (List.cons.inj hS).2
      have q1 : Q' = pen (walk F P Q) := by
        obtain ⟨L, hL2, _⟩ := walk_last v _ P rfl oe
        rw [s3, hL2] at e1
        have := List.append_inj_right' e1 rfl
        exact (List.cons.inj this).1
      have q2 : P' = nx F P Q := by
        rw [s4] at e2
        have hd2 : dst (nx F P Q) Q ≠ 0 := by omega
        have hne2 : nx F P Q ≠ Q := fun e => by rw [e, dst_self] at hd2; exact hd2 rfl
        rw [ok_step v om hne2] at e2
        exact (List.cons.inj e2).1
      exact ⟨decide_eq_true (by rw [q1, line_fwd v ad oe]; exact e1), decide_eq_true (by rw [q2, line_fwd v ad om]; exact e2)⟩
    · have o : Ok W Hh Q P := ⟨bQ, bP, h1⟩
      have hne' : Q ≠ P := fun e => hne e.symm
      have hdst' : dst Q P = b - a := by rw [dst_symm]; exact hdst
      rw [line_bwd v ad o] at hS
      obtain ⟨om, dm⟩ := o.nx v hne'
      obtain ⟨n, hn⟩ : ∃ n, dst Q P = n + 1 := ⟨dst Q P - 1, by omega⟩
      obtain ⟨bt, d1, _⟩ := pen_ok v n Q hn o
      have oe : Ok W Hh Q (pen (walk F Q P)) := ⟨bQ, btw_onB o bt, bt.1⟩
      have hl := last_eq v ad o hne'
      have e1 : sgm (clo cs) a (b - 1) = (walk F (nx F Q P) P).reverse := by
        rw [s1, ok_step v o hne', List.reverse_cons] at hS
        exact (List.append_inj_left' hS rfl)
      have e2 : sgm (clo cs) (a + 1) b = (walk F Q (pen (walk F Q P))).reverse := by
        rw [s2, hl, List.reverse_append] at hS
        exact (List.cons.inj hS).2
      have q1 : Q' = nx F Q P := by
        have hd2 : dst (nx F Q P) P ≠ 0 := by omega
        have hne2 : nx F Q P ≠ P := fun e => by rw [e, dst_self] at hd2; exact hd2 rfl
        rw [s3, ok_step v om hne2, List.reverse_cons] at e1
        have := List.append_inj_right' e1 rfl
        exact (List.cons.inj this).1
      have q2 : P' = pen (walk F Q P) := by
        obtain ⟨L, hL2, _⟩ := walk_last v _ Q rfl oe
        rw [s4, hL2, List.reverse_append] at e2
        exact (List.cons.inj e2).1
      exact ⟨decide_eq_true (by rw [q1, line_bwd v ad om]; exact e1), decide_eq_true (by rw [q2, line_bwd v ad oe]; exact e2)⟩
  · obtain ⟨P, hP, bP⟩ := at_ a (by omega)
    obtain ⟨Q, hQ, bQ⟩ := at_ b hb
    rw [lnEq hP hQ] at hL
    have hS := of_decide_eq_true hL
    have hlen := sgm_len (by omega : a ≤ b) (by omega : b < (clo cs).length)
    have := line_len v bP bQ
    rw [← hS, hlen] at this
    unfold dst OnB at *
    omega
/-- the last letter of a pair -/
def lastG (F : Fn) : Fn := fun b => if (pen (walk F b.1 b.2)).1 < b.2.1 then "E" else if (pen (walk F b.1 b.2)).2 < b.2.2 then "N" else "S"
theorem lastG_bk (v : Vd W Hh F) {p q : Pt} (o : Ok W Hh p q) (h : p ≠ q) : bk q (lastG F (p, q)) = pen (walk F p q) := by
  have hd : dst p q ≠ 0 := fun e => h (dst_zero e)
  obtain ⟨n, hn⟩ : ∃ n, dst p q = n + 1 := ⟨dst p q - 1, by omega⟩
  obtain ⟨bt, d1, _⟩ := pen_ok v n p hn o
  unfold lastG
  simp only
  unfold Btw at bt
  unfold dst at d1
  by_cases h1 : (pen (walk F p q)).1 < q.1
  · rw [if_pos h1, bk_E]
    exact Prod.ext (by simp only; omega) (by simp only; omega)
  · rw [if_neg h1]
    by_cases h2 : (pen (walk F p q)).2 < q.2
    · rw [if_pos h2, bk_N]
      exact Prod.ext (by simp only; omega) (by simp only; omega)
    · rw [if_neg h2, bk_S]
      exact Prod.ext (by simp only; omega) (by simp only; omega)
theorem half_mem {half : Str} (hh : half = "rising" ∨ half = "falling") {b : Pq} (hb : b ∈ pairsL W Hh half) : Ok W Hh b.1 b.2 ∧ b.1.1 < b.2.1 ∧ ((half = "rising" ∧ b.1.2 < b.2.2) ∨ (half = "falling" ∧ b.2.2 < b.1.2)) := by
  rcases hh with rfl | rfl
  · have := rising_mem.mp (show b ∈ risingL W Hh by unfold pairsL at hb; rw [if_pos rfl] at hb; exact hb)
    exact ⟨⟨this.1, this.2.1, by omega⟩, this.2.2.1, .inl ⟨rfl, this.2.2.2⟩⟩
  · have := falling_mem.mp (show b ∈ fallingL W Hh by unfold pairsL at hb; rw [if_neg (by decide)] at hb; exact hb)
    exact ⟨⟨this.1, this.2.1, by omega⟩, this.2.2.1, .inr ⟨rfl, this.2.2.2⟩⟩
theorem half_in {half : Str} {p q : Pt} (hp : OnB W Hh p) (hq : OnB W Hh q) (h1 : p.1 < q.1) (h2 : (half = "rising" ∧ p.2 < q.2) ∨ (half = "falling" ∧ q.2 < p.2)) : (p, q) ∈ pairsL W Hh half := by
  rcases h2 with ⟨rfl, h⟩ | ⟨rfl, h⟩
  · unfold pairsL; rw [if_pos rfl]; exact rising_mem.mpr ⟨hp, hq, h1, h⟩
  · unfold pairsL; rw [if_neg (by decide)]; exact falling_mem.mpr ⟨hp, hq, h1, h⟩
theorem half_ok (v : Vd W Hh F) (ad : AdmAll W Hh F) {half : Str} (hh : half = "rising" ∨ half = "falling") : (∀ b ∈ pairsL W Hh half, F b = "E" ∨ F b = steepL half) ∧ LastOk W Hh half F (lastG F) ∧ ChkOk W Hh half F (lastG F) := by
  refine ⟨fun b hb => ?_, fun b hb => ?_, fun b hb => ?_⟩
  · obtain ⟨o, hx, hy⟩ := half_mem hh hb
    have hv := v b.1 b.2 o.bp o.bq hx (by omega)
    rw [← steepS] at hv
    rcases hv with h | h
    · exact .inl h
    · refine .inr (Eq.trans h ?_)
      unfold steep steepL
      rcases hy with ⟨e, h1⟩ | ⟨e, h1⟩
      · rw [if_neg (by omega), if_pos e]
      · rw [if_pos h1, if_neg (by rw [e]; decide)]
  · obtain ⟨o, hx, hy⟩ := half_mem hh hb
    obtain ⟨p, q⟩ := b
    simp only at o hx hy
    have hne : p ≠ q := fun e => by rw [e] at hx; omega
    have hyy : p.2 ≠ q.2 := by omega
    have en : mv p (F (p, q)) = nx F p q := by
      unfold nx ltr
      rw [if_neg hyy, if_neg (show ¬ p.1 = q.1 by omega)]
    obtain ⟨om, dm⟩ := o.nx v hne
    have hd2 : 2 ≤ dst p q := by unfold dst; omega
    have hm : nx F p q ≠ q := fun e => by rw [e, dst_self] at dm; omega
    have hpen := pen_step v o hne hm
    simp only
    rw [en]
    obtain ⟨n, hn⟩ : ∃ n, dst (nx F p q) q = n + 1 := ⟨dst (nx F p q) q - 1, by omega⟩
    obtain ⟨bt, d1, _⟩ := pen_ok v n (nx F p q) hn om
    refine ⟨?_, fun h1 h2 => ⟨half_in om.bp o.bq (by have := om.le; omega) ?_, by rw [stp_dst, stp_dst]; simp only; omega⟩⟩
    · show lastG F (p, q) = _
      unfold ltr
      unfold Btw at bt
      unfold dst at d1
      by_cases h1 : (nx F p q).2 = q.2
      · rw [if_pos h1]
        unfold lastG
        simp only
        rw [hpen, if_pos (by omega)]
      · by_cases h2 : (nx F p q).1 = q.1
        · rw [if_neg h1, if_pos h2]
          unfold lastG
          simp only
          rw [hpen, if_neg (by omega)]
          by_cases h3 : (nx F p q).2 < q.2
          · rw [if_pos h3, if_pos (by omega)]
          · rw [if_neg h3, if_neg (by omega)]
        · rw [if_neg h1, if_neg h2]
          unfold lastG
          simp only
          rw [hpen]
    · have hs := nx_shape v o hne
      have hside : (p.2 < q.2 → (nx F p q).2 < q.2) ∧ (q.2 < p.2 → q.2 < (nx F p q).2) := by
        rcases hs with ⟨e, h⟩ | ⟨e, h⟩ | ⟨e, h⟩ <;> rw [e] at h1 ⊢ <;> simp only at h1 ⊢ <;> omega
      rcases hy with ⟨e, h⟩ | ⟨e, h⟩
      · exact .inl ⟨e, hside.1 h⟩
      · exact .inr ⟨e, hside.2 h⟩
  · obtain ⟨o, hx, hy⟩ := half_mem hh hb
    obtain ⟨p, q⟩ := b
    simp only at o hx hy
    have hne : p ≠ q := fun e => by rw [e] at hx; omega
    have hyy : p.2 ≠ q.2 := by omega
    have hd2 : 2 ≤ dst p q := by unfold dst; omega
    have hbk := lastG_bk v o hne
    obtain ⟨n, hn⟩ : ∃ n, dst p q = n + 1 := ⟨dst p q - 1, by omega⟩
    obtain ⟨bt, d1, _⟩ := pen_ok v n p hn o
    simp only
    rw [hbk]
    refine ⟨?_, fun h1 h2 => half_in o.bp (btw_onB o bt) ?_ ?_⟩
    · rw [ad _ p q o hd2 (Nat.le_refl _)]
      unfold ltr
      rw [if_neg hyy, if_neg (show ¬ p.1 = q.1 by omega)]
    · unfold Btw at bt; omega
    · unfold Btw at bt
      rcases hy with ⟨e, h⟩ | ⟨e, h⟩
      · exact .inl ⟨e, by omega⟩
      · exact .inr ⟨e, by omega⟩
end
end Cp
end
section
namespace Cp
open PySem PySem.Spec PyProof.Rows L2
local macro_rules | `(tactic| walk_at "f") => `(tactic| first | assumption | (refine' keep_of ?_ (by assumption); walk_at "f") | (refine Cn.up ?_ (by assumption); walk_at "f") | (refine Pr.up ?_ (by assumption); walk_at "f") | (refine NTab.up ?_ (by assumption); walk_at "f") | (refine PlI.up ?_ (by assumption); walk_at "f") | (refine LsR.up (by first | exact trC | exact trP | exact trI | assumption) ?_ (by assumption); walk_at "f"))
local macro_rules | `(tactic| walk_at "sm") => `(tactic| first | exact Same.refl _ | assumption | (refine same_tr ?_ (by assumption); walk_at "sm"))
local macro_rules | `(tactic| walk_at "fr") => `(tactic| first | assumption | (refine nof ?_ (by assumption); walk_at "fr"))
local macro_rules | `(tactic| walk_at "s1") => `(tactic| first
  | with_reducible refine s_seq ?_ | with_reducible refine s_ret ?_ | with_reducible refine s_asg ?_ | with_reducible refine s_if ?_ | with_reducible refine s_next ?_ | with_reducible refine s_drop ?_
  | ((with_reducible refine' s_var ?h ?q); (case h => exact rfl)) | with_reducible refine s_c ?_ | with_reducible refine s_op ?_ | with_reducible refine s_I0 ?_
  | with_reducible refine s_eqI ?_ | with_reducible refine s_neI ?_ | with_reducible refine s_eqS ?_ | with_reducible refine s_neS ?_
  | with_reducible refine s_test ?_ | with_reducible refine s_tB ?_ | with_reducible refine s_bl ?_ | with_reducible refine s_and ?_ | with_reducible refine s_or ?_ | with_reducible refine s_not ?_ | with_reducible refine s_andV ?_ | with_reducible refine s_chain ?_
  | with_reducible refine s_cons ?_ | with_reducible refine s_nil ?_ | with_reducible refine s_tup ?_ | with_reducible refine s_lst ?_
  | with_reducible refine s_CB ?_ | with_reducible refine s_call ?_ | with_reducible refine s_gname ?_ | with_reducible refine s_gcons ?_ | with_reducible refine s_gnil ?_
  | ((with_reducible refine' s_gtup ?h ?e ?q); (case h => walk_at "f"); (case e => exact rfl))
  | ((with_reducible refine' s_ixT ?h ?e ?q); (case h => walk_at "f"); (case e => exact rfl))
  | (with_reducible refine s_BM ?_) | ((with_reducible refine s_new ?z ?q); (case z => exact rfl); intro p H1 hp hs hv))
local macro_rules | `(tactic| walk_at "s2") => `(tactic| first
  | walk_at "s1" | with_reducible refine iteF ?_ | with_reducible refine iteT ?_ | with_reducible refine iteNT ?_ | with_reducible refine iteNF ?_ | with_reducible refine u_tup ?_ | with_reducible refine u_lst ?_ | ((with_reducible refine u_newT ?z ?q); (case z => exact rfl); intro p H1 hp hs hv) | ((with_reducible refine u_newL ?z ?q); (case z => exact rfl); intro p H1 hp hs hv) | with_reducible refine s_min2 ?_ | ((with_reducible refine' s_aug ?h ?q); (case h => exact rfl)) | with_reducible refine s_ipI ?_ | with_reducible refine s_sl2 ?_ | with_reducible refine s_part ?_ | with_reducible refine u_part ?_ | with_reducible refine s_nopart ?_ | with_reducible refine s_rev ?_ | with_reducible refine s_un ?_ | with_reducible refine s_U ?_ | with_reducible refine s_gsub ?_ | ((with_reducible refine s_lenS ?z ?q); (case z => assumption)) | with_reducible refine s_rng1 ?_ | with_reducible refine s_rng2 ?_ | with_reducible refine s_list ?_ | with_reducible refine s_istr ?_ | with_reducible refine u_str ?_ | with_reducible refine s_for ?_ | with_reducible refine s_lc ?_ | with_reducible refine s_lc2 ?_ | with_reducible refine s_yes ?_ | with_reducible refine s_bm ?_ | with_reducible refine s_mth ?_ | with_reducible refine s_abs ?_ | with_reducible refine s_int1 ?_ | with_reducible refine s_nget ?_ | with_reducible refine s_fld ?_
  | ((with_reducible refine' s_lenL ?h ?q); (case h => walk_at "f"))
  | ((with_reducible refine' s_lenT ?h ?q); (case h => walk_at "f")))
local macro_rules | `(tactic| walk_at "go") => `(tactic| repeat walk_at "s2")
section
variable {P : Program} {w : World} {K : PySem.W.Frag} {mg : Str → Option Value} {base : Heap} {C : Addr}
def eIn (ms : List Int) : PyData := .list (ms.map PyData.int)
theorem canLay_ints : ∀ ms : List Int, PyData.canLayAll0 (ms.map PyData.int) = true
  | [] => rfl
  | m :: ms => by rw [List.map_cons, PyData.canLayAll0, canLay_ints ms]; rfl
theorem depth_ints : ∀ ms : List Int, PyData.depthAll (ms.map PyData.int) ≤ 8
  | [] => by simp [PyData.depthAll]
  | c :: cs => by
    have h2 := depth_ints cs
    simp only [List.map_cons, PyData.depthAll, PyData.depth]
    omega
theorem dp_ints {H : Hp} {p : Addr} {ms : List Int} (h : LsR In H p ms) : Dp K H (.ref p) (eIn ms) := by
  refine .lst (SqL.of h.int) ?_
  induction ms with
  | nil => exact .nil
  | cons m ms ih =>
    clear ih h
    have : ∀ ms : List Int, DpAll K H (ms.map V.int) (ms.map PyData.int) := fun ms => by
      induction ms with
      | nil => exact .nil
      | cons m ms ih => exact .cons (.int m) ih
    exact this (m :: ms)
def eBoth (cs : List Pt) (ms : List Int) : PyData := .list [eLs cs, eIn ms]
theorem shaped_both (cs : List Pt) (ms : List Int) : SeqAt.shaped (eBoth cs ms) = true := by
  unfold SeqAt.shaped eBoth eLs eIn
  have h1 := depth_all cs
  have h2 := depth_ints ms
  have h3 : (PyData.list [.list (cs.map eP), .list (ms.map PyData.int)]).canLay0 = true := by
    simp only [PyData.canLay0, PyData.canLayAll0, canLay_all, canLay_ints, Bool.and_self]
  rw [h3, Bool.true_and]
  refine decide_eq_true ?_
  simp only [PyData.depth, PyData.depthAll]
  omega
theorem eqvAll_ints : ∀ ms : List Int, PyData.eqvAll (ms.map PyData.int) (ms.map PyData.int) = true
  | [] => rfl
  | m :: ms => by
    rw [List.map_cons, PyData.eqvAll, eqvAll_ints ms]
    simp [PyData.eqv]
theorem eqv_both (cs : List Pt) (ms : List Int) : PyData.eqv (eBoth cs ms) (eBoth cs ms) = true := by
  unfold eBoth eIn
  simp only [PyData.eqv, PyData.eqvAll, eqv_eLs, eqvAll_ints, decide_true, Bool.and_self]
theorem u_neBoth {H : Hp} {Q : VK} {p q a b a' b' : Addr} {cs : List Pt} {ms : List Int} (hp : H p = some (.lst [.ref a, .ref b])) (hq : H q = some (.lst [.ref a', .ref b'])) (ha : LsR Cn H a cs) (hb : LsR In H b ms) (ha' : LsR Cn H a' cs) (hb' : LsR In H b' ms) (k : Q (.bl false) H) : rNeD K (.ref p) (.ref q) H Q :=
  ⟨eBoth cs ms, eBoth cs ms, .lst (SqL.of hp) (.cons ha.dp (.cons (dp_ints hb) .nil)), .lst (SqL.of hq) (.cons ha'.dp (.cons (dp_ints hb') .nil)), shaped_both _ _, shaped_both _ _, by rw [eqv_both]; exact k⟩
theorem s_eqB {H : Hp} {Q : VK} {a b : Bool} (q : Q (.bl (decide (a = b))) H) : rEq (.bl a) (.bl b) H Q := ⟨rfl, by
  have e : decide (V.bl a = V.bl b) = decide (a = b) := by cases a <;> cases b <;> rfl
  rw [e]; exact q⟩
theorem s_neB {H : Hp} {Q : VK} {a b : Bool} (q : Q (.bl (!decide (a = b))) H) : rNe (.bl a) (.bl b) H Q := ⟨rfl, by
  have e : decide (V.bl a = V.bl b) = decide (a = b) := by cases a <;> cases b <;> rfl
  rw [e]; exact q⟩
def spAcc (P : Program) (w : World) (C : Addr) : Sp := fun vs H Q _ => ∃ x p m, ∃ W Hh : Nat, ∃ F : Fn, ∃ cs, ∃ ms : List Int, vs = [.ref x, .ref p, .ref m, .bl (okM (Ln F (clo cs)) cs.length ms)] ∧ PlI P w C H x W Hh F ∧ Vd W Hh F ∧ W ≤ 8 ∧ Hh ≤ 8 ∧ LsR Cn H p cs ∧ LsR In H m ms ∧ (∀ c ∈ cs, OnB W Hh c) ∧ 0 < cs.length ∧ cs.length ≤ 1000 ∧ ms.length ≤ 5000 ∧ ∀ H', Same H H' → Q (.bl true) H'
theorem sc_l_accepts : FnScope ["_law_plane", "_law_loop", "_law_marks", "_law_wanted", "_law_passed", "_law_told"] ["_law_plane", "_law_loop", "_law_marks", "_law_wanted"] (defScope s_l_accepts) := ⟨rfl, rfl, rfl, by decide +kernel, rfl, by decide +kernel, by decide +kernel⟩
theorem c_l_accepts (g : Gs mg) (c_is_least_marks : Cal P w K mg base 6 "is_least_marks" ["plane", "loop", "marks"] (spOkM P w C)) {f : Addr} (hm : mg "_law_accepts" = some (.ref f)) (F : Fd K "_law_accepts" "_law_accepts" s_l_accepts f) : Cal P w K mg base 7 "_law_accepts" ["_law_plane", "_law_loop", "_law_marks", "_law_wanted"] (spAcc P w C) := by
  refine Cal.mk' hm (fn_mk (k := 6) F sc_l_accepts (fun _ _ _ _ _ _ us hl => match us, hl with | [_, _, _, _], _ => rfl) (fun vs H Q E h => ?_) (fun cdv A outer s H vs Q E hr h => ?_))
  · obtain ⟨_, _, _, _, _, _, _, _, rfl, _⟩ := h; rfl
  · obtain ⟨x, p, m, W, Hh, F, cs, ms, rfl, pl, vd, hW, hH, hp, hm, hon, h0, hz, hmz, k⟩ := h
    refine ⟨_, (pss_cons (ps_asg (pe_ulst (pa_cons (pe_callTy cr_listOf (by rfl) g.list (by rfl) (pa_cons (pv 1) pa_nil)) (pa_cons (pe_callTy cr_listOf (by rfl) g.list (by rfl) (pa_cons (pv 2) pa_nil)) pa_nil))) (pg_name (i := 4) sc_l_accepts.nd rfl (.inl rfl)))
      (pss_cons (ps_asg (pc c_is_least_marks hr (pa_cons (pv 0) (pa_cons (pe_ix ix_list (pv 4) (pe_int) (fun _ _ => rfl)) (pa_cons (pe_ix ix_list (pv 4) (pe_int) (fun _ _ => rfl)) pa_nil)))) (pg_name (i := 5) sc_l_accepts.nd rfl (.inl rfl)))
      (pss_cons (ps_if (PW.pt (pw_or (pt_cmpR (op_neD hr.units) (pv 4) (pe_ulst (pa_cons (pv 1) (pa_cons (pv 2) pa_nil))) (nomark _)) (pw_or (pt_not (pt_val (pe_callB call_isi (by rfl) g.isinstance (by rfl) (pa_cons (pv 5) (pa_cons (pe_bltn (v := .ty "bool") (by rfl) g.bool (by rfl) rfl) pa_nil))))) (pw_or1 (pt_cmpR op_ne (pv 5) (pv 3) (nomark _)))))) (pss_one (ps_ret (pe_bl))) pss_nil)
      (pss_cons (ps_asg (pc c_is_least_marks hr (pa_cons (pv 0) (pa_cons (pe_callTy cr_tupleOf (by rfl) g.tuple (by rfl) (pa_cons (pv 1) pa_nil)) (pa_cons (pe_callTy cr_tupleOf (by rfl) g.tuple (by rfl) (pa_cons (pv 2) pa_nil)) pa_nil)))) (pg_name (i := 5) sc_l_accepts.nd rfl (.inl rfl)))
      (pss_one (ps_ret (pe_and (pe_callB call_isi (by rfl) g.isinstance (by rfl) (pa_cons (pv 5) (pa_cons (pe_bltn (v := .ty "bool") (by rfl) g.bool (by rfl) rfl) pa_nil))) (pe_one (pe_cmpR op_eq (pv 5) (pv 3) (nomark _)))))))))), ?_⟩
    generalize hok : okM (Ln F (clo cs)) cs.length ms = ok
    walk_at "go"
    refine u_listOf trC (.inl hp) fun l1 H1 hl1 hs1 hm1 => ?_
    walk_at "go"
    refine u_listOf trI (.inl (hm.up trI hs1)) fun l2 H2 hl2 hs2 hm2 => ?_
    walk_at "go"
    rename_i q H3 hq hs3 hm3
    have s03 : Same H H3 := Same.trans hs1 (Same.trans hs2 hs3)
    have a3 : LsR Cn H3 l1 cs := (hm1.up trC hs2).up trC hs3
    have b3 : LsR In H3 l2 ms := hm2.up trI hs3
    refine ⟨q, _, _, _, rfl, rfl, SqL.of hm3, rfl, ?_⟩
    walk_at "go"
    refine ⟨q, _, _, _, rfl, rfl, SqL.of hm3, rfl, ?_⟩
    walk_at "go"
    refine ⟨x, l1, l2, W, Hh, F, cs, ms, rfl, pl.up s03, vd, hW, hH, .inl a3, .inl b3, hon, h0, hz, hmz, fun H4 hs4 => ?_⟩
    rw [hok]
    walk_at "go"
    rename_i q2 H5 hq2 hs5 hm5
    have s35 : Same H3 H5 := Same.trans hs4 hs5
    refine u_neBoth (s35 _ _ hm3) hm5 (a3.up trC s35) (b3.up trI s35) ((hp.up trC s03).up trC s35) ((hm.up trI s03).up trI s35) ?_
    walk_at "go"
    refine isi_bb ?_
    walk_at "go"
    refine s_neB ?_
    walk_at "go"
    refine ite3n (fun h => absurd rfl h) (fun _ => ?_)
    have s05 : Same H H5 := Same.trans s03 s35
    walk_at "go"
    refine u_tupleOf trC (hp.up trC s05) fun l3 H6 hl3 hs6 hm6 => ?_
    walk_at "go"
    refine u_tupleOf trI (hm.up trI (Same.trans s05 hs6)) fun l4 H7 hl4 hs7 hm7 => ?_
    walk_at "go"
    have s07 : Same H H7 := Same.trans s05 (Same.trans hs6 hs7)
    refine ⟨x, l3, l4, W, Hh, F, cs, ms, rfl, pl.up s07, vd, hW, hH, SqR.up trC (.inr hm6) hs7, .inr hm7, hon, h0, hz, hmz, fun H8 hs8 => ?_⟩
    rw [hok]
    walk_at "go"
    refine isi_bb ?_
    walk_at "go"
    refine s_eqB ?_
    rw [decide_eq_true rfl]
    exact k H8 (Same.trans s07 hs8)
def spFits (P : Program) (w : World) (C : Addr) : Sp := fun vs H Q _ => ∃ x p r, ∃ W Hh most : Nat, ∃ F : Fn, ∃ cs, vs = [.ref x, .ref p, .ref r] ∧ PlI P w C H x W Hh F ∧ Vd W Hh F ∧ W ≤ 8 ∧ Hh ≤ 8 ∧ LsR Cn H p cs ∧ LLR In H r (reachL (Ln F (clo cs)) cs.length most) ∧ Lw (Ln F (clo cs)) cs.length most ∧ (∀ c ∈ cs, OnB W Hh c) ∧ 0 < cs.length ∧ cs.length ≤ 900 ∧ ∀ H', Same H H' → Q (.bl true) H'
theorem okS_gr {L : Nat → Nat → Bool} {n most : Nat} (l : Lw L n most) {a : Nat} {ms : List Nat} (g : Gr L n a ms) : ∀ m r, ms = m :: r → okS L n (m : Int) ((r.map fun (x : Nat) => (x : Int)) ++ [(n : Int)]) = true := by
  induction g with
  | nil => intro m r h; cases h
  | @cons a b ms ha f g ih =>
    intro m r h
    cases h
    have step : okS L n (a : Int) [(b : Int)] = true := by
      have h1 := f.lt
      have h2 := f.le
      have h3 := f.at_ l
      unfold okS okS
      rw [Int.toNat_natCast, Int.toNat_natCast, h3, decide_eq_true (by omega), decide_eq_true (by omega)]
      by_cases h4 : b < n
      · rw [f.stop h4]; simp
      · rw [decide_eq_false (by omega)]; simp
    cases g with
    | nil => exact step
    | @cons _ c ms' hb f' g' =>
      have ih2 := ih b ms' rfl
      rw [List.map_cons, List.cons_append]
      unfold okS at step ⊢
      rw [Bool.and_eq_true] at step ⊢
      exact ⟨step.1, ih2⟩
theorem okM_gr {L : Nat → Nat → Bool} {n most : Nat} (l : Lw L n most) {ms : List Nat} (hn : 0 < n) (g : Gr L n 0 ms) : okM L n (ms.map fun (x : Nat) => (x : Int)) = true := by
  cases g with
  | nil => omega
  | @cons _ b ms' h f g' =>
    have := okS_gr l (.cons h f g') 0 ms' rfl
    unfold okM
    rw [List.map_cons, List.cons_append]
    show (decide (((0 : Nat) : Int) = 0) && okS L n ((0 : Nat) : Int) _) = true
    rw [this]
    rfl
theorem sc_l_loop_fits : FnScope ["_law_plane", "_law_loop", "_law_reach_here", "_law_marks", "_law_turn", "_law_passed", "_law_told", "_law_mark", "_law_chain", "_law_k"] ["_law_plane", "_law_loop", "_law_reach_here"] (defScope s_l_loop_fits) := ⟨rfl, rfl, rfl, by decide +kernel, rfl, by decide +kernel, by decide +kernel⟩
theorem c_l_loop_fits (g : Gs mg) (c_least_marks : Cal P w K mg base 7 "least_marks" ["plane", "loop"] (spMarks P w C)) (c_least_chain : Cal P w K mg base 8 "least_chain" ["plane", "loop"] (spChain P w C)) (c_l_is_integer : Cal P w K mg base 1 "_law_is_integer" ["_law_told"] spIsI) (c_l_are_least : Cal P w K mg base 1 "_law_are_least" ["_law_reach_here", "_law_marks"] spAreL) (c_l_fewest : Cal P w K mg base 1 "_law_fewest" ["_law_reach_here"] spFewest) (c_l_is_row : Cal P w K mg base 3 "_law_is_row" ["_law_told", "_law_wanted"] spIsR) (c_l_accepts : Cal P w K mg base 7 "_law_accepts" ["_law_plane", "_law_loop", "_law_marks", "_law_wanted"] (spAcc P w C)) {f : Addr} (hm : mg "_law_loop_fits" = some (.ref f)) (F : Fd K "_law_loop_fits" "_law_loop_fits" s_l_loop_fits f) : Cal P w K mg base 9 "_law_loop_fits" ["_law_plane", "_law_loop", "_law_reach_here"] (spFits P w C) := by
  refine Cal.mk' hm (fn_mk (k := 8) F sc_l_loop_fits (fun _ _ _ _ _ _ us hl => match us, hl with | [_, _, _], _ => rfl) (fun vs H Q E h => ?_) (fun cdv A outer s H vs Q E hr h => ?_))
  · obtain ⟨_, _, _, _, _, _, _, _, rfl, _⟩ := h; rfl
  · obtain ⟨x, p, r, W, Hh, most, F, cs, rfl, pl, vd, hW, hH, hp, hr', lw, hon, h0, hz, k⟩ := h
    refine ⟨_, (pss_cons (ps_asg (pe_ulst pa_nil) (pg_name (i := 3) sc_l_loop_fits.nd rfl (.inl rfl)))
      (pss_cons (ps_for PassesOwn.never rfl (pi_range1 (by rfl) g.range (pa_cons (pe_int) pa_nil)) (pg_name (i := 4) sc_l_loop_fits.nd rfl (.inl rfl)) (pss_cons (ps_asg (pe_ix ix_list (pe_ulst (pa_cons (pe_callTy cr_listOf (by rfl) g.list (by rfl) (pa_cons (pv 1) pa_nil)) (pa_cons (pe_callTy cr_tupleOf (by rfl) g.tuple (by rfl) (pa_cons (pv 1) pa_nil)) pa_nil))) (pv 4) (fun _ _ => rfl)) (pg_name (i := 5) sc_l_loop_fits.nd rfl (.inl rfl)))
      (pss_cons (ps_asg (pc c_least_marks hr (pa_cons (pv 0) (pa_cons (pv 5) pa_nil))) (pg_name (i := 6) sc_l_loop_fits.nd rfl (.inl rfl)))
      (pss_cons (ps_if (PW.pt (pw_or (pt_cmpR (op_neD hr.units) (pe_callTy cr_listOf (by rfl) g.list (by rfl) (pa_cons (pv 5) pa_nil)) (pv 1) (nomark _)) (pw_or1 (pt_not (pt_val (pe_callB call_isi (by rfl) g.isinstance (by rfl) (pa_cons (pv 6) (pa_cons (pe_bltn (v := .ty "list") (by rfl) g.list (by rfl) rfl) pa_nil)))))))) (pss_one (ps_ret (pe_bl))) pss_nil)
      (pss_cons (ps_for PassesOwn.never rfl (pi_list (pv 6)) (pg_name (i := 7) sc_l_loop_fits.nd rfl (.inl rfl)) (pss_one (ps_if (pt_not (pt_val (pc c_l_is_integer hr (pa_cons (pv 7) pa_nil)))) (pss_one (ps_ret (pe_bl))) pss_nil)))
      (pss_cons (ps_if (PW.pt (pw_or (pt_not (pt_val (pc c_l_are_least hr (pa_cons (pv 2) (pa_cons (pv 6) pa_nil))))) (pw_or1 (pt_cmpR op_ne (pe_callB cr_len (by rfl) g.len (by rfl) (pa_cons (pv 6) pa_nil)) (pc c_l_fewest hr (pa_cons (pv 2) pa_nil)) (nomark _))))) (pss_one (ps_ret (pe_bl))) pss_nil)
      (pss_cons (ps_asg (pe_callTy cr_listOf (by rfl) g.list (by rfl) (pa_cons (pv 6) pa_nil)) (pg_name (i := 3) sc_l_loop_fits.nd rfl (.inl rfl)))
      (pss_cons (ps_expr (pe_bm PySem.F.plainAttrs_list PySem.F.slot_list_append PySem.F.type_list_append mt_append (pv 6) (pa_cons (pe_int) pa_nil)))
      (pss_one (ps_expr (pe_bm PySem.F.plainAttrs_list PySem.F.slot_list_pop PySem.F.type_list_pop mt_popAt (pv 6) (pa_cons (pe_int) pa_nil))))))))))))
      (pss_cons (ps_asg (pc c_least_chain hr (pa_cons (pv 0) (pa_cons (pe_callTy cr_tupleOf (by rfl) g.tuple (by rfl) (pa_cons (pv 1) pa_nil)) pa_nil))) (pg_name (i := 8) sc_l_loop_fits.nd rfl (.inl rfl)))
      (pss_cons (ps_if (pt_not (pt_val (pc c_l_is_row hr (pa_cons (pv 8) (pa_cons (pe_lc (own := [("_law_k", 9)]) (g := gName 9) rfl sc_l_loop_fits.nd (pi_list (pv 3)) (blkOk_by (own := [("_law_k", 9)]) (N := ["_law_plane", "_law_loop", "_law_reach_here", "_law_marks", "_law_turn", "_law_passed", "_law_told", "_law_mark", "_law_chain", "_law_k"]) (sc := defScope s_l_loop_fits) (by decide +kernel)) (fun _ _ _ _ _ => pg_name (i := 9) sc_l_loop_fits.nd rfl (Or.inl rfl)) (fun _ _ _ _ _ => pts_nil) (fun _ _ _ _ _ => pe_ix (r := rIxL K) ix_list (pv 1) (pv 9) (fun _ _ => rfl))) pa_nil))))) (pss_one (ps_ret (pe_bl))) pss_nil)
      (pss_one (ps_ret (pc c_l_accepts hr (pa_cons (pv 0) (pa_cons (pv 1) (pa_cons (pv 3) (pa_cons (pe_bl) pa_nil))))))))))), ?_⟩
    walk_at "go"
    rename_i m0 H1 hm0 hs1 hmm0
    refine u_rng1 (by omega) (by omega) ?_
    refine u_range (fun i σ H2 => ∃ m a b c d e ms, σ = [some (.ref x), some (.ref p), some (.ref r), some (.ref m), a, b, c, d, e, none] ∧ Same H H2 ∧ (0 < i → LsR In H2 m (ms.map fun (x : Nat) => (x : Int)) ∧ Gr (Ln F (clo cs)) cs.length 0 ms)) ⟨m0, _, _, _, _, _, [], rfl, hs1, fun h => by omega⟩ (fun i σ H2 hi h => ?_) (fun σ H2 h => ?_)
    · obtain ⟨m, a, b, c, d, e, ms0, rfl, s2, _⟩ := h
      walk_at "go"
      refine u_listOf trC (.inl (hp.up trC s2)) fun l1 H3 hl1 hs3 hm3 => ?_
      walk_at "go"
      refine u_tupleOf trC (hp.up trC (Same.trans s2 hs3)) fun l2 H4 hl2 hs4 hm4 => ?_
      walk_at "go"
      rename_i q H5 hq hs5 hm5
      have s05 : Same H H5 := Same.trans s2 (Same.trans hs3 (Same.trans hs4 hs5))
      have hi2 : i = 0 ∨ i = 1 := by
        have : (2 : Int).toNat = 2 := rfl
        omega
      have hboth : ∃ l, atI [V.ref l1, V.ref l2] ((0 : Int) + (i : Int)) = some (.ref l) ∧ (LsR Cn H5 l cs ∨ TsR Cn H5 l cs) := by
        rcases hi2 with rfl | rfl
        · exact ⟨l1, rfl, .inl ((hm3.up trC hs4).up trC hs5)⟩
        · exact ⟨l2, rfl, SqR.up trC (.inr hm4) hs5⟩
      obtain ⟨l, hl, hls⟩ := hboth
      refine ⟨q, _, _, _, rfl, rfl, SqL.of hm5, hl, ?_⟩
      walk_at "go"
      refine ⟨x, l, W, Hh, F, cs, rfl, pl.up s05, vd, hW, hH, hls, hon, h0, by omega, fun t H6 ms ht hs6 hm6 hg => ?_⟩
      have s06 : Same H H6 := Same.trans s05 hs6
      walk_at "go"
      refine u_listOf trC (SqR.up trC hls hs6) fun l3 H7 hl3 hs7 hm7 => ?_
      walk_at "go"
      have s07 : Same H H7 := Same.trans s06 hs7
      refine u_neL hm7 (hp.up trC s07) ?_
      walk_at "go"
      refine ite3n (fun h => absurd rfl h) (fun _ => ?_)
      walk_at "go"
      have ht7 := hm6.up trI hs7
      obtain ⟨xs7, hx7, _⟩ := id ht7
      refine isi_ll hx7 ?_
      walk_at "go"
      refine u_list hx7 ?_
      refine u_items (fun j σ H8 => ∃ d, σ = [some (.ref x), some (.ref p), some (.ref r), some (.ref m), some (.int ((0 : Int) + (i : Int))), some (.ref l), some (.ref t), d, e, none] ∧ H7 = H8) ⟨_, rfl, rfl⟩ (fun j σ H8 _ h => by obtain ⟨_, _, h⟩ := h; rw [← h]; exact ht7) (fun j c y σ H8 hj hy h => ?_) (fun σ H8 h => ?_)
      · obtain ⟨d, rfl, rfl⟩ := h
        obtain rfl : y = V.int c := hy
        walk_at "go"
        refine ⟨c, rfl, ?_⟩
        refine ⟨true, rfl, ?_⟩
        walk_at "go"
        exact ⟨_, rfl, rfl⟩
      obtain ⟨d, rfl, rfl⟩ := h
      have hgl := hg.len.2
      walk_at "go"
      refine ⟨r, t, Ln F (clo cs), cs.length, most, _, rfl, hr'.up trI s07, ht7, lw, hz, by rw [List.length_map]; omega, fun H8 hs8 => ?_⟩
      rw [okM_gr lw h0 hg]
      refine ⟨true, rfl, ?_⟩
      walk_at "go"
      have hx7l : xs7.length = ms.length := by
        obtain ⟨ys, hy, q⟩ := ht7
        rw [hx7] at hy
        cases hy
        have := Paired.length q
        rw [List.length_map] at this
        exact this
      refine ⟨r, Ln F (clo cs), cs.length, most, rfl, (hr'.up trI s07).up trI hs8, lw, hz, fun H9 m9 hs9 hm9 => ?_⟩
      walk_at "go"
      have em := hm9 ms hg
      refine ite3n (fun h => absurd (by rw [hx7l, em]) h) (fun _ => ?_)
      walk_at "go"
      have s79 : Same H7 H9 := Same.trans hs8 hs9
      refine u_listOf trI (.inl (ht7.up trI s79)) fun l5 H10 hl5 hs10 hm10 => ?_
      walk_at "go"
      have ht10 := (ht7.up trI s79).up trI hs10
      obtain ⟨xs10, hx10, pr10⟩ := id ht10
      have hx10l := Paired.length pr10
      have htl5 : t ≠ l5 := fun z => by
        obtain ⟨ys, hy, _⟩ := (ht7.up trI s79)
        rw [z, hl5] at hy; cases hy
      refine u_bmL hx10 ?_
      walk_at "go"
      refine s_append hx10 (by rw [hx10l, List.length_map]; omega) fun H11 bu11 e11 _ => ?_
      walk_at "go"
      refine u_bmL e11 ?_
      walk_at "go"
      refine ⟨t, _, 0, 0, (xs10 ++ [V.int 0])[0]'(by simp), rfl, rfl, e11, by decide, by decide, ?_, List.getElem?_eq_getElem _, ?_⟩
      · unfold seqIndex?
        simp
      have htH : H t = none := nof ht s05
      have bu12 : But t H11 (upd H11 t (.lst ((xs10 ++ [V.int 0]).eraseIdx 0))) := But.upd _ _ _
      refine ⟨l5, _, _, _, _, _, ms, rfl, But.same bu12 (But.same bu11 (Same.trans s07 (Same.trans s79 hs10)) htH) htH, fun _ => ⟨?_, hg⟩⟩
      refine (hm10.up2 trI (But.tup (p := t) bu11 hx10 fun _ z => by cases z) fun xs e => bu11 _ _ (fun z => htl5 z.symm) e).up2 trI (bu12.tup e11 fun _ z => by cases z) fun xs e => bu12 _ _ (fun z => htl5 z.symm) e
    · obtain ⟨m, a, b, c, d, e, ms, rfl, s2, hms⟩ := h
      obtain ⟨hm2, hg⟩ := hms (by decide)
      have hgl := hg.len.2
      walk_at "go"
      refine u_tupleOf trC (hp.up trC s2) fun l2 H4 hl2 hs4 hm4 => ?_
      walk_at "go"
      have s04 : Same H H4 := Same.trans s2 hs4
      refine ⟨x, l2, W, Hh, F, cs, rfl, pl.up s04, vd, hW, hH, .inr hm4, hon, h0, by omega, fun t H5 ms' ht hs5 hg' hm5 => ?_⟩
      have s05 : Same H H5 := Same.trans s04 hs5
      have hm25 := (hm2.up trI hs4).up trI hs5
      obtain ⟨xs5, hx5, _⟩ := id hm25
      walk_at "go"
      refine u_list hx5 ?_
      intro D hD
      have hmD : m ≠ D := fun z => by rw [z, hD] at hx5; cases hx5
      refine w_items (Rr := In) (as := ms.map fun (x : Nat) => (x : Int)) (fun j H6 => Bld Cn H5 H6 D ((ms.take j).map fun m => cs.getD m (0, 0)) ∧ LsR In H6 m (ms.map fun (x : Nat) => (x : Int))) ⟨⟨Same.new hD, hD, [], upd_same, .nil⟩, hm25.up trI (Same.new hD)⟩ (fun j H6 _ h => h.2) (fun j c y H6 hj hy h => ?_) (fun H6 h => ?_)
      · obtain ⟨B6, hr6⟩ := h
        obtain rfl : y = V.int c := hy
        rw [List.getElem?_map] at hj
        cases em : ms[j]? with
        | none => rw [em] at hj; cases hj
        | some mm =>
          rw [em] at hj
          obtain rfl : ((mm : Nat) : Int) = c := Option.some.inj hj
          have hmn := hg.lt mm (List.mem_of_getElem? em)
          walk_at "go"
          refine ⟨rfl, ?_⟩
          walk_at "go"
          have ec : cs[mm]? = some cs[mm] := List.getElem?_eq_getElem _
          refine u_ixL (a := cs[mm]) ((hp.up trC s05).up trC B6.same) (atI_nat ec) fun vc hvc => ?_
          refine B6.lc trC (Same.refl _) (a := cs.getD mm (0, 0)) (by rw [getD_of ec]; exact hvc) (by rw [List.length_map, List.length_take]; omega) fun H7 bu7 B7 => ⟨?_, ?_⟩
          · rw [List.take_add_one, em, List.map_append]
            exact B7
          · obtain ⟨ys, hy, _⟩ := id B6.ls
            exact hr6.up2 trI (bu7.tup hy fun _ z => by cases z) fun xs e => bu7 _ _ hmD e
      · obtain ⟨B6, hr6⟩ := h
        rw [List.length_map, List.take_length] at B6
        have emm : ms' = ms := by
          have uniq : ∀ {a : Nat} {ms : List Nat}, Gr (Ln F (clo cs)) cs.length a ms → ∀ ms', Gr (Ln F (clo cs)) cs.length a ms' → ms' = ms := by
            intro a ms g
            induction g with
            | nil =>
              intro ms' g'
              cases g' with
              | nil => rfl
              | cons h _ _ => omega
            | @cons a b ms ha f g ih =>
              intro ms' g'
              cases g' with
              | nil => omega
              | @cons _ b' ms'' ha' f' g'' =>
                have h1 := f.max lw f'.lt f'.le (f'.at_ lw)
                have h2 := f'.max lw f.lt f.le (f.at_ lw)
                have : b' = b := by omega
                subst this
                rw [ih _ g'']
          exact uniq hg ms' hg'
        rw [emm] at hm5
        walk_at "go"
        refine ⟨t, D, _, rfl, hm5.up trC B6.same, B6.ls, by rw [List.length_map]; omega, ?_⟩
        refine ⟨true, rfl, ?_⟩
        walk_at "go"
        have s06 : Same H H6 := Same.trans s05 B6.same
        refine ⟨x, p, m, W, Hh, F, cs, ms.map fun (x : Nat) => (x : Int), ?_, pl.up s06, vd, hW, hH, hp.up trC s06, hr6, hon, h0, by omega, by rw [List.length_map]; omega, fun H7 s7 => k H7 (Same.trans s06 s7)⟩
        rw [okM_gr lw h0 hg]
        rfl
end
end Cp
end
section
namespace Cp
open PySem PySem.Spec PyProof.Rows L2
local macro_rules | `(tactic| walk_at "f") => `(tactic| first | assumption | (refine' keep_of ?_ (by assumption); walk_at "f") | (refine Cn.up ?_ (by assumption); walk_at "f") | (refine Pr.up ?_ (by assumption); walk_at "f") | (refine NTab.up ?_ (by assumption); walk_at "f") | (refine PlI.up ?_ (by assumption); walk_at "f") | (refine LsR.up (by first | exact trC | exact trP | exact trI | assumption) ?_ (by assumption); walk_at "f"))
local macro_rules | `(tactic| walk_at "sm") => `(tactic| first | exact Same.refl _ | assumption | (refine same_tr ?_ (by assumption); walk_at "sm"))
local macro_rules | `(tactic| walk_at "fr") => `(tactic| first | assumption | (refine nof ?_ (by assumption); walk_at "fr"))
local macro_rules | `(tactic| walk_at "s1") => `(tactic| first
  | with_reducible refine s_seq ?_ | with_reducible refine s_ret ?_ | with_reducible refine s_asg ?_ | with_reducible refine s_if ?_ | with_reducible refine s_next ?_ | with_reducible refine s_drop ?_
  | ((with_reducible refine' s_var ?h ?q); (case h => exact rfl)) | with_reducible refine s_c ?_ | with_reducible refine s_op ?_ | with_reducible refine s_I0 ?_
  | with_reducible refine s_eqI ?_ | with_reducible refine s_neI ?_ | with_reducible refine s_eqS ?_ | with_reducible refine s_neS ?_
  | with_reducible refine s_test ?_ | with_reducible refine s_tB ?_ | with_reducible refine s_bl ?_ | with_reducible refine s_and ?_ | with_reducible refine s_or ?_ | with_reducible refine s_not ?_ | with_reducible refine s_andV ?_ | with_reducible refine s_chain ?_
  | with_reducible refine s_cons ?_ | with_reducible refine s_nil ?_ | with_reducible refine s_tup ?_ | with_reducible refine s_lst ?_
  | with_reducible refine s_CB ?_ | with_reducible refine s_call ?_ | with_reducible refine s_gname ?_ | with_reducible refine s_gcons ?_ | with_reducible refine s_gnil ?_
  | ((with_reducible refine' s_gtup ?h ?e ?q); (case h => walk_at "f"); (case e => exact rfl))
  | ((with_reducible refine' s_ixT ?h ?e ?q); (case h => walk_at "f"); (case e => exact rfl))
  | (with_reducible refine s_BM ?_) | ((with_reducible refine s_new ?z ?q); (case z => exact rfl); intro p H1 hp hs hv))
local macro_rules | `(tactic| walk_at "s2") => `(tactic| first
  | walk_at "s1" | with_reducible refine iteF ?_ | with_reducible refine iteT ?_ | with_reducible refine iteNT ?_ | with_reducible refine iteNF ?_ | with_reducible refine u_tup ?_ | with_reducible refine u_lst ?_ | ((with_reducible refine u_newT ?z ?q); (case z => exact rfl); intro p H1 hp hs hv) | ((with_reducible refine u_newL ?z ?q); (case z => exact rfl); intro p H1 hp hs hv) | with_reducible refine s_min2 ?_ | ((with_reducible refine' s_aug ?h ?q); (case h => exact rfl)) | with_reducible refine s_ipI ?_ | with_reducible refine s_sl2 ?_ | with_reducible refine s_part ?_ | with_reducible refine u_part ?_ | with_reducible refine s_nopart ?_ | with_reducible refine s_rev ?_ | with_reducible refine s_un ?_ | with_reducible refine s_U ?_ | with_reducible refine s_gsub ?_ | ((with_reducible refine s_lenS ?z ?q); (case z => assumption)) | with_reducible refine s_rng1 ?_ | with_reducible refine s_rng2 ?_ | with_reducible refine s_list ?_ | with_reducible refine s_istr ?_ | with_reducible refine u_str ?_ | with_reducible refine s_for ?_ | with_reducible refine s_lc ?_ | with_reducible refine s_lc2 ?_ | with_reducible refine s_yes ?_ | with_reducible refine s_bm ?_ | with_reducible refine s_mth ?_ | with_reducible refine s_abs ?_ | with_reducible refine s_int1 ?_ | with_reducible refine s_nget ?_ | with_reducible refine s_fld ?_
  | ((with_reducible refine' s_lenL ?h ?q); (case h => walk_at "f"))
  | ((with_reducible refine' s_lenT ?h ?q); (case h => walk_at "f")))
local macro_rules | `(tactic| walk_at "go") => `(tactic| repeat walk_at "s2")
section
variable {P : Program} {w : World} {K : PySem.W.Frag} {mg : Str → Option Value} {base : Heap} {C : Addr}
def spCells : Sp := fun vs H Q _ => ∃ vb, ∃ n : Int, ∃ W Hh : Nat, vs = [vb, .int n] ∧ Cn H vb ((W : Int), (Hh : Int)) ∧ W ≤ 8 ∧ Hh ≤ 8 ∧ ∀ p H' kept, H p = none → Same H H' → LsR Cn H' p kept → kept.Sublist (celL Hh W) → Q (.ref p) H'
theorem sc_l_cells : FnScope ["_law_board_here", "_law_cell_here", "_law_d", "_law_least", "_law_spots", "_law_kept", "_law_k", "_law_x", "_law_y", "_law_here"] ["_law_board_here", "_law_cell_here"] (defScope s_l_cells) := ⟨rfl, rfl, rfl, by decide +kernel, rfl, by decide +kernel, by decide +kernel⟩
theorem c_l_cells (g : Gs mg) (c_l_draws : Cal P w K mg base 1 "_law_draws" ["_law_cell_here", "_law_sizes"] spDraws) (c_l_all_cells : Cal P w K mg base 1 "_law_all_cells" ["_law_board_here"] spAllC) {f : Addr} (hm : mg "_law_cells" = some (.ref f)) (F : Fd K "_law_cells" "_law_cells" s_l_cells f) : Cal P w K mg base 2 "_law_cells" ["_law_board_here", "_law_cell_here"] spCells := by
  refine Cal.mk' hm (fn_mk (k := 1) F sc_l_cells (fun _ _ _ _ _ _ us hl => match us, hl with | [_, _], _ => rfl) (fun vs H Q E h => ?_) (fun cdv A outer s H vs Q E hr h => ?_))
  · obtain ⟨_, _, _, _, rfl, _⟩ := h; rfl
  · obtain ⟨vb, n, W, Hh, rfl, ⟨tb, rfl, hb⟩, hW, hH, k⟩ := h
    refine ⟨_, (pss_cons (ps_asg (pc c_l_draws hr (pa_cons (pv 1) (pa_cons (pe_op op_cat (pe_ulst (pa_cons (pe_int) pa_nil)) (pe_op op_rep (pe_ulst (pa_cons (pe_int) pa_nil)) (pe_int))) pa_nil))) (pg_name (i := 2) sc_l_cells.nd rfl (.inl rfl)))
      (pss_cons (ps_asg (pe_ix ix_list (pe_ulst (pa_cons (pe_int) (pa_cons (pe_int) (pa_cons (pe_int) (pa_cons (pe_int) (pa_cons (pe_int) (pa_cons (pe_int) (pa_cons (pe_int) (pa_cons (pe_int) (pa_cons (pe_int) (pa_cons (pe_int) (pa_cons (pe_int) (pa_cons (pe_int) pa_nil))))))))))))) (pe_ix ix_list (pv 2) (pe_int) (fun _ _ => rfl)) (fun _ _ => rfl)) (pg_name (i := 3) sc_l_cells.nd rfl (.inl rfl)))
      (pss_cons (ps_asg (pc c_l_all_cells hr (pa_cons (pv 0) pa_nil)) (pg_name (i := 4) sc_l_cells.nd rfl (.inl rfl)))
      (pss_cons (ps_asg (pe_ulst pa_nil) (pg_name (i := 5) sc_l_cells.nd rfl (.inl rfl)))
      (pss_cons (ps_for PassesOwn.never rfl (pi_range1 (by rfl) g.range (pa_cons (pe_callB cr_len (by rfl) g.len (by rfl) (pa_cons (pv 4) pa_nil)) pa_nil)) (pg_name (i := 6) sc_l_cells.nd rfl (.inl rfl)) (pss_cons (ps_asg (pe_ix ix_tup (pe_ix ix_list (pv 4) (pv 6) (fun _ _ => rfl)) (pe_int) (fun _ _ => rfl)) (pg_name (i := 7) sc_l_cells.nd rfl (.inl rfl)))
      (pss_cons (ps_asg (pe_ix ix_tup (pe_ix ix_list (pv 4) (pv 6) (fun _ _ => rfl)) (pe_int) (fun _ _ => rfl)) (pg_name (i := 8) sc_l_cells.nd rfl (.inl rfl)))
      (pss_cons (ps_asg (pe_cmpR op_ge (pe_ix ix_list (pv 2) (pe_op op_add (pv 6) (pe_int)) (fun _ _ => rfl)) (pv 3) (nomark _)) (pg_name (i := 9) sc_l_cells.nd rfl (.inl rfl)))
      (pss_cons (ps_if (pt_cmpR op_eq (pe_ix ix_list (pv 2) (pe_int) (fun _ _ => rfl)) (pe_int) (nomark _)) (pss_one (ps_asg (pe_cmpR op_eq (pe_op op_modN (pe_callTy cr_int1 (by rfl) g.int (by rfl) (pa_cons (pe_op op_add (pe_op op_add (pv 7) (pv 8)) (pe_ix ix_list (pv 2) (pe_int) (fun _ _ => rfl))) pa_nil)) (pe_int)) (pe_int) (nomark _)) (pg_name (i := 9) sc_l_cells.nd rfl (.inl rfl)))) pss_nil)
      (pss_cons (ps_if (pt_cmpR op_gt (pe_ix ix_list (pv 2) (pe_int) (fun _ _ => rfl)) (pe_int) (nomark _)) (pss_one (ps_asg (pe_cmpR op_eq (pe_op op_modN (pe_callTy cr_int1 (by rfl) g.int (by rfl) (pa_cons (pe_callB (cr_min4 rfl) (by rfl) g.min (by rfl) (pa_cons (pv 7) (pa_cons (pv 8) (pa_cons (pe_op op_sub (pe_op op_sub (pe_ix ix_tup (pv 0) (pe_int) (fun _ _ => rfl)) (pe_int)) (pv 7)) (pa_cons (pe_op op_sub (pe_op op_sub (pe_ix ix_tup (pv 0) (pe_int) (fun _ _ => rfl)) (pe_int)) (pv 8)) pa_nil))))) pa_nil)) (pe_int)) (pe_int) (nomark _)) (pg_name (i := 9) sc_l_cells.nd rfl (.inl rfl)))) pss_nil)
      (pss_one (ps_if (pt_val (pv 9)) (pss_one (ps_expr (pe_bm PySem.F.plainAttrs_list PySem.F.slot_list_append PySem.F.type_list_append mt_append (pv 5) (pa_cons (pe_ix ix_list (pv 4) (pv 6) (fun _ _ => rfl)) pa_nil)))) pss_nil))))))))
      (pss_one (ps_ret (pv 5)))))))), ?_⟩
    have hb : H tb = some (.tup [.int W, .int Hh]) := hb
    walk_at "go"
    rename_i p1 H1 hp1 hs1 hm1 p2 H2 hp2 hs2 hm2
    refine u_rep trI (LsR.ints [8] hm2 rfl) (by decide) (by decide) (by decide) fun l H3 hl hs3 hm3 => ?_
    have sz : ∀ s ∈ (List.replicate (64 : Int).toNat [(8 : Int)]).flatten, s = 8 := by decide
    refine u_cat trI (LsR.ints [12] (hs3 _ _ (hs2 _ _ hm1)) rfl) hm3 (by decide) fun l4 H4 hl4 hs4 hm4 => ?_
    walk_at "go"
    have szz : ∀ s ∈ [(12 : Int)] ++ (List.replicate (64 : Int).toNat [(8 : Int)]).flatten, 0 < s ∧ s < 1000000 := fun s hs => by
      rcases List.mem_append.mp hs with h | h
      · rw [List.mem_singleton.mp h]; decide
      · rw [sz s h]; decide
    refine ⟨n, l4, _, rfl, hm4, fun s hs => (szz s hs).1, fun s hs => (szz s hs).2, by decide, fun dd H5 ds hdd hs5 hds dok => ?_⟩
    have s05 : Same H H5 := Same.trans hs1 (Same.trans hs2 (Same.trans hs3 (Same.trans hs4 hs5)))
    have hdl : ds.length = 65 := dok.1
    obtain ⟨d0, e0⟩ : ∃ d0, ds[0]? = some d0 := ⟨ds[0]'(by omega), List.getElem?_eq_getElem _⟩
    obtain ⟨d1, e1⟩ : ∃ d1, ds[1]? = some d1 := ⟨ds[1]'(by omega), List.getElem?_eq_getElem _⟩
    have r0 := dok.2 0 d0 12 e0 rfl
    walk_at "go"
    rename_i p6 H6 hp6 hs6 hm6
    refine u_ixL (a := d0) (i := 0) (hds.up trI hs6) (atI_nat (j := 0) e0) fun v0 hv0 => ?_
    obtain rfl : v0 = V.int d0 := hv0
    obtain ⟨dn, rfl⟩ : ∃ dn : Nat, d0 = dn := ⟨d0.toNat, by omega⟩
    have hl6 : LsR In H6 p6 [2, 8, 6, 4, 4, 1, 2, 1, 0, 0, 0, 0] := LsR.ints _ hm6 rfl
    have hdn : dn < ([2, 8, 6, 4, 4, 1, 2, 1, 0, 0, 0, 0] : List Int).length := by
      show dn < 12
      omega
    refine u_ixL (a := ([2, 8, 6, 4, 4, 1, 2, 1, 0, 0, 0, 0] : List Int)[dn]) hl6 (atI_nat (List.getElem?_eq_getElem hdn)) fun v1 hv1 => ?_
    generalize ([2, 8, 6, 4, 4, 1, 2, 1, 0, 0, 0, 0] : List Int)[dn] = least at hv1
    obtain rfl : v1 = V.int least := hv1
    have s06 : Same H H6 := Same.trans s05 hs6
    walk_at "go"
    refine ⟨_, W, Hh, rfl, ⟨tb, rfl, s06 _ _ hb⟩, hW, hH, fun sp H7 hsp hs7 hsp7 => ?_⟩
    have s07 : Same H H7 := Same.trans s06 hs7
    walk_at "go"
    rename_i D H8 hD hs8 hm8
    have s08 : Same H H8 := Same.trans s07 hs8
    have hDH : H D = none := nof hD s07
    have hD5 : H5 D = none := nof hD (Same.trans hs6 hs7)
    have hne : sp ≠ D := fun z => by
      obtain ⟨xs, hx, _⟩ := hsp7
      rw [z, hD] at hx; cases hx
    have hsl : (celL Hh W).length ≤ 64 := by
      rw [celL_len]
      exact Nat.mul_le_mul hW hH
    refine u_len (hsp7.up trC hs8) ?_
    walk_at "go"
    refine u_rng1 (by omega) (by omega) ?_
    refine u_range (fun i σ H9 => ∃ a b c e kept, σ = [some (.ref tb), some (.int n), some (.ref dd), some (.int least), some (.ref sp), some (.ref D), a, b, c, e] ∧ Bld Cn H5 H9 D kept ∧ LsR Cn H9 sp (celL Hh W) ∧ kept.Sublist ((celL Hh W).take i)) ⟨_, _, _, _, [], rfl, Bld.new (Same.trans hs6 hs7) hD hs8 hm8, hsp7.up trC hs8, by simp⟩ (fun i σ H9 hi h => ?_) (fun σ H9 h => ?_)
    · obtain ⟨a, b, c', e, kept, rfl, B, hsp, hsub⟩ := h
      have hi' : i < (celL Hh W).length := by omega
      obtain ⟨c, ec⟩ : ∃ c, (celL Hh W)[i]? = some c := ⟨_, List.getElem?_eq_getElem hi'⟩
      have hkl : kept.length ≤ 64 := by
        have := hsub.length_le
        rw [List.length_take] at this
        omega
      obtain ⟨ys, hys, _⟩ := id B.ls
      have hd9 := hds.up trI B.same
      have hb9 : H9 tb = some (.tup [.int W, .int Hh]) := B.same _ _ (s05 _ _ hb)
      obtain ⟨dk, edk⟩ : ∃ dk, ds[i + 1]? = some dk := ⟨ds[i + 1]'(by omega), List.getElem?_eq_getElem _⟩
      walk_at "go"
      refine u_ixL (a := c) hsp (by rw [Int.zero_add]; exact atI_nat ec) fun v3 hv3 => ?_
      obtain ⟨t3, rfl, ht3⟩ := hv3
      walk_at "go"
      refine u_ixL (a := c) hsp (by rw [Int.zero_add]; exact atI_nat ec) fun v4 hv4 => ?_
      obtain ⟨t4, rfl, ht4⟩ := hv4
      walk_at "go"
      refine u_ixL (a := dk) hd9 (by rw [show (0 : Int) + (i : Int) + 1 = ((i + 1 : Nat) : Int) by omega]; exact atI_nat edk) fun v5 hv5 => ?_
      obtain rfl : v5 = V.int dk := hv5
      walk_at "go"
      refine u_ixL (a := ((dn : Nat) : Int)) (i := 0) hd9 (atI_nat (j := 0) e0) fun v6 hv6 => ?_
      obtain rfl : v6 = V.int ((dn : Nat) : Int) := hv6
      walk_at "go"
      refine ite3 (fun h1 => ?_) (fun h1 => ?_)
      · walk_at "go"
        refine u_ixL (a := d1) (i := 1) hd9 (atI_nat (j := 1) e1) fun v7 hv7 => ?_
        obtain rfl : v7 = V.int d1 := hv7
        walk_at "go"
        refine s_I (by decide) ?_
        walk_at "go"
        refine u_ixL (a := ((dn : Nat) : Int)) (i := 0) hd9 (atI_nat (j := 0) e0) fun v6 hv6 => ?_
        obtain rfl : v6 = V.int ((dn : Nat) : Int) := hv6
        walk_at "go"
        refine ite3 (fun h2 => absurd h2 (by omega)) (fun h2 => ?_)
        walk_at "go"
        refine iteB (fun hh => ?_) (fun hh => ?_)
        · walk_at "go"
          refine u_bmL hys ?_
          walk_at "go"
          refine u_ixL (a := c) hsp (by rw [Int.zero_add]; exact atI_nat ec) fun v9 hv9 => ?_
          walk_at "go"
          refine u_append trC B hv9 (by omega) fun H7 bu7 B7 _ => ?_
          refine ⟨_, _, _, _, kept ++ [c], rfl, B7, hsp.up2 trC (bu7.tup hys fun _ z => by cases z) fun xs e => bu7 _ _ hne e, ?_⟩
          rw [List.take_add_one, ec]
          exact List.Sublist.append hsub (List.Sublist.refl _)
        · walk_at "go"
          refine ⟨_, _, _, _, kept, rfl, B, hsp, ?_⟩
          rw [List.take_add_one, ec]
          exact List.Sublist.trans hsub (List.sublist_append_left _ _)
      · walk_at "go"
        refine u_ixL (a := ((dn : Nat) : Int)) (i := 0) hd9 (atI_nat (j := 0) e0) fun v6 hv6 => ?_
        obtain rfl : v6 = V.int ((dn : Nat) : Int) := hv6
        walk_at "go"
        refine ite3 (fun h2 => ?_) (fun h2 => ?_)
        · walk_at "go"
          refine s_min4 fun mm => ?_
          walk_at "go"
          refine s_I (by decide) ?_
          walk_at "go"
          refine iteB (fun hh => ?_) (fun hh => ?_)
          · walk_at "go"
            refine u_bmL hys ?_
            walk_at "go"
            refine u_ixL (a := c) hsp (by rw [Int.zero_add]; exact atI_nat ec) fun v9 hv9 => ?_
            walk_at "go"
            refine u_append trC B hv9 (by omega) fun H7 bu7 B7 _ => ?_
            refine ⟨_, _, _, _, kept ++ [c], rfl, B7, hsp.up2 trC (bu7.tup hys fun _ z => by cases z) fun xs e => bu7 _ _ hne e, ?_⟩
            rw [List.take_add_one, ec]
            exact List.Sublist.append hsub (List.Sublist.refl _)
          · walk_at "go"
            refine ⟨_, _, _, _, kept, rfl, B, hsp, ?_⟩
            rw [List.take_add_one, ec]
            exact List.Sublist.trans hsub (List.sublist_append_left _ _)
        · walk_at "go"
          refine iteB (fun hh => ?_) (fun hh => ?_)
          · walk_at "go"
            refine u_bmL hys ?_
            walk_at "go"
            refine u_ixL (a := c) hsp (by rw [Int.zero_add]; exact atI_nat ec) fun v9 hv9 => ?_
            walk_at "go"
            refine u_append trC B hv9 (by omega) fun H7 bu7 B7 _ => ?_
            refine ⟨_, _, _, _, kept ++ [c], rfl, B7, hsp.up2 trC (bu7.tup hys fun _ z => by cases z) fun xs e => bu7 _ _ hne e, ?_⟩
            rw [List.take_add_one, ec]
            exact List.Sublist.append hsub (List.Sublist.refl _)
          · walk_at "go"
            refine ⟨_, _, _, _, kept, rfl, B, hsp, ?_⟩
            rw [List.take_add_one, ec]
            exact List.Sublist.trans hsub (List.sublist_append_left _ _)
    · obtain ⟨a, b, c', e, kept, rfl, B, hsp, hsub⟩ := h
      have e2 : (((celL Hh W).length : Nat) : Int).toNat = (celL Hh W).length := by omega
      rw [e2, List.take_length] at hsub
      walk_at "go"
      exact k D H9 kept hDH (Same.trans s05 B.same) B.ls hsub
end
end Cp
end
section
namespace Cp
open PySem PySem.Spec PyProof.Rows L2
local macro_rules | `(tactic| walk_at "f") => `(tactic| first | assumption | (refine' keep_of ?_ (by assumption); walk_at "f") | (refine Cn.up ?_ (by assumption); walk_at "f") | (refine Pr.up ?_ (by assumption); walk_at "f") | (refine NTab.up ?_ (by assumption); walk_at "f") | (refine PlI.up ?_ (by assumption); walk_at "f") | (refine LsR.up (by first | exact trC | exact trP | exact trI | assumption) ?_ (by assumption); walk_at "f"))
local macro_rules | `(tactic| walk_at "sm") => `(tactic| first | exact Same.refl _ | assumption | (refine same_tr ?_ (by assumption); walk_at "sm"))
local macro_rules | `(tactic| walk_at "fr") => `(tactic| first | assumption | (refine nof ?_ (by assumption); walk_at "fr"))
local macro_rules | `(tactic| walk_at "s1") => `(tactic| first
  | with_reducible refine s_seq ?_ | with_reducible refine s_ret ?_ | with_reducible refine s_asg ?_ | with_reducible refine s_if ?_ | with_reducible refine s_next ?_ | with_reducible refine s_drop ?_
  | ((with_reducible refine' s_var ?h ?q); (case h => exact rfl)) | with_reducible refine s_c ?_ | with_reducible refine s_op ?_ | with_reducible refine s_I0 ?_
  | with_reducible refine s_eqI ?_ | with_reducible refine s_neI ?_ | with_reducible refine s_eqS ?_ | with_reducible refine s_neS ?_
  | with_reducible refine s_test ?_ | with_reducible refine s_tB ?_ | with_reducible refine s_bl ?_ | with_reducible refine s_and ?_ | with_reducible refine s_or ?_ | with_reducible refine s_not ?_ | with_reducible refine s_andV ?_ | with_reducible refine s_chain ?_
  | with_reducible refine s_cons ?_ | with_reducible refine s_nil ?_ | with_reducible refine s_tup ?_ | with_reducible refine s_lst ?_
  | with_reducible refine s_CB ?_ | with_reducible refine s_call ?_ | with_reducible refine s_gname ?_ | with_reducible refine s_gcons ?_ | with_reducible refine s_gnil ?_
  | ((with_reducible refine' s_gtup ?h ?e ?q); (case h => walk_at "f"); (case e => exact rfl))
  | ((with_reducible refine' s_ixT ?h ?e ?q); (case h => walk_at "f"); (case e => exact rfl))
  | (with_reducible refine s_BM ?_) | ((with_reducible refine s_new ?z ?q); (case z => exact rfl); intro p H1 hp hs hv))
local macro_rules | `(tactic| walk_at "s2") => `(tactic| first
  | walk_at "s1" | with_reducible refine iteF ?_ | with_reducible refine iteT ?_ | with_reducible refine iteNT ?_ | with_reducible refine iteNF ?_ | with_reducible refine u_tup ?_ | with_reducible refine u_lst ?_ | ((with_reducible refine u_newT ?z ?q); (case z => exact rfl); intro p H1 hp hs hv) | ((with_reducible refine u_newL ?z ?q); (case z => exact rfl); intro p H1 hp hs hv) | with_reducible refine s_min2 ?_ | ((with_reducible refine' s_aug ?h ?q); (case h => exact rfl)) | with_reducible refine s_ipI ?_ | with_reducible refine s_sl2 ?_ | with_reducible refine s_part ?_ | with_reducible refine u_part ?_ | with_reducible refine s_nopart ?_ | with_reducible refine s_rev ?_ | with_reducible refine s_un ?_ | with_reducible refine s_U ?_ | with_reducible refine s_gsub ?_ | ((with_reducible refine s_lenS ?z ?q); (case z => assumption)) | with_reducible refine s_rng1 ?_ | with_reducible refine s_rng2 ?_ | with_reducible refine s_list ?_ | with_reducible refine s_istr ?_ | with_reducible refine u_str ?_ | with_reducible refine s_for ?_ | with_reducible refine s_lc ?_ | with_reducible refine s_lc2 ?_ | with_reducible refine s_yes ?_ | with_reducible refine s_bm ?_ | with_reducible refine s_mth ?_ | with_reducible refine s_abs ?_ | with_reducible refine s_int1 ?_ | with_reducible refine s_nget ?_ | with_reducible refine s_fld ?_
  | ((with_reducible refine' s_lenL ?h ?q); (case h => walk_at "f"))
  | ((with_reducible refine' s_lenT ?h ?q); (case h => walk_at "f")))
local macro_rules | `(tactic| walk_at "go") => `(tactic| repeat walk_at "s2")
section
variable {P : Program} {w : World} {K : PySem.W.Frag} {mg : Str → Option Value} {base : Heap} {C : Addr}
def IL (n : Nat) (H : Hp) (a : Addr) : Prop := ∃ ms : List Int, LsR In H a ms ∧ ms.length ≤ n
theorem IL.up {n : Nat} {H H' : Hp} {a : Addr} (h : IL n H a) (s : Same H H') : IL n H' a := by
  obtain ⟨ms, h, l⟩ := h
  exact ⟨ms, h.up trI s, l⟩
theorem IL.mono {n m : Nat} {H : Hp} {a : Addr} (h : IL n H a) (l : n ≤ m) : IL m H a := by
  obtain ⟨ms, h, l2⟩ := h
  exact ⟨ms, h, Nat.le_trans l2 l⟩
section
variable {H : Hp} {Q : VK} {p q : Addr} {n m : Nat}
theorem cut_len {α : Type} (xs : List α) (l u : Option Int) : (cut xs l u).length ≤ xs.length := by
  unfold cut
  rw [List.length_take, List.length_drop]
  omega
theorem i_slice {l u : Option Int} (h : IL n H p) (k : ∀ r H1, H r = none → Same H H1 → IL n H1 r → Q (.ref r) H1) : rSlL K (.ref p) l u H Q := by
  obtain ⟨ms, h, hl⟩ := h
  exact u_slice trI h fun r H1 hr hs hm => k r H1 hr hs ⟨_, hm, Nat.le_trans (cut_len _ _ _) hl⟩
theorem i_cat (h : IL n H p) (h2 : IL m H q) (hz : n + m ≤ 5000) (k : ∀ r H1, H r = none → Same H H1 → IL (n + m) H1 r → Q (.ref r) H1) : rCat (.ref p) (.ref q) H Q := by
  obtain ⟨ms, h, hl⟩ := h
  obtain ⟨ms2, h2, hl2⟩ := h2
  exact u_cat trI h h2 (by omega) fun r H1 hr hs hm => k r H1 hr hs ⟨_, hm, by rw [List.length_append]; omega⟩
theorem i_rev (h : IL n H p) (k : ∀ r H1, H r = none → Same H H1 → IL n H1 r → Q (.ref r) H1) : qRev K (.ref p) H Q := by
  obtain ⟨ms, h, hl⟩ := h
  exact u_rev trI h fun r H1 hr hs hm => k r H1 hr hs ⟨_, hm, by rw [List.length_reverse]; exact hl⟩
theorem i_one {x : Int} (h : H p = some (.lst [.int x])) : IL 1 H p := ⟨[x], LsR.ints _ h rfl, Nat.le_refl _⟩
theorem i_nil (h : H p = some (.lst [])) : IL 0 H p := ⟨[], LsR.ints _ h rfl, Nat.le_refl _⟩
theorem i_sort (h : IL n H p) (k : ∀ r H1, H r = none → Same H H1 → IL n H1 r → Q (.ref r) H1) : rSortedI K [.ref p] H Q := by
  obtain ⟨ms, h, hl⟩ := h
  exact ⟨p, ms, rfl, SqL.of h.int, fun ns' r perm _ hr => k r _ hr (Same.new hr) ⟨ns', LsR.ints _ upd_same rfl, by rw [perm.length_eq]; exact hl⟩⟩
end
def RowsI (H : Hp) (p : Addr) (n : Nat) : Prop := ∃ as : List Addr, H p = some (.lst (as.map V.ref)) ∧ as.length = n ∧ ∀ a ∈ as, IL 5000 H a
theorem RowsI.up {H H' : Hp} {p : Addr} {n : Nat} (h : RowsI H p n) (s : Same H H') : RowsI H' p n := by
  obtain ⟨as, e, l, q⟩ := h
  exact ⟨as, s _ _ e, l, fun a ha => (q a ha).up s⟩
theorem i_rows {H : Hp} {Q : VK} {p q : Addr} {n m : Nat} (h : RowsI H p n) (h2 : RowsI H q m) (hz : n + m ≤ 1000) (k : ∀ r H1, H r = none → Same H H1 → RowsI H1 r (n + m) → Q (.ref r) H1) : rCat (.ref p) (.ref q) H Q := by
  obtain ⟨as, e, l, g⟩ := h
  obtain ⟨as2, e2, l2, g2⟩ := h2
  refine ⟨p, q, _, _, rfl, rfl, e, e2, Nat.le_trans (by rw [List.length_map, List.length_map]; omega : _ ≤ 1000) (by decide), fun r hr => k r _ hr (Same.new hr) ⟨as ++ as2, by rw [upd_same, List.map_append], by rw [List.length_append]; omega, fun a ha => ?_⟩⟩
  rcases List.mem_append.mp ha with h | h
  · exact (g a h).up (Same.new hr)
  · exact (g2 a h).up (Same.new hr)
theorem rows4 {H : Hp} {p a b c d : Addr} {n1 n2 n3 n4 : Nat} (h : H p = some (.lst [.ref a, .ref b, .ref c, .ref d])) (h1 : IL n1 H a) (h2 : IL n2 H b) (h3 : IL n3 H c) (h4 : IL n4 H d) (z1 : n1 ≤ 5000) (z2 : n2 ≤ 5000) (z3 : n3 ≤ 5000) (z4 : n4 ≤ 5000) : RowsI H p 4 :=
  ⟨[a, b, c, d], h, rfl, fun x hx => by
    simp only [List.mem_cons, List.not_mem_nil, or_false] at hx
    rcases hx with rfl | rfl | rfl | rfl
    · exact h1.mono z1
    · exact h2.mono z2
    · exact h3.mono z3
    · exact h4.mono z4⟩
theorem rows2 {H : Hp} {p a b : Addr} {n1 n2 : Nat} (h : H p = some (.lst [.ref a, .ref b])) (h1 : IL n1 H a) (h2 : IL n2 H b) (z1 : n1 ≤ 5000) (z2 : n2 ≤ 5000) : RowsI H p 2 :=
  ⟨[a, b], h, rfl, fun x hx => by
    simp only [List.mem_cons, List.not_mem_nil, or_false] at hx
    rcases hx with rfl | rfl
    · exact h1.mono z1
    · exact h2.mono z2⟩
theorem i_at {H : Hp} {Q : VK} {p : Addr} {n k : Nat} (h : RowsI H p n) (hk : k < n) (q : ∀ a, IL 5000 H a → Q (.ref a) H) : rIxL K (.ref p) (.int (k : Int)) H Q := by
  obtain ⟨as, e, l, g⟩ := h
  have hk' : k < as.length := by omega
  refine ⟨p, _, _, .ref as[k], rfl, rfl, SqL.of e, atI_nat (by rw [List.getElem?_map, List.getElem?_eq_getElem hk']; rfl), q _ (g _ (List.getElem_mem _))⟩
def spVaried : Sp := fun vs H Q _ => ∃ m, ∃ c : Int, ∃ n : Nat, ∃ ms : List Int, vs = [.ref m, .int n, .int c] ∧ LsR In H m ms ∧ 0 < ms.length ∧ ms.length ≤ 900 ∧ 0 < n ∧ n ≤ 900 ∧ ∀ r H', Same H H' → IL 5000 H' r → Q (.ref r) H'
theorem sc_l_varied : FnScope ["_law_marks", "_law_size", "_law_cell_here", "_law_d", "_law_at", "_law_spot", "_law_rows", "_law_k"] ["_law_marks", "_law_size", "_law_cell_here"] (defScope s_l_varied) := ⟨rfl, rfl, rfl, by decide +kernel, rfl, by decide +kernel, by decide +kernel⟩
theorem c_l_varied (g : Gs mg) (c_l_draws : Cal P w K mg base 1 "_law_draws" ["_law_cell_here", "_law_sizes"] spDraws) {f : Addr} (hm : mg "_law_varied" = some (.ref f)) (F : Fd K "_law_varied" "_law_varied" s_l_varied f) : Cal P w K mg base 2 "_law_varied" ["_law_marks", "_law_size", "_law_cell_here"] spVaried := by
  refine Cal.mk' hm (fn_mk (k := 1) F sc_l_varied (fun _ _ _ _ _ _ us hl => match us, hl with | [_, _, _], _ => rfl) (fun vs H Q E h => ?_) (fun cdv A outer s H vs Q E hr h => ?_))
  · obtain ⟨_, _, _, _, rfl, _⟩ := h; rfl
  · obtain ⟨m, c, n, ms, rfl, hm, h0, hz, hn0, hn, k⟩ := h
    refine ⟨_, (pss_cons (ps_asg (pc c_l_draws hr (pa_cons (pv 2) (pa_cons (pe_ulst (pa_cons (pe_int) (pa_cons (pe_int) (pa_cons (pe_int) pa_nil)))) pa_nil))) (pg_name (i := 3) sc_l_varied.nd rfl (.inl rfl)))
      (pss_cons (ps_asg (pe_op op_modN (pe_callTy cr_int1 (by rfl) g.int (by rfl) (pa_cons (pe_ix ix_list (pv 3) (pe_int) (fun _ _ => rfl)) pa_nil)) (pe_callB cr_len (by rfl) g.len (by rfl) (pa_cons (pv 0) pa_nil))) (pg_name (i := 4) sc_l_varied.nd rfl (.inl rfl)))
      (pss_cons (ps_asg (pe_op op_modN (pe_callTy cr_int1 (by rfl) g.int (by rfl) (pa_cons (pe_ix ix_list (pv 3) (pe_int) (fun _ _ => rfl)) pa_nil)) (pv 1)) (pg_name (i := 5) sc_l_varied.nd rfl (.inl rfl)))
      (pss_cons (ps_asg (pe_ulst (pa_cons (pv 0) (pa_cons (pe_op op_cat (pe_slice sl_list (pv 0) (po_none) (po_some (pv 4))) (pe_slice sl_list (pv 0) (po_some (pe_op op_add (pv 4) (pe_int))) (po_none))) (pa_cons (pe_callB cr_sortedI (by rfl) g.sorted (by rfl) (pa_cons (pe_op op_cat (pv 0) (pe_ulst (pa_cons (pv 5) pa_nil))) pa_nil)) (pa_cons (pe_op op_cat (pe_op op_cat (pe_slice sl_list (pv 0) (po_none) (po_some (pv 4))) (pe_ulst (pa_cons (pv 5) pa_nil))) (pe_slice sl_list (pv 0) (po_some (pe_op op_add (pv 4) (pe_int))) (po_none))) pa_nil))))) (pg_name (i := 6) sc_l_varied.nd rfl (.inl rfl)))
      (pss_cons (ps_asg (pe_op op_cat (pv 6) (pe_ulst (pa_cons (pe_op op_cat (pe_op op_cat (pe_slice sl_list (pv 0) (po_none) (po_some (pv 4))) (pe_slice sl_list (pv 0) (po_some (pv 4)) (po_some (pe_op op_add (pv 4) (pe_int))))) (pe_slice sl_list (pv 0) (po_some (pv 4)) (po_none))) (pa_cons (pe_slice sl_list (pv 0) (po_some (pe_int)) (po_none)) (pa_cons (pe_op op_cat (pv 0) (pe_ulst (pa_cons (pv 1) pa_nil))) (pa_cons (pe_op op_cat (pv 0) (pe_ulst (pa_cons (pe_op op_add (pe_op op_add (pv 1) (pe_int)) (pv 5)) pa_nil))) pa_nil)))))) (pg_name (i := 6) sc_l_varied.nd rfl (.inl rfl)))
      (pss_cons (ps_asg (pe_op op_cat (pv 6) (pe_ulst (pa_cons (pe_op op_cat (pe_ulst (pa_cons (pe_op op_sub (pe_un un_neg (pe_int)) (pv 5)) pa_nil)) (pv 0)) (pa_cons (pe_lc (own := [("_law_k", 7)]) (g := gName 7) rfl sc_l_varied.nd (pi_range1 (by rfl) g.range (pa_cons (pv 1) pa_nil)) (blkOk_by (own := [("_law_k", 7)]) (N := ["_law_marks", "_law_size", "_law_cell_here", "_law_d", "_law_at", "_law_spot", "_law_rows", "_law_k"]) (sc := defScope s_l_varied) (by decide +kernel)) (fun _ _ _ _ _ => pg_name (i := 7) sc_l_varied.nd rfl (Or.inl rfl)) (fun _ _ _ _ _ => pts_nil) (fun _ _ _ _ _ => pv 7)) (pa_cons (pe_ulst pa_nil) (pa_cons (pe_revL (pv 0)) pa_nil)))))) (pg_name (i := 6) sc_l_varied.nd rfl (.inl rfl)))
      (pss_cons (ps_asg (pe_op op_cat (pv 6) (pe_ulst (pa_cons (pe_op op_cat (pe_op op_cat (pe_slice sl_list (pv 0) (po_none) (po_some (pv 4))) (pe_ulst (pa_cons (pe_op op_sub (pe_op op_sub (pe_ix ix_list (pv 0) (pv 4) (fun _ _ => rfl)) (pv 1)) (pe_int)) pa_nil))) (pe_slice sl_list (pv 0) (po_some (pe_op op_add (pv 4) (pe_int))) (po_none))) (pa_cons (pe_op op_cat (pe_op op_cat (pe_slice sl_list (pv 0) (po_none) (po_some (pv 4))) (pe_ulst (pa_cons (pe_op op_sub (pe_un un_neg (pe_int)) (pv 5)) pa_nil))) (pe_slice sl_list (pv 0) (po_some (pe_op op_add (pv 4) (pe_int))) (po_none))) pa_nil)))) (pg_name (i := 6) sc_l_varied.nd rfl (.inl rfl)))
      (pss_one (ps_ret (pe_ix ix_list (pv 6) (pe_ix ix_list (pv 3) (pe_int) (fun _ _ => rfl)) (fun _ _ => rfl))))))))))), ?_⟩
    have hI : IL 900 H m := ⟨ms, hm, hz⟩
    walk_at "go"
    rename_i p1 H1 hp1 hs1 hm1
    refine ⟨c, p1, [14, 40, 40], rfl, LsR.ints _ hm1 rfl, by decide, by decide, by decide, fun dd H2 ds hdd hs2 hds dok => ?_⟩
    have s02 : Same H H2 := Same.trans hs1 hs2
    have hI2 := hI.up s02
    have hm2 := hm.up trI s02
    match ds, dok with
    | [d0, d1, d2], dok =>
      have r0 := dok.2 0 d0 14 rfl rfl
      walk_at "go"
      refine u_ixL (a := d1) (i := 1) hds (atI_nat (j := 1) rfl) fun v0 hv0 => ?_
      obtain rfl : v0 = V.int d1 := hv0
      walk_at "go"
      refine u_len hm2 ?_
      refine s_I (by show ((ms.length : Nat) : Int) ≠ 0; omega) ?_
      have g1 := fmod_lo (a := d1) (b := ((ms.length : Nat) : Int)) (by omega)
      have g2 := fmod_hi (a := d1) (b := ((ms.length : Nat) : Int)) (by omega)
      generalize d1.fmod ((ms.length : Nat) : Int) = at' at g1 g2
      walk_at "go"
      refine u_ixL (a := d2) (i := 2) hds (atI_nat (j := 2) rfl) fun v0 hv0 => ?_
      obtain rfl : v0 = V.int d2 := hv0
      walk_at "go"
      refine s_I (by show ((n : Nat) : Int) ≠ 0; omega) ?_
      generalize d2.fmod ((n : Nat) : Int) = spot
      walk_at "go"
      refine i_slice hI2 fun r1 K1 f1 e1 m1 => ?_
      walk_at "go"
      refine i_slice (IL.up hI2 e1) fun r2 K2 f2 e2 m2 => ?_
      walk_at "go"
      refine i_cat (IL.up m1 e2) m2 (by decide) fun r3 K3 f3 e3 m3 => ?_
      walk_at "go"
      rename_i r4 K4 f4 e4 m4
      refine i_cat (IL.up hI2 (Same.trans (Same.trans (Same.trans e1 e2) e3) e4)) (i_one m4) (by decide) fun r5 K5 f5 e5 m5 => ?_
      walk_at "go"
      refine i_sort m5 fun r6 K6 f6 e6 m6 => ?_
      walk_at "go"
      refine i_slice (IL.up hI2 (Same.trans (Same.trans (Same.trans (Same.trans (Same.trans e1 e2) e3) e4) e5) e6)) fun r7 K7 f7 e7 m7 => ?_
      walk_at "go"
      rename_i r8 K8 f8 e8 m8
      refine i_cat (IL.up m7 e8) (i_one m8) (by decide) fun r9 K9 f9 e9 m9 => ?_
      walk_at "go"
      refine i_slice (IL.up hI2 (Same.trans (Same.trans (Same.trans (Same.trans (Same.trans (Same.trans (Same.trans (Same.trans e1 e2) e3) e4) e5) e6) e7) e8) e9)) fun r10 K10 f10 e10 m10 => ?_
      walk_at "go"
      refine i_cat (IL.up m9 e10) m10 (by decide) fun r11 K11 f11 e11 m11 => ?_
      walk_at "go"
      rename_i r12 K12 f12 e12 m12
      have R1 := rows4 m12 (IL.up hI2 (Same.trans (Same.trans (Same.trans (Same.trans (Same.trans (Same.trans (Same.trans (Same.trans (Same.trans (Same.trans (Same.trans e1 e2) e3) e4) e5) e6) e7) e8) e9) e10) e11) e12)) (IL.up m3 (Same.trans (Same.trans (Same.trans (Same.trans (Same.trans (Same.trans (Same.trans (Same.trans e4 e5) e6) e7) e8) e9) e10) e11) e12)) (IL.up m6 (Same.trans (Same.trans (Same.trans (Same.trans (Same.trans e7 e8) e9) e10) e11) e12)) (IL.up m11 e12) (by decide) (by decide) (by decide) (by decide)
      refine i_slice (IL.up hI2 (Same.trans (Same.trans (Same.trans (Same.trans (Same.trans (Same.trans (Same.trans (Same.trans (Same.trans (Same.trans (Same.trans e1 e2) e3) e4) e5) e6) e7) e8) e9) e10) e11) e12)) fun r13 K13 f13 e13 m13 => ?_
      walk_at "go"
      refine i_slice (IL.up hI2 (Same.trans (Same.trans (Same.trans (Same.trans (Same.trans (Same.trans (Same.trans (Same.trans (Same.trans (Same.trans (Same.trans (Same.trans e1 e2) e3) e4) e5) e6) e7) e8) e9) e10) e11) e12) e13)) fun r14 K14 f14 e14 m14 => ?_
      walk_at "go"
      refine i_cat (IL.up m13 e14) m14 (by decide) fun r15 K15 f15 e15 m15 => ?_
      walk_at "go"
      refine i_slice (IL.up hI2 (Same.trans (Same.trans (Same.trans (Same.trans (Same.trans (Same.trans (Same.trans (Same.trans (Same.trans (Same.trans (Same.trans (Same.trans (Same.trans (Same.trans e1 e2) e3) e4) e5) e6) e7) e8) e9) e10) e11) e12) e13) e14) e15)) fun r16 K16 f16 e16 m16 => ?_
      walk_at "go"
      refine i_cat (IL.up m15 e16) m16 (by decide) fun r17 K17 f17 e17 m17 => ?_
      walk_at "go"
      refine i_slice (IL.up hI2 (Same.trans (Same.trans (Same.trans (Same.trans (Same.trans (Same.trans (Same.trans (Same.trans (Same.trans (Same.trans (Same.trans (Same.trans (Same.trans (Same.trans (Same.trans (Same.trans e1 e2) e3) e4) e5) e6) e7) e8) e9) e10) e11) e12) e13) e14) e15) e16) e17)) fun r18 K18 f18 e18 m18 => ?_
      walk_at "go"
      rename_i r19 K19 f19 e19 m19
      refine i_cat (IL.up hI2 (Same.trans (Same.trans (Same.trans (Same.trans (Same.trans (Same.trans (Same.trans (Same.trans (Same.trans (Same.trans (Same.trans (Same.trans (Same.trans (Same.trans (Same.trans (Same.trans (Same.trans (Same.trans e1 e2) e3) e4) e5) e6) e7) e8) e9) e10) e11) e12) e13) e14) e15) e16) e17) e18) e19)) (i_one m19) (by decide) fun r20 K20 f20 e20 m20 => ?_
      walk_at "go"
      rename_i r21 K21 f21 e21 m21
      refine i_cat (IL.up hI2 (Same.trans (Same.trans (Same.trans (Same.trans (Same.trans (Same.trans (Same.trans (Same.trans (Same.trans (Same.trans (Same.trans (Same.trans (Same.trans (Same.trans (Same.trans (Same.trans (Same.trans (Same.trans (Same.trans (Same.trans e1 e2) e3) e4) e5) e6) e7) e8) e9) e10) e11) e12) e13) e14) e15) e16) e17) e18) e19) e20) e21)) (i_one m21) (by decide) fun r22 K22 f22 e22 m22 => ?_
      walk_at "go"
      rename_i r23 K23 f23 e23 m23
      have R2 := rows4 m23 (IL.up m17 (Same.trans (Same.trans (Same.trans (Same.trans (Same.trans e18 e19) e20) e21) e22) e23)) (IL.up m18 (Same.trans (Same.trans (Same.trans (Same.trans e19 e20) e21) e22) e23)) (IL.up m20 (Same.trans (Same.trans e21 e22) e23)) (IL.up m22 e23) (by decide) (by decide) (by decide) (by decide)
      refine i_rows (RowsI.up R1 (Same.trans (Same.trans (Same.trans (Same.trans (Same.trans (Same.trans (Same.trans (Same.trans (Same.trans (Same.trans e13 e14) e15) e16) e17) e18) e19) e20) e21) e22) e23)) R2 (by decide) fun r24 K24 f24 e24 m24 => ?_
      walk_at "go"
      rename_i r25 K25 f25 e25 m25
      refine i_cat (i_one m25) (IL.up hI2 (Same.trans (Same.trans (Same.trans (Same.trans (Same.trans (Same.trans (Same.trans (Same.trans (Same.trans (Same.trans (Same.trans (Same.trans (Same.trans (Same.trans (Same.trans (Same.trans (Same.trans (Same.trans (Same.trans (Same.trans (Same.trans (Same.trans (Same.trans (Same.trans e1 e2) e3) e4) e5) e6) e7) e8) e9) e10) e11) e12) e13) e14) e15) e16) e17) e18) e19) e20) e21) e22) e23) e24) e25)) (by decide) fun r26 K26 f26 e26 m26 => ?_
      walk_at "go"
      refine u_rng1 (by omega) (by omega) ?_
      intro r27 f27
      refine w_range (fun j H6 => Bld In K26 H6 r27 ((List.range j).map fun (x : Nat) => (x : Int))) ⟨Same.new f27, f27, [], upd_same, .nil⟩ (fun j H6 hj B6 => ?_) (fun K27 B6 => ?_)
      · walk_at "go"
        refine ⟨rfl, ?_⟩
        walk_at "go"
        refine B6.lc trI (Same.refl _) (a := ((j : Nat) : Int)) (by show V.int _ = V.int _; rw [Int.zero_add]) (by rw [List.length_map, List.length_range]; omega) fun H7 _ B7 => ?_
        rw [List.range_succ, List.map_append]
        exact B7
      have e27 := B6.same
      have m27 : IL 900 K27 r27 := ⟨_, B6.ls, by rw [List.length_map, List.length_range]; omega⟩
      walk_at "go"
      rename_i r28 K28 f28 e28 m28
      refine i_rev (IL.up hI2 (Same.trans (Same.trans (Same.trans (Same.trans (Same.trans (Same.trans (Same.trans (Same.trans (Same.trans (Same.trans (Same.trans (Same.trans (Same.trans (Same.trans (Same.trans (Same.trans (Same.trans (Same.trans (Same.trans (Same.trans (Same.trans (Same.trans (Same.trans (Same.trans (Same.trans (Same.trans (Same.trans e1 e2) e3) e4) e5) e6) e7) e8) e9) e10) e11) e12) e13) e14) e15) e16) e17) e18) e19) e20) e21) e22) e23) e24) e25) e26) e27) e28)) fun r29 K29 f29 e29 m29 => ?_
      walk_at "go"
      rename_i r30 K30 f30 e30 m30
      have R4 := rows4 m30 (IL.up m26 (Same.trans (Same.trans (Same.trans e27 e28) e29) e30)) (IL.up m27 (Same.trans (Same.trans e28 e29) e30)) (IL.up (i_nil m28) (Same.trans e29 e30)) (IL.up m29 e30) (by decide) (by decide) (by decide) (by decide)
      refine i_rows (RowsI.up m24 (Same.trans (Same.trans (Same.trans (Same.trans (Same.trans e25 e26) e27) e28) e29) e30)) R4 (by decide) fun r31 K31 f31 e31 m31 => ?_
      walk_at "go"
      refine i_slice (IL.up hI2 (Same.trans (Same.trans (Same.trans (Same.trans (Same.trans (Same.trans (Same.trans (Same.trans (Same.trans (Same.trans (Same.trans (Same.trans (Same.trans (Same.trans (Same.trans (Same.trans (Same.trans (Same.trans (Same.trans (Same.trans (Same.trans (Same.trans (Same.trans (Same.trans (Same.trans (Same.trans (Same.trans (Same.trans (Same.trans (Same.trans e1 e2) e3) e4) e5) e6) e7) e8) e9) e10) e11) e12) e13) e14) e15) e16) e17) e18) e19) e20) e21) e22) e23) e24) e25) e26) e27) e28) e29) e30) e31)) fun r32 K32 f32 e32 m32 => ?_
      walk_at "go"
      obtain ⟨an, rfl⟩ : ∃ an : Nat, at' = an := ⟨at'.toNat, by omega⟩
      have ea : ms[an]? = some (ms[an]'(by omega)) := List.getElem?_eq_getElem _
      refine u_ixL (hm2.up trI (Same.trans (Same.trans (Same.trans (Same.trans (Same.trans (Same.trans (Same.trans (Same.trans (Same.trans (Same.trans (Same.trans (Same.trans (Same.trans (Same.trans (Same.trans (Same.trans (Same.trans (Same.trans (Same.trans (Same.trans (Same.trans (Same.trans (Same.trans (Same.trans (Same.trans (Same.trans (Same.trans (Same.trans (Same.trans (Same.trans (Same.trans e1 e2) e3) e4) e5) e6) e7) e8) e9) e10) e11) e12) e13) e14) e15) e16) e17) e18) e19) e20) e21) e22) e23) e24) e25) e26) e27) e28) e29) e30) e31) e32)) (atI_nat ea) fun vz hvz => ?_
      generalize ms[an]'(by omega) = zz at hvz
      obtain rfl : vz = V.int zz := hvz
      walk_at "go"
      rename_i r33 K33 f33 e33 m33
      refine i_cat (IL.up m32 e33) (i_one m33) (by decide) fun r34 K34 f34 e34 m34 => ?_
      walk_at "go"
      refine i_slice (IL.up hI2 (Same.trans (Same.trans (Same.trans (Same.trans (Same.trans (Same.trans (Same.trans (Same.trans (Same.trans (Same.trans (Same.trans (Same.trans (Same.trans (Same.trans (Same.trans (Same.trans (Same.trans (Same.trans (Same.trans (Same.trans (Same.trans (Same.trans (Same.trans (Same.trans (Same.trans (Same.trans (Same.trans (Same.trans (Same.trans (Same.trans (Same.trans (Same.trans (Same.trans e1 e2) e3) e4) e5) e6) e7) e8) e9) e10) e11) e12) e13) e14) e15) e16) e17) e18) e19) e20) e21) e22) e23) e24) e25) e26) e27) e28) e29) e30) e31) e32) e33) e34)) fun r35 K35 f35 e35 m35 => ?_
      walk_at "go"
      refine i_cat (IL.up m34 e35) m35 (by decide) fun r36 K36 f36 e36 m36 => ?_
      walk_at "go"
      refine i_slice (IL.up hI2 (Same.trans (Same.trans (Same.trans (Same.trans (Same.trans (Same.trans (Same.trans (Same.trans (Same.trans (Same.trans (Same.trans (Same.trans (Same.trans (Same.trans (Same.trans (Same.trans (Same.trans (Same.trans (Same.trans (Same.trans (Same.trans (Same.trans (Same.trans (Same.trans (Same.trans (Same.trans (Same.trans (Same.trans (Same.trans (Same.trans (Same.trans (Same.trans (Same.trans (Same.trans (Same.trans e1 e2) e3) e4) e5) e6) e7) e8) e9) e10) e11) e12) e13) e14) e15) e16) e17) e18) e19) e20) e21) e22) e23) e24) e25) e26) e27) e28) e29) e30) e31) e32) e33) e34) e35) e36)) fun r37 K37 f37 e37 m37 => ?_
      walk_at "go"
      rename_i r38 K38 f38 e38 m38
      refine i_cat (IL.up m37 e38) (i_one m38) (by decide) fun r39 K39 f39 e39 m39 => ?_
      walk_at "go"
      refine i_slice (IL.up hI2 (Same.trans (Same.trans (Same.trans (Same.trans (Same.trans (Same.trans (Same.trans (Same.trans (Same.trans (Same.trans (Same.trans (Same.trans (Same.trans (Same.trans (Same.trans (Same.trans (Same.trans (Same.trans (Same.trans (Same.trans (Same.trans (Same.trans (Same.trans (Same.trans (Same.trans (Same.trans (Same.trans (Same.trans (Same.trans (Same.trans (Same.trans (Same.trans (Same.trans (Same.trans (Same.trans (Same.trans (Same.trans (Same.trans e1 e2) e3) e4) e5) e6) e7) e8) e9) e10) e11) e12) e13) e14) e15) e16) e17) e18) e19) e20) e21) e22) e23) e24) e25) e26) e27) e28) e29) e30) e31) e32) e33) e34) e35) e36) e37) e38) e39)) fun r40 K40 f40 e40 m40 => ?_
      walk_at "go"
      refine i_cat (IL.up m39 e40) m40 (by decide) fun r41 K41 f41 e41 m41 => ?_
      walk_at "go"
      rename_i r42 K42 f42 e42 m42
      have R6 := rows2 m42 (IL.up m36 (Same.trans (Same.trans (Same.trans (Same.trans (Same.trans e37 e38) e39) e40) e41) e42)) (IL.up m41 e42) (by decide) (by decide)
      refine i_rows (RowsI.up m31 (Same.trans (Same.trans (Same.trans (Same.trans (Same.trans (Same.trans (Same.trans (Same.trans (Same.trans (Same.trans e32 e33) e34) e35) e36) e37) e38) e39) e40) e41) e42)) R6 (by decide) fun r43 K43 f43 e43 m43 => ?_
      walk_at "go"
      refine u_ixL (a := d0) (i := 0) (hds.up trI (Same.trans (Same.trans (Same.trans (Same.trans (Same.trans (Same.trans (Same.trans (Same.trans (Same.trans (Same.trans (Same.trans (Same.trans (Same.trans (Same.trans (Same.trans (Same.trans (Same.trans (Same.trans (Same.trans (Same.trans (Same.trans (Same.trans (Same.trans (Same.trans (Same.trans (Same.trans (Same.trans (Same.trans (Same.trans (Same.trans (Same.trans (Same.trans (Same.trans (Same.trans (Same.trans (Same.trans (Same.trans (Same.trans (Same.trans (Same.trans (Same.trans (Same.trans e1 e2) e3) e4) e5) e6) e7) e8) e9) e10) e11) e12) e13) e14) e15) e16) e17) e18) e19) e20) e21) e22) e23) e24) e25) e26) e27) e28) e29) e30) e31) e32) e33) e34) e35) e36) e37) e38) e39) e40) e41) e42) e43)) (atI_nat (j := 0) rfl) fun vz hvz => ?_
      obtain rfl : vz = V.int d0 := hvz
      obtain ⟨dn, rfl⟩ : ∃ dn : Nat, d0 = dn := ⟨d0.toNat, by omega⟩
      refine i_at m43 (by omega) fun az haz => ?_
      exact k az _ (Same.trans s02 (Same.trans (Same.trans (Same.trans (Same.trans (Same.trans (Same.trans (Same.trans (Same.trans (Same.trans (Same.trans (Same.trans (Same.trans (Same.trans (Same.trans (Same.trans (Same.trans (Same.trans (Same.trans (Same.trans (Same.trans (Same.trans (Same.trans (Same.trans (Same.trans (Same.trans (Same.trans (Same.trans (Same.trans (Same.trans (Same.trans (Same.trans (Same.trans (Same.trans (Same.trans (Same.trans (Same.trans (Same.trans (Same.trans (Same.trans (Same.trans (Same.trans (Same.trans e1 e2) e3) e4) e5) e6) e7) e8) e9) e10) e11) e12) e13) e14) e15) e16) e17) e18) e19) e20) e21) e22) e23) e24) e25) e26) e27) e28) e29) e30) e31) e32) e33) e34) e35) e36) e37) e38) e39) e40) e41) e42) e43)) haz
end
end Cp
end
section
namespace Cp
open PySem PySem.Spec PyProof.Rows L2
abbrev Ed := Pt × Pt
/-- the sides of a cell: the cell beyond, from, to -/
def sidesOf (c : Pt) : List (Pt × Pt × Pt) := [((c.1, c.2 - 1), (c.1, c.2), (c.1 + 1, c.2)), ((c.1 + 1, c.2), (c.1 + 1, c.2), (c.1 + 1, c.2 + 1)), ((c.1, c.2 + 1), (c.1 + 1, c.2 + 1), (c.1, c.2 + 1)), ((c.1 - 1, c.2), (c.1, c.2 + 1), (c.1, c.2))]
def outE (cells : List Pt) (c : Pt) : List Ed := ((sidesOf c).filter fun s => decide (s.1 ∉ cells)).map fun s => s.2
def inE (cells : List Pt) (c : Pt) : List Ed := ((sidesOf c).filter fun s => decide (s.1 ∈ cells)).map fun s => s.2
def edges (cells : List Pt) : List Ed := cells.flatMap (outE cells)
def inner (cells : List Pt) : List Ed := cells.flatMap (inE cells)
def outc (v : Pt) (L : List Ed) : Nat := L.countP fun e => decide (e.1 = v)
def inc (v : Pt) (L : List Ed) : Nat := L.countP fun e => decide (e.2 = v)
theorem countP_split {α : Type} (p : α → Bool) (f g : Pt × Pt × Pt → Bool) (h : Pt × Pt × Pt → α) (hfg : ∀ s, g s = !f s) : ∀ l : List (Pt × Pt × Pt), ((l.filter f).map h).countP p + ((l.filter g).map h).countP p = (l.map h).countP p
  | [] => rfl
  | s :: l => by
    have ih := countP_split p f g h hfg l
    have hg := hfg s
    cases hf : f s with
    | true =>
      rw [hf] at hg
      simp only [List.filter, hf, hg, Bool.not_true, List.map_cons, List.countP_cons]
      omega
    | false =>
      rw [hf] at hg
      simp only [List.filter, hf, hg, Bool.not_false, List.map_cons, List.countP_cons]
      omega
theorem count_flat {α : Type} (p : α → Bool) (f g k : Pt → List α) (h : ∀ c, (f c).countP p + (g c).countP p = (k c).countP p) : ∀ cs : List Pt, (cs.flatMap f).countP p + (cs.flatMap g).countP p = (cs.flatMap k).countP p
  | [] => rfl
  | c :: cs => by
    have ih := count_flat p f g k h cs
    have := h c
    simp only [List.flatMap_cons, List.countP_append]
    omega
def allE (c : Pt) : List Ed := (sidesOf c).map fun s => s.2
theorem split_out (cells : List Pt) (v : Pt) (cs : List Pt) : outc v (cs.flatMap (outE cells)) + outc v (cs.flatMap (inE cells)) = outc v (cs.flatMap allE) := by
  refine count_flat _ _ _ _ (fun c => ?_) cs
  exact countP_split _ _ _ _ (fun s => by by_cases h : s.1 ∈ cells <;> simp [h]) _
theorem split_in (cells : List Pt) (v : Pt) (cs : List Pt) : inc v (cs.flatMap (outE cells)) + inc v (cs.flatMap (inE cells)) = inc v (cs.flatMap allE) := by
  refine count_flat _ _ _ _ (fun c => ?_) cs
  exact countP_split _ _ _ _ (fun s => by by_cases h : s.1 ∈ cells <;> simp [h]) _
theorem all_bal (v : Pt) : ∀ cs : List Pt, outc v (cs.flatMap allE) = inc v (cs.flatMap allE)
  | [] => rfl
  | c :: cs => by
    have ih := all_bal v cs
    unfold outc inc at *
    rw [List.flatMap_cons, List.countP_append, List.countP_append, ih]
    congr 1
    unfold allE sidesOf
    simp only [List.map_cons, List.map_nil, List.countP_cons, List.countP_nil]
    omega
theorem inner_mem {cells : List Pt} {e : Ed} : e ∈ inner cells ↔ ∃ c ∈ cells, ∃ s ∈ sidesOf c, s.1 ∈ cells ∧ s.2 = e := by
  unfold inner inE
  simp only [List.mem_flatMap, List.mem_map, List.mem_filter, decide_eq_true_eq]
  constructor
  · rintro ⟨c, hc, s, ⟨h1, h2⟩, h3⟩
    exact ⟨c, hc, s, h1, h2, h3⟩
  · rintro ⟨c, hc, s, h1, h2, h3⟩
    exact ⟨c, hc, s, ⟨h1, h2⟩, h3⟩
theorem sides_mem {c : Pt} {s : Pt × Pt × Pt} (h : s ∈ sidesOf c) : s = ((c.1, c.2 - 1), (c.1, c.2), (c.1 + 1, c.2)) ∨ s = ((c.1 + 1, c.2), (c.1 + 1, c.2), (c.1 + 1, c.2 + 1)) ∨ s = ((c.1, c.2 + 1), (c.1 + 1, c.2 + 1), (c.1, c.2 + 1)) ∨ s = ((c.1 - 1, c.2), (c.1, c.2 + 1), (c.1, c.2)) := by
  unfold sidesOf at h
  simpa using h
theorem turn_mem {cells : List Pt} {e : Ed} (h : e ∈ inner cells) : (e.2, e.1) ∈ inner cells := by
  obtain ⟨c, hc, s, hs, hin, rfl⟩ := inner_mem.mp h
  refine inner_mem.mpr ⟨s.1, hin, ?_⟩
  obtain ⟨x, y⟩ := c
  rcases sides_mem hs with rfl | rfl | rfl | rfl
  · refine ⟨((x, y - 1 + 1), (x + 1, y - 1 + 1), (x, y - 1 + 1)), by simp [sidesOf], ?_, ?_⟩
    · simp only; rw [show y - 1 + 1 = y by omega]; exact hc
    · simp only; rw [show y - 1 + 1 = y by omega]
  · refine ⟨((x + 1 - 1, y), (x + 1, y + 1), (x + 1, y)), by simp [sidesOf], ?_, rfl⟩
    simp only; rw [show x + 1 - 1 = x by omega]; exact hc
  · refine ⟨((x, y + 1 - 1), (x, y + 1), (x + 1, y + 1)), by simp [sidesOf], ?_, rfl⟩
    simp only; rw [show y + 1 - 1 = y by omega]; exact hc
  · refine ⟨((x - 1 + 1, y), (x - 1 + 1, y), (x - 1 + 1, y + 1)), by simp [sidesOf], ?_, ?_⟩
    · simp only; rw [show x - 1 + 1 = x by omega]; exact hc
    · simp only; rw [show x - 1 + 1 = x by omega]
/-- an edge tells its cell -/
theorem side_cell {c c' : Pt} {s s' : Pt × Pt × Pt} (h : s ∈ sidesOf c) (h' : s' ∈ sidesOf c') (e : s.2 = s'.2) : c = c' := by
  obtain ⟨x, y⟩ := c
  obtain ⟨x', y'⟩ := c'
  rcases sides_mem h with rfl | rfl | rfl | rfl <;> rcases sides_mem h' with rfl | rfl | rfl | rfl <;> simp only [Prod.mk.injEq] at e ⊢ <;> omega
theorem allE_nodup (c : Pt) : (allE c).Nodup := by
  obtain ⟨x, y⟩ := c
  unfold allE sidesOf
  simp only [List.map_cons, List.map_nil, List.nodup_cons, List.mem_cons, List.not_mem_nil, Prod.mk.injEq, or_false, not_or, not_false_eq_true, List.nodup_nil, and_true]
  omega
theorem inner_nodup {cells : List Pt} (h : cells.Nodup) : (inner cells).Nodup := by
  refine nodup_flat h (fun c _ => ?_) fun a b e ha hb => ?_
  · unfold inE
    exact List.Nodup.sublist ((List.filter_sublist).map _) (allE_nodup c)
  · unfold inE at ha hb
    obtain ⟨s, hs, e1⟩ := List.mem_map.mp ha
    obtain ⟨s', hs', e2⟩ := List.mem_map.mp hb
    exact side_cell (List.mem_filter.mp hs).1 (List.mem_filter.mp hs').1 (e1.trans e2.symm)
theorem inner_bal {cells : List Pt} (h : cells.Nodup) (v : Pt) : outc v (inner cells) = inc v (inner cells) := by
  have hn := inner_nodup h
  have hp : ((inner cells).map fun e : Ed => (e.2, e.1)).Perm (inner cells) := by
    refine (List.perm_ext_iff_of_nodup (nodup_map hn fun a b e => ?_) hn).mpr fun e => ?_
    · have e1 := congrArg Prod.fst e
      have e2 := congrArg Prod.snd e
      exact Prod.ext e2 e1
    · constructor
      · intro he
        obtain ⟨a, ha, rfl⟩ := List.mem_map.mp he
        exact turn_mem ha
      · intro he
        exact List.mem_map.mpr ⟨(e.2, e.1), turn_mem he, rfl⟩
  unfold outc inc
  rw [← hp.countP_eq, List.countP_map]
  rfl
/-- as many edges leave a corner as come to it -/
theorem edges_bal {cells : List Pt} (h : cells.Nodup) (v : Pt) : outc v (edges cells) = inc v (edges cells) := by
  have h1 := split_out cells v cells
  have h2 := split_in cells v cells
  have h3 := all_bal v cells
  have h4 := inner_bal h v
  unfold edges inner at *
  omega
theorem edges_ok {W Hh : Nat} {cells : List Pt} (hc : ∀ c ∈ cells, 0 ≤ c.1 ∧ c.1 < W ∧ 0 ≤ c.2 ∧ c.2 < Hh) : ∀ e ∈ edges cells, OnB W Hh e.1 ∧ OnB W Hh e.2 ∧ dst e.1 e.2 = 1 := by
  intro e he
  unfold edges outE at he
  obtain ⟨c, hcc, he⟩ := List.mem_flatMap.mp he
  obtain ⟨s, hs, rfl⟩ := List.mem_map.mp he
  have b := hc c hcc
  obtain ⟨x, y⟩ := c
  simp only at b
  unfold OnB dst
  rcases sides_mem (List.mem_filter.mp hs).1 with rfl | rfl | rfl | rfl <;> simp only <;> omega
theorem edges_len {cells : List Pt} : (edges cells).length ≤ cells.length * 4 := by
  unfold edges
  refine flat_len _ fun c _ => ?_
  unfold outE
  rw [List.length_map]
  exact List.length_filter_le _ _
/-- an edge is taken -/
theorem out_erase {L : List Ed} {e : Ed} (h : e ∈ L) (v : Pt) : outc v L = outc v (L.erase e) + (if e.1 = v then 1 else 0) := by
  unfold outc
  rw [(List.perm_cons_erase h).countP_eq, List.countP_cons]
  by_cases h1 : e.1 = v <;> simp [h1]
theorem inc_erase {L : List Ed} {e : Ed} (h : e ∈ L) (v : Pt) : inc v L = inc v (L.erase e) + (if e.2 = v then 1 else 0) := by
  unfold inc
  rw [(List.perm_cons_erase h).countP_eq, List.countP_cons]
  by_cases h1 : e.2 = v <;> simp [h1]
/-- underway from c0, at s -/
def Way (L : List Ed) (c0 s : Pt) : Prop := ∀ v, outc v L + (if c0 = v then 1 else 0) = inc v L + (if s = v then 1 else 0)
theorem Way.start {L : List Ed} {c s : Pt} (b : ∀ v, outc v L = inc v L) (h : (c, s) ∈ L) : Way (L.erase (c, s)) c s := fun v => by
  have h1 := out_erase h v
  have h2 := inc_erase h v
  have h3 := b v
  simp only at h1 h2
  omega
theorem Way.step {L : List Ed} {c s t : Pt} (w : Way L c s) (h : (s, t) ∈ L) : Way (L.erase (s, t)) c t := fun v => by
  have h1 := out_erase h v
  have h2 := inc_erase h v
  have h3 := w v
  simp only at h1 h2
  omega
theorem Way.done {L : List Ed} {c : Pt} (w : Way L c c) : ∀ v, outc v L = inc v L := fun v => by
  have := w v
  omega
theorem Way.more {L : List Ed} {c s : Pt} (w : Way L c s) (h : s ≠ c) : ∃ t, (s, t) ∈ L := by
  have h1 := w s
  rw [if_neg (fun e => h e.symm), if_pos rfl] at h1
  have h2 : 0 < outc s L := by omega
  unfold outc at h2
  obtain ⟨e, he, h3⟩ := List.countP_pos_iff.mp h2
  have : e.1 = s := of_decide_eq_true h3
  exact ⟨e.2, by rw [← this]; exact he⟩
end Cp
end
section
namespace Cp
open PySem PySem.Spec PyProof.Rows L2
section
variable {P : Program} {w : World} {K : PySem.W.Frag}
/-- the dict of rows at D: what leaves each corner -/
structure LV (P : Program) (w : World) (H0 H : Hp) (D : Addr) (kvs : List (Pt × V)) (adr : Pt → Option Addr) (es : Pt → List Pt) (L : List Ed) : Prop where
  nt : NTab kt1 P w H D kvs
  ad : ∀ c, look kvs c = (adr c).map V.ref
  row : ∀ c a, adr c = some a → LsR Cn H a (es c) ∧ H0 a = none ∧ a ≠ D
  inj : ∀ c c' a, adr c = some a → adr c' = some a → c = c'
  non : ∀ c, adr c = none → es c = []
  cnt : ∀ c v, (es c).count v = L.count (c, v)
section
variable {H0 H H' : Hp} {D q : Addr} {kvs : List (Pt × V)} {adr : Pt → Option Addr} {es : Pt → List Pt} {L : List Ed}
theorem LV.up (l : LV P w H0 H D kvs adr es L) (s : Same H H') : LV P w H0 H' D kvs adr es L :=
  ⟨l.nt.up s, l.ad, fun c a h => ⟨(l.row c a h).1.up trC s, (l.row c a h).2⟩, l.inj, l.non, l.cnt⟩
/-- another object is written -/
theorem LV.but (l : LV P w H0 H D kvs adr es L) (b : But q H H') (tk : TupK H H') (hD : D ≠ q) (hr : ∀ c a, adr c = some a → a ≠ q) : LV P w H0 H' D kvs adr es L :=
  ⟨l.nt.upD (fun o e => b _ _ hD e) tk, l.ad, fun c a h => ⟨(l.row c a h).1.up2 trC tk fun xs e => b _ _ (hr c a h) e, (l.row c a h).2⟩, l.inj, l.non, l.cnt⟩
/-- a row is written -/
theorem LV.set (l : LV P w H0 H D kvs adr es L) {s : Pt} {a : Addr} (ha : adr s = some a) {xs : List Pt} {L' : List Ed} (b : But a H H') (hx : LsR Cn H' a xs) (hc : ∀ c v, (if c = s then xs else es c).count v = L'.count (c, v)) :
    LV P w H0 H' D kvs adr (fun c => if c = s then xs else es c) L' := by
  obtain ⟨⟨ys, hy, _⟩, h0, hD⟩ := l.row s a ha
  have tk : TupK H H' := b.tup hy fun _ z => by cases z
  refine ⟨l.nt.upD (fun o e => b _ _ (fun z => hD z.symm) e) tk, l.ad, fun c a' h => ?_, l.inj, fun c h => ?_, hc⟩
  · by_cases e : c = s
    · subst e
      rw [if_pos rfl]
      have : a' = a := Option.some.inj (h.symm.trans ha)
      rw [this]
      exact ⟨hx, h0, hD⟩
    · rw [if_neg e]
      obtain ⟨r1, r2, r3⟩ := l.row c a' h
      exact ⟨r1.up2 trC tk fun xs e2 => b _ _ (fun z => e (l.inj c s a (z ▸ h) ha)) e2, r2, r3⟩
  · by_cases e : c = s
    · rw [e] at h; rw [ha] at h; cases h
    · rw [if_neg e]; exact l.non c h
theorem LV.push (l : LV P w H0 H D kvs adr es L) {s t : Pt} {a : Addr} (ha : adr s = some a) (b : But a H H') (hx : LsR Cn H' a (es s ++ [t])) : LV P w H0 H' D kvs adr (fun c => if c = s then es s ++ [t] else es c) (L ++ [(s, t)]) := by
  refine l.set ha b hx fun c v => ?_
  have := l.cnt c v
  by_cases e : c = s
  · subst e
    rw [if_pos rfl, List.count_append, List.count_append, this]
    congr 1
    by_cases e2 : t = v
    · subst e2; simp
    · rw [List.count_eq_zero.mpr (by simp; exact fun h => e2 h.symm), List.count_eq_zero.mpr (by simp; exact fun h => e2 h.symm)]
  · have z : [((s, t) : Ed)].count (c, v) = 0 := List.count_eq_zero.mpr fun h => e (congrArg Prod.fst (List.mem_singleton.mp h))
    rw [if_neg e, List.count_append, this, z]
    rfl
theorem LV.take (l : LV P w H0 H D kvs adr es L) {s t : Pt} {a : Addr} {xs : List Pt} (ha : adr s = some a) (b : But a H H') (hx : LsR Cn H' a xs) (hp : (es s).Perm (t :: xs)) : LV P w H0 H' D kvs adr (fun c => if c = s then xs else es c) (L.erase (s, t)) := by
  refine l.set ha b hx fun c v => ?_
  have := l.cnt c v
  by_cases e : c = s
  · subst e
    rw [if_pos rfl, List.count_erase]
    rw [hp.count_eq, List.count_cons] at this
    by_cases e2 : t = v
    · subst e2
      simp only [BEq.rfl, if_true] at this ⊢
      omega
    · have h1 : (t == v) = false := beq_eq_false_iff_ne.mpr e2
      have h2 : ((c, v) == (c, t)) = false := beq_eq_false_iff_ne.mpr fun h => e2 (congrArg Prod.snd h).symm
      have h3 : ((c, t) == (c, v)) = false := beq_eq_false_iff_ne.mpr fun h => e2 (congrArg Prod.snd h)
      simp only [h1, Bool.false_eq_true, if_false, Nat.add_zero] at this
      simp only [h2, h3, Bool.false_eq_true, if_false, Nat.sub_zero]
      exact this
  · rw [if_neg e, List.count_erase, this]
    have h2 : ((c, v) == (s, t)) = false := beq_eq_false_iff_ne.mpr fun h => e (congrArg Prod.fst h)
    have h3 : ((s, t) == (c, v)) = false := beq_eq_false_iff_ne.mpr fun h => e (congrArg Prod.fst h).symm
    simp only [h2, h3, Bool.false_eq_true, if_false, Nat.sub_zero]
theorem LV.mem (l : LV P w H0 H D kvs adr es L) {s t : Pt} : t ∈ es s ↔ (s, t) ∈ L := by
  rw [← List.count_pos_iff, ← List.count_pos_iff, l.cnt]
theorem LV.has (l : LV P w H0 H D kvs adr es L) {s t : Pt} (h : (s, t) ∈ L) : ∃ a, adr s = some a := by
  cases e : adr s with
  | some a => exact ⟨a, rfl⟩
  | none =>
    have := l.mem.mpr h
    rw [l.non s e] at this
    cases this
/-- a new row -/
theorem LV.new (l : LV P w H0 H D kvs adr es L) {s : Pt} {z : Addr} (hs : adr s = none) (h0 : H0 z = none) (hzD : z ≠ D) (hz : LsR Cn H z []) (hf : ∀ c a, adr c = some a → a ≠ z) (b : But D H H') (nt : NTab kt1 P w H' D (put kvs s (.ref z))) :
    LV P w H0 H' D (put kvs s (.ref z)) (fun c => if c = s then some z else adr c) es L := by
  have tk := l.nt.tupK b
  refine ⟨nt, fun c => ?_, fun c a h => ?_, fun c c' a h h' => ?_, fun c h => ?_, l.cnt⟩
  · rw [look_put]
    by_cases e : c = s
    · rw [if_pos e, if_pos e]; rfl
    · rw [if_neg e, if_neg e]; exact l.ad c
  · by_cases e : c = s
    · rw [if_pos e] at h
      have : z = a := Option.some.inj h
      rw [← this, e, l.non s hs]
      exact ⟨hz.up2 trC tk fun xs e => b _ _ hzD e, h0, hzD⟩
    · rw [if_neg e] at h
      obtain ⟨r1, r2, r3⟩ := l.row c a h
      exact ⟨r1.up2 trC tk fun xs e => b _ _ r3 e, r2, r3⟩
  · by_cases e : c = s
    · by_cases e' : c' = s
      · rw [e, e']
      · rw [if_pos e] at h
        rw [if_neg e'] at h'
        exact absurd (Option.some.inj h).symm (hf c' a h')
    · by_cases e' : c' = s
      · rw [if_neg e] at h
        rw [if_pos e'] at h'
        exact absurd (Option.some.inj h').symm (hf c a h)
      · rw [if_neg e] at h
        rw [if_neg e'] at h'
        exact l.inj c c' a h h'
  · by_cases e : c = s
    · rw [if_pos e] at h; cases h
    · rw [if_neg e] at h
      exact l.non c h
end
section
variable {H : Hp} {Q : VK} {a : Addr} {σ : L2.St} {te : TE}
theorem s_bm0 {T : String} {r : V → List V → Hp → VK → Prop} (h : te σ H fun x H1 => tyV K T x H1 ∧ r x [] H1 Q) : tBM0 K T r te σ H Q := h
theorem u_pop {α : Type} {R : Hp → V → α → Prop} {as : List α} {x : α} (t : Tr R) (h : LsR R H a (as ++ [x])) (q : ∀ v H', But a H H' → TupK H H' → LsR R H' a as → R H' v x → Q v H') : tyV K "list" (.ref a) H ∧ rPop (.ref a) [] H Q := by
  obtain ⟨xs, hx, pr⟩ := h
  have hl := Paired.length pr
  rw [List.length_append, List.length_singleton] at hl
  have hne : xs ≠ [] := fun e => by rw [e] at hl; simp at hl
  obtain ⟨ys, y, rfl⟩ : ∃ ys y, xs = ys ++ [y] := ⟨xs.dropLast, xs.getLast hne, (List.dropLast_concat_getLast hne).symm⟩
  have hl2 : ys.length = as.length := by rw [List.length_append, List.length_singleton] at hl; omega
  have bu : But a H (upd H a (.lst (ys ++ [y]).dropLast)) := But.upd _ _ _
  have tk := bu.tup hx fun _ z => by cases z
  have hp1 : Paired (R H) ys as := by
    have := Paired.take pr as.length
    rw [List.take_left' hl2, List.take_left' rfl] at this
    exact this
  have hp2 : R H y x := by
    obtain ⟨b, hb, r⟩ := paired_at pr (i := as.length) (a := y) (by rw [← hl2]; simp)
    have : b = x := by simpa using hb.symm
    rw [← this]; exact r
  refine ⟨s_lty hx, a, ys ++ [y], y, rfl, rfl, hx, by simp, q y _ bu tk ⟨ys, by rw [upd_same, List.dropLast_concat], Paired.mono (fun a b r => t.up tk r) hp1⟩ (t.up tk hp2)⟩
theorem u_remove {as : List Pt} {c : Pt} {v : V} (h : LsR Cn H a as) (hv : Cn H v c) (hm : c ∈ as) (q : ∀ H', But a H H' → TupK H H' → LsR Cn H' a (as.erase c) → Q .non H') : rRemD K (.ref a) [v] H Q := by
  obtain ⟨xs, hx, pr⟩ := id h
  have hi := List.idxOf_lt_length_of_mem hm
  have bu : But a H (upd H a (.lst (xs.eraseIdx (as.idxOf c)))) := But.upd _ _ _
  have tk := bu.tup hx fun _ z => by cases z
  have per : ∀ {xs : List V} {as : List Pt}, Paired (Cn H) xs as → ∀ j, Paired (Cn (upd H a (.lst (xs.eraseIdx (as.idxOf c))))) (xs.eraseIdx j) (as.eraseIdx j) → True := fun _ _ _ => trivial
  have er : ∀ {xs : List V} {as : List Pt}, Paired (Cn H) xs as → ∀ j, Paired (Cn H) (xs.eraseIdx j) (as.eraseIdx j) := by
    intro xs as pr
    induction pr with
    | nil => intro j; simp; exact .nil
    | cons r t ih =>
      intro j
      cases j with
      | zero => simpa using t
      | succ j => simpa using Paired.cons r (ih j)
  refine ⟨a, xs, v, eP c, as.map eP, as.idxOf c, eP c, rfl, rfl, hx, dpAll_of pr, Cn.dp hv, shaped_eLs as, shaped_eP c, ?_, by rw [eqv_eP]; exact decide_eq_true rfl, fun m z hm' hz => ?_, q _ bu tk ⟨_, upd_same, ?_⟩⟩
  · rw [List.getElem?_map, List.getElem?_eq_getElem hi, List.getElem_idxOf hi]
    rfl
  · rw [List.getElem?_map] at hz
    have hml : m < as.length := by omega
    rw [List.getElem?_eq_getElem hml] at hz
    have : eP as[m] = z := Option.some.inj hz
    rw [← this, eqv_eP]
    refine decide_eq_false fun e => ?_
    have := List.not_of_lt_findIdx (xs := as) (p := fun x => x == c) (i := m) hm'
    simp [e] at this
  · rw [List.erase_eq_eraseIdx_of_idxOf rfl]
    exact Paired.mono (fun a b r => trC.up tk r) (er pr _)
end
/-- lists made after Hb -/
def LLF {α : Type} (R : Hp → V → α → Prop) (Hb H : Hp) (p : Addr) (xss : List (List α)) : Prop := ∃ as : List Addr, H p = some (.lst (as.map V.ref)) ∧ Paired (fun a xs => LsR R H a xs) as xss ∧ ∀ a ∈ as, a ≠ p ∧ Hb a = none
theorem LLF.ll {α : Type} {R : Hp → V → α → Prop} {Hb H : Hp} {p : Addr} {xss : List (List α)} (h : LLF R Hb H p xss) : LLR R H p xss := by
  obtain ⟨as, e, q, n⟩ := h
  exact ⟨as, e, q, fun a ha => (n a ha).1⟩
theorem LLF.up {α : Type} {R : Hp → V → α → Prop} {Hb H H' : Hp} {p : Addr} {xss : List (List α)} (t : Tr R) (h : LLF R Hb H p xss) (s : Same H H') : LLF R Hb H' p xss := by
  obtain ⟨as, e, q, n⟩ := h
  exact ⟨as, s _ _ e, Paired.mono (fun a b r => r.up t s) q, n⟩
theorem LLF.but {α : Type} {R : Hp → V → α → Prop} {Hb H H' : Hp} {p q : Addr} {xss : List (List α)} (t : Tr R) (h : LLF R Hb H p xss) (b : But q H H') (tk : TupK H H') (hp : p ≠ q) (hq : ∃ o, Hb q = some o) : LLF R Hb H' p xss := by
  obtain ⟨as, e, pr, n⟩ := h
  refine ⟨as, b _ _ hp e, paired_mem pr fun a ha xs r => r.up2 t tk fun ys e2 => b _ _ (fun z => ?_) e2, n⟩
  obtain ⟨o, ho⟩ := hq
  have := (n a ha).2
  rw [z, ho] at this
  cases this
/-- .. a list is written that isn't among them -/
theorem LLF.butN {α : Type} {R : Hp → V → α → Prop} {Hb Hc H H' : Hp} {p q : Addr} {xss : List (List α)} (t : Tr R) (h : LLF R Hb Hc p xss) (s : Same Hc H) (hq : Hc q = none) (b : But q H H') (tk : TupK H H') : LLF R Hb H' p xss := by
  obtain ⟨as, e, pr, n⟩ := h
  refine ⟨as, b _ _ (ne_of_none e hq) (s _ _ e), paired_mem pr fun a ha xs r => (r.up t s).up2 t tk fun ys e2 => b _ _ (fun z => ?_) e2, n⟩
  obtain ⟨zs, hz, _⟩ := r
  rw [z, hq] at hz
  cases hz
theorem u_appendLF {α : Type} {R : Hp → V → α → Prop} {Hb H : Hp} {Q : VK} {p a : Addr} {xss : List (List α)} {xs : List α} (t : Tr R) (h : LLF R Hb H p xss) (ha : LsR R H a xs) (hn : a ≠ p) (hb : Hb a = none) (hl : xss.length < 100000) (q : ∀ H1, But p H H1 → TupK H H1 → LLF R Hb H1 p (xss ++ [xs]) → Q .non H1) : rAppend (.ref p) [.ref a] H Q := by
  obtain ⟨as, e, pr, n⟩ := h
  have hx := Paired.length pr
  refine s_append e (by rw [List.length_map]; omega) fun H1 h1 h2 h3 => ?_
  have bt : TupK H H1 := But.tup (p := p) h1 e fun _ z => by cases z
  refine q H1 h1 bt ⟨as ++ [a], by rw [h2, List.map_append]; rfl, ?_, fun b hb' => ?_⟩
  · refine Paired.snoc (paired_mem pr fun b hb xs r => r.up2 t bt fun ys e => h1 _ _ (n b hb).1 e) (ha.up2 t bt fun ys e => h1 _ _ hn e)
  · rcases List.mem_append.mp hb' with hb' | hb'
    · exact n b hb'
    · rw [List.mem_singleton.mp hb']; exact ⟨hn, hb⟩
end
end Cp
end
section
namespace Cp
open PySem PySem.Spec PyProof.Rows L2
local macro_rules | `(tactic| walk_at "f") => `(tactic| first | assumption | (refine' keep_of ?_ (by assumption); walk_at "f") | (refine Cn.up ?_ (by assumption); walk_at "f") | (refine Pr.up ?_ (by assumption); walk_at "f") | (refine NTab.up ?_ (by assumption); walk_at "f") | (refine PlI.up ?_ (by assumption); walk_at "f") | (refine LsR.up (by first | exact trC | exact trP | exact trI | assumption) ?_ (by assumption); walk_at "f"))
local macro_rules | `(tactic| walk_at "sm") => `(tactic| first | exact Same.refl _ | assumption | (refine same_tr ?_ (by assumption); walk_at "sm"))
local macro_rules | `(tactic| walk_at "fr") => `(tactic| first | assumption | (refine nof ?_ (by assumption); walk_at "fr"))
local macro_rules | `(tactic| walk_at "s1") => `(tactic| first
  | with_reducible refine s_seq ?_ | with_reducible refine s_ret ?_ | with_reducible refine s_asg ?_ | with_reducible refine s_if ?_ | with_reducible refine s_next ?_ | with_reducible refine s_drop ?_
  | ((with_reducible refine' s_var ?h ?q); (case h => exact rfl)) | with_reducible refine s_c ?_ | with_reducible refine s_op ?_ | with_reducible refine s_I0 ?_
  | with_reducible refine s_eqI ?_ | with_reducible refine s_neI ?_ | with_reducible refine s_eqS ?_ | with_reducible refine s_neS ?_
  | with_reducible refine s_test ?_ | with_reducible refine s_tB ?_ | with_reducible refine s_bl ?_ | with_reducible refine s_and ?_ | with_reducible refine s_or ?_ | with_reducible refine s_not ?_ | with_reducible refine s_andV ?_ | with_reducible refine s_chain ?_
  | with_reducible refine s_cons ?_ | with_reducible refine s_nil ?_ | with_reducible refine s_tup ?_ | with_reducible refine s_lst ?_
  | with_reducible refine s_CB ?_ | with_reducible refine s_call ?_ | with_reducible refine s_gname ?_ | with_reducible refine s_gcons ?_ | with_reducible refine s_gnil ?_
  | ((with_reducible refine' s_gtup ?h ?e ?q); (case h => walk_at "f"); (case e => exact rfl))
  | ((with_reducible refine' s_ixT ?h ?e ?q); (case h => walk_at "f"); (case e => exact rfl))
  | (with_reducible refine s_BM ?_) | ((with_reducible refine s_new ?z ?q); (case z => exact rfl); intro p H1 hp hs hv))
local macro_rules | `(tactic| walk_at "s2") => `(tactic| first
  | walk_at "s1" | with_reducible refine iteF ?_ | with_reducible refine iteT ?_ | with_reducible refine iteNT ?_ | with_reducible refine iteNF ?_ | with_reducible refine u_tup ?_ | with_reducible refine u_lst ?_ | ((with_reducible refine u_newT ?z ?q); (case z => exact rfl); intro p H1 hp hs hv) | ((with_reducible refine u_newL ?z ?q); (case z => exact rfl); intro p H1 hp hs hv) | with_reducible refine s_min2 ?_ | ((with_reducible refine' s_aug ?h ?q); (case h => exact rfl)) | with_reducible refine s_ipI ?_ | with_reducible refine s_sl2 ?_ | with_reducible refine s_part ?_ | with_reducible refine u_part ?_ | with_reducible refine s_nopart ?_ | with_reducible refine s_rev ?_ | with_reducible refine s_un ?_ | with_reducible refine s_U ?_ | with_reducible refine s_gsub ?_ | ((with_reducible refine s_lenS ?z ?q); (case z => assumption)) | with_reducible refine s_rng1 ?_ | with_reducible refine s_rng2 ?_ | with_reducible refine s_list ?_ | with_reducible refine s_istr ?_ | with_reducible refine u_str ?_ | with_reducible refine s_for ?_ | with_reducible refine s_lc ?_ | with_reducible refine s_lc2 ?_ | with_reducible refine s_yes ?_ | with_reducible refine s_bm ?_ | with_reducible refine s_mth ?_ | with_reducible refine s_abs ?_ | with_reducible refine s_int1 ?_ | with_reducible refine s_nget ?_ | with_reducible refine s_fld ?_
  | ((with_reducible refine' s_lenL ?h ?q); (case h => walk_at "f"))
  | ((with_reducible refine' s_lenT ?h ?q); (case h => walk_at "f")))
local macro_rules | `(tactic| walk_at "go") => `(tactic| repeat walk_at "s2")
section
variable {P : Program} {w : World} {K : PySem.W.Frag} {mg : Str → Option Value} {base : Heap} {C : Addr}
theorem eP_alike (b b' : Pt) : PySem.W.alike (eP b) (eP b') = true := by simp [eP, PySem.W.alike, PySem.W.alikeAll]
theorem eP_dep (b : Pt) : (eP b).depth ≤ 8 := by simp [eP, PyData.depth, PyData.depthAll]
def SdR (H : Hp) (v : V) (s : Pt × Pt × Pt) : Prop := ∃ t v1 v2 v3, v = .ref t ∧ H t = some (.tup [v1, v2, v3]) ∧ Cn H v1 s.1 ∧ Cn H v2 s.2.1 ∧ Cn H v3 s.2.2
theorem trD : Tr SdR := ⟨fun s h => by
  obtain ⟨t, v1, v2, v3, e, h, h1, h2, h3⟩ := h
  exact ⟨t, v1, v2, v3, e, s _ _ h, h1.upT s, h2.upT s, h3.upT s⟩⟩
theorem u_appL {α : Type} {R : Hp → V → α → Prop} {H : Hp} {Q : VK} {p : Addr} {as : List α} {x : α} {v : V} (t : Tr R) (h : LsR R H p as) (r : R H v x) (hl : as.length < 100000) (q : ∀ H1, But p H H1 → TupK H H1 → LsR R H1 p (as ++ [x]) → Q .non H1) : rAppend (.ref p) [v] H Q := by
  obtain ⟨xs, e, pr⟩ := h
  have hx := Paired.length pr
  refine s_append e (by omega) fun H1 h1 h2 h3 => ?_
  have bt : TupK H H1 := But.tup (p := p) h1 e fun _ z => by cases z
  exact q H1 h1 bt ⟨_, h2, Paired.snoc (Paired.mono (fun a b r => t.up bt r) pr) (t.up bt r)⟩
theorem s_nsetd {κ : Type} [DecidableEq κ] {T : KT κ} {td ty tx : TE} {σ : L2.St} {H : Hp} {Q : VK} (h : td σ H fun x H1 => ∃ d, x = .ref d ∧ (∃ kvs, NTab T P w H1 d kvs) ∧ ty σ H1 fun y H2 => tx σ H2 fun z H3 => ∃ (kvs : List (κ × V)) (k : κ), NTab T P w H3 d kvs ∧ kvs.length < 100000 ∧ T.is H3 y k ∧
  (∀ v, look kvs k = some v → Q v H3) ∧ (look kvs k = none → ∀ H', NTab T P w H' d (put kvs k z) → (∀ b o, b ≠ d → H3 b = some o → H' b = some o) → (∀ b, H' b = none → H3 b = none) → Q z H')) : tNSetd T P w td ty tx σ H Q := h
def spOutline : Sp := fun vs H Q _ => ∃ p, ∃ W Hh : Nat, ∃ cells : List Pt, vs = [.ref p] ∧ LsR Cn H p cells ∧ cells.Nodup ∧ W ≤ 8 ∧ Hh ≤ 8 ∧ (∀ c ∈ cells, 0 ≤ c.1 ∧ c.1 < W ∧ 0 ≤ c.2 ∧ c.2 < Hh) ∧ cells.length ≤ 64 ∧
  ∀ r H' lps, H r = none → Same H H' → LLR Cn H' r lps → (∀ lp ∈ lps, LoopOk W Hh lp ∧ lp.length ≤ 900) → lps.length ≤ 1000 → Q (.ref r) H'
theorem take_fm {α : Type} {β : Type} {f : α → Bool} {g : α → β} {l : List α} {j : Nat} {a : α} (h : l[j]? = some a) : ((l.take (j + 1)).filter f).map g = ((l.take j).filter f).map g ++ (if f a = true then [g a] else []) := by
  rw [List.take_add_one, h, List.filter_append, List.map_append]
  congr 1
  show ((([a] : List α)).filter f).map g = _
  cases e : f a with
  | true => simp [List.filter, e]
  | false => simp [List.filter, e]
def SameF (H H' : Hp) : Prop := ∀ q, H' q = none → H q = none
theorem cntMap (s : Pt) (v : Pt) : ∀ l : List Pt, (l.map fun v => (s, v)).count (s, v) = l.count v
  | [] => rfl
  | a :: l => by
    rw [List.map_cons, List.count_cons, List.count_cons, cntMap s v l]
    congr 1
    by_cases e : a = v
    · subst e; simp
    · have h1 : (a == v) = false := beq_eq_false_iff_ne.mpr e
      have h2 : (((s, a) : Ed) == (s, v)) = false := beq_eq_false_iff_ne.mpr fun h => e (congrArg Prod.snd h)
      rw [h1, h2]
theorem cntSnd (c v : Pt) : ∀ L : List Ed, ((L.filter fun e => decide (e.1 = c)).map fun e => e.2).count v = L.count (c, v)
  | [] => rfl
  | e :: L => by
    have ih := cntSnd c v L
    rw [List.count_cons, ← ih]
    by_cases h1 : e.1 = c
    · have h2 : List.filter (fun e => decide (e.1 = c)) (e :: L) = e :: L.filter fun e => decide (e.1 = c) := List.filter_cons_of_pos (decide_eq_true h1)
      rw [h2, List.map_cons, List.count_cons]
      congr 1
      by_cases h3 : e.2 = v
      · have h4 : (e == (c, v)) = true := beq_iff_eq.mpr (Prod.ext h1 h3)
        rw [h4, beq_iff_eq.mpr h3]
      · have h4 : (e == (c, v)) = false := beq_eq_false_iff_ne.mpr fun h => h3 (congrArg Prod.snd h)
        rw [h4, beq_eq_false_iff_ne.mpr h3]
    · have h2 : List.filter (fun e => decide (e.1 = c)) (e :: L) = L.filter fun e => decide (e.1 = c) := List.filter_cons_of_neg (by simp; exact h1)
      have h4 : (e == (c, v)) = false := beq_eq_false_iff_ne.mpr fun h => h1 (congrArg Prod.fst h)
      rw [h2, h4]
      rfl
theorem LV.rowLen {H0 H : Hp} {D : Addr} {kvs : List (Pt × V)} {adr : Pt → Option Addr} {es : Pt → List Pt} {L : List Ed} (l : LV P w H0 H D kvs adr es L) (c : Pt) : (es c).length ≤ L.length := by
  have hp : (es c).Perm ((L.filter fun e => decide (e.1 = c)).map fun e => e.2) := List.perm_iff_count.mpr fun v => by rw [cntSnd, l.cnt]
  rw [hp.length_eq, List.length_map]
  exact List.length_filter_le _ _
theorem SameF.but {H3 H H' : Hp} {q : Addr} (s : SameF H3 H) (b : But q H H') (hq : ∃ o, H' q = some o) : SameF H3 H' := fun x hx => s x (by
  cases e : H x with
  | none => rfl
  | some o =>
    by_cases h : x = q
    · obtain ⟨o', ho⟩ := hq
      rw [← h, hx] at ho
      cases ho
    · rw [b x o h e] at hx
      cases hx)
theorem SameF.up {H3 H H' : Hp} (s : SameF H3 H) (t : Same H H') : SameF H3 H' := fun x hx => s x (nof hx t)
theorem LsR.ex {α : Type} {R : Hp → V → α → Prop} {H : Hp} {p : Addr} {as : List α} (h : LsR R H p as) : ∃ o, H p = some o := by
  obtain ⟨xs, hx, _⟩ := h
  exact ⟨_, hx⟩
theorem LLF.ex {α : Type} {R : Hp → V → α → Prop} {Hb H : Hp} {p : Addr} {xss : List (List α)} (h : LLF R Hb H p xss) : ∃ o, H p = some o := by
  obtain ⟨xs, hx, _⟩ := h
  exact ⟨_, hx⟩
theorem s_break {D : Ends} {σ : L2.St} {H : Hp} (q : D.bk σ H) : tBreak D σ H := q
def LLA {α : Type} (R : Hp → V → α → Prop) (z : Addr) (Hb H : Hp) (p : Addr) (xss : List (List α)) : Prop := ∃ as : List Addr, H p = some (.lst (as.map V.ref)) ∧ Paired (fun a xs => LsR R H a xs) as xss ∧ ∀ a ∈ as, (a ≠ p ∧ Hb a = none) ∧ a ≠ z
theorem LLA.ll {α : Type} {R : Hp → V → α → Prop} {z : Addr} {Hb H : Hp} {p : Addr} {xss : List (List α)} (h : LLA R z Hb H p xss) : LLF R Hb H p xss := by
  obtain ⟨as, e, q, n⟩ := h
  exact ⟨as, e, q, fun a ha => (n a ha).1⟩
theorem LLF.ne {α : Type} {R : Hp → V → α → Prop} {Hb H Hc : Hp} {p z : Addr} {xss : List (List α)} (h : LLF R Hb H p xss) (hz : H z = none) (t : LLF R Hb H p xss → LLF R Hb Hc p xss) (k : ∀ as : List Addr, H p = some (.lst (as.map V.ref)) → Hc p = some (.lst (as.map V.ref))) : LLA R z Hb Hc p xss := by
  obtain ⟨as, e, q, n⟩ := id h
  obtain ⟨bs, e', q', n'⟩ := t h
  have hb : bs = as := by
    have h1 := k as e
    rw [h1] at e'
    have h2 : as.map V.ref = bs.map V.ref := HO.lst.inj (Option.some.inj e')
    exact (List.map_inj_right (f := V.ref) fun a b h => V.ref.inj h).mp h2.symm
  subst hb
  refine ⟨bs, e', q', fun a ha => ⟨n' a ha, fun hz' => ?_⟩⟩
  obtain ⟨j, hj⟩ := List.getElem?_of_mem ha
  obtain ⟨xs, _, hr⟩ := paired_at q hj
  obtain ⟨zs, hx, _⟩ := hr
  rw [hz', hz] at hx
  cases hx
theorem LLA.but {α : Type} {R : Hp → V → α → Prop} {z : Addr} {Hb H H' : Hp} {p q : Addr} {xss : List (List α)} (t : Tr R) (h : LLA R z Hb H p xss) (b : But q H H') (tk : TupK H H') (hp : p ≠ q) (hq : ∃ o, Hb q = some o) : LLA R z Hb H' p xss := by
  obtain ⟨as, e, pr, n⟩ := h
  refine ⟨as, b _ _ hp e, paired_mem pr fun a ha xs r => r.up2 t tk fun ys e2 => b _ _ (fun z => ?_) e2, n⟩
  obtain ⟨o, ho⟩ := hq
  have := (n a ha).1.2
  rw [z, ho] at this
  cases this
theorem LLA.butz {α : Type} {R : Hp → V → α → Prop} {z : Addr} {Hb H H' : Hp} {p : Addr} {xss : List (List α)} (t : Tr R) (h : LLA R z Hb H p xss) (b : But z H H') (tk : TupK H H') (hp : p ≠ z) : LLA R z Hb H' p xss := by
  obtain ⟨as, e, pr, n⟩ := h
  exact ⟨as, b _ _ hp e, paired_mem pr fun a ha xs r => r.up2 t tk fun ys e2 => b _ _ (n a ha).2 e2, n⟩
def Near (l : List Pt) : Prop := ∀ i c d, l[i]? = some c → l[i + 1]? = some d → dst c d = 1
theorem Near.one (c : Pt) : Near [c] := fun i x y h1 h2 => by
  have := (List.getElem?_eq_some_iff.mp h2).1
  simp at this
theorem Near.snoc {l : List Pt} {b s : Pt} (h : Near (l ++ [b])) (hd : dst b s = 1) : Near (l ++ [b] ++ [s]) := by
  intro i x y h1 h2
  by_cases hi : i + 1 < (l ++ [b]).length
  · rw [List.getElem?_append_left (by omega)] at h1
    rw [List.getElem?_append_left hi] at h2
    exact h i x y h1 h2
  · have hl : i + 1 < (l ++ [b] ++ [s]).length := (List.getElem?_eq_some_iff.mp h2).1
    simp only [List.length_append, List.length_singleton] at hi hl
    have e : i = l.length := by omega
    subst e
    rw [List.getElem?_append_left (by simp)] at h1
    have e1 : b = x := by simpa using h1
    have e2 : s = y := by simpa using h2
    rw [← e1, ← e2]
    exact hd
theorem loop_ok {W Hh : Nat} {l : List Pt} {b c0 : Pt} (hn : Near (l ++ [b])) (hd : dst b c0 = 1) (ho : ∀ z ∈ l ++ [b], OnB W Hh z) (h0 : (l ++ [b])[0]? = some c0) : LoopOk W Hh (l ++ [b]) := by
  refine ⟨by simp, ho, ?_⟩
  unfold clo
  rw [getD_of h0]
  exact hn.snoc hd
theorem sc_l_outline : FnScope ["_law_cells_here", "_law_leaving", "_law_cell_here", "_law_x", "_law_y", "_law_sides", "_law_side", "_law_row", "_law_loops", "_law_corner", "_law_loop", "_law_spot", "_law_k", "_law_before", "_law_options", "_law_ahead"] ["_law_cells_here"] (defScope s_l_outline) := ⟨rfl, rfl, rfl, by decide +kernel, rfl, by decide +kernel, by decide +kernel⟩
theorem c_l_outline (g : Gs mg)  {f : Addr} (hm : mg "_law_outline" = some (.ref f)) (F : Fd K "_law_outline" "_law_outline" s_l_outline f) : Cal P w K mg base 1 "_law_outline" ["_law_cells_here"] spOutline := by
  refine Cal.mk' hm (fn_mk (k := 0) F sc_l_outline (fun _ _ _ _ _ _ us hl => match us, hl with | [_], _ => rfl) (fun vs H Q E h => ?_) (fun cdv A outer s H vs Q E hr h => ?_))
  · obtain ⟨_, _, _, _, rfl, _⟩ := h; rfl
  · obtain ⟨p, W, Hh, cells, rfl, hp, hnd, hW, hH, hcl, hln, k⟩ := h
    refine ⟨_, (pss_cons (ps_asg (pe_nnew kt1) (pg_name (i := 1) sc_l_outline.nd rfl (.inl rfl)))
      (pss_cons (ps_for PassesOwn.never rfl (pi_list (pv 0)) (pg_name (i := 2) sc_l_outline.nd rfl (.inl rfl)) (pss_cons (ps_asg (pe_ix ix_tup (pv 2) (pe_int) (fun _ _ => rfl)) (pg_name (i := 3) sc_l_outline.nd rfl (.inl rfl)))
      (pss_cons (ps_asg (pe_ix ix_tup (pv 2) (pe_int) (fun _ _ => rfl)) (pg_name (i := 4) sc_l_outline.nd rfl (.inl rfl)))
      (pss_cons (ps_asg (pe_ulst (pa_cons (pe_utup (pa_cons (pe_utup (pa_cons (pv 3) (pa_cons (pe_op op_sub (pv 4) (pe_int)) pa_nil))) (pa_cons (pe_utup (pa_cons (pv 3) (pa_cons (pv 4) pa_nil))) (pa_cons (pe_utup (pa_cons (pe_op op_add (pv 3) (pe_int)) (pa_cons (pv 4) pa_nil))) pa_nil)))) (pa_cons (pe_utup (pa_cons (pe_utup (pa_cons (pe_op op_add (pv 3) (pe_int)) (pa_cons (pv 4) pa_nil))) (pa_cons (pe_utup (pa_cons (pe_op op_add (pv 3) (pe_int)) (pa_cons (pv 4) pa_nil))) (pa_cons (pe_utup (pa_cons (pe_op op_add (pv 3) (pe_int)) (pa_cons (pe_op op_add (pv 4) (pe_int)) pa_nil))) pa_nil)))) pa_nil))) (pg_name (i := 5) sc_l_outline.nd rfl (.inl rfl)))
      (pss_cons (ps_asg (pe_op op_cat (pv 5) (pe_ulst (pa_cons (pe_utup (pa_cons (pe_utup (pa_cons (pv 3) (pa_cons (pe_op op_add (pv 4) (pe_int)) pa_nil))) (pa_cons (pe_utup (pa_cons (pe_op op_add (pv 3) (pe_int)) (pa_cons (pe_op op_add (pv 4) (pe_int)) pa_nil))) (pa_cons (pe_utup (pa_cons (pv 3) (pa_cons (pe_op op_add (pv 4) (pe_int)) pa_nil))) pa_nil)))) (pa_cons (pe_utup (pa_cons (pe_utup (pa_cons (pe_op op_sub (pv 3) (pe_int)) (pa_cons (pv 4) pa_nil))) (pa_cons (pe_utup (pa_cons (pv 3) (pa_cons (pe_op op_add (pv 4) (pe_int)) pa_nil))) (pa_cons (pe_utup (pa_cons (pv 3) (pa_cons (pv 4) pa_nil))) pa_nil)))) pa_nil)))) (pg_name (i := 5) sc_l_outline.nd rfl (.inl rfl)))
      (pss_one (ps_for PassesOwn.never rfl (pi_list (pv 5)) (pg_name (i := 6) sc_l_outline.nd rfl (.inl rfl)) (pss_one (ps_if (pt_cmpR (op_notInD (hu65 hr)) (pe_ix ix_tup (pv 6) (pe_int) (fun _ _ => rfl)) (pv 0) (by with_unfolding_all rfl)) (pss_cons (ps_asg (pe_nsetd kt1 hr.units (pv 1) (pe_ix ix_tup (pv 6) (pe_int) (fun _ _ => rfl)) (pe_ulst pa_nil) ⟨rfl, rfl, rfl, rfl⟩) (pg_name (i := 7) sc_l_outline.nd rfl (.inl rfl)))
      (pss_one (ps_expr (pe_bm PySem.F.plainAttrs_list PySem.F.slot_list_append PySem.F.type_list_append mt_append (pv 7) (pa_cons (pe_ix ix_tup (pv 6) (pe_int) (fun _ _ => rfl)) pa_nil))))) pss_nil)))))))))
      (pss_cons (ps_asg (pe_ulst pa_nil) (pg_name (i := 8) sc_l_outline.nd rfl (.inl rfl)))
      (pss_cons (ps_for PassesOwn.never rfl (pi_list (pe_callB (cr_sortedN kt1 rfl eP hr.units eP_alike (fun b => ⟨_, _, rfl⟩) eP_dep (fun ok q r => Cn.reads ok q r)) (by rfl) g.sorted (by rfl) (pa_cons (pv 1) pa_nil))) (pg_name (i := 9) sc_l_outline.nd rfl (.inl rfl)) (pss_one (ps_if (pt_cmpR op_gt (pe_callB cr_len (by rfl) g.len (by rfl) (pa_cons (pe_nget kt1 hr.units (pv 1) (pv 9) (fun _ _ => rfl)) pa_nil)) (pe_int) (nomark _)) (pss_cons (ps_asg (pe_ulst (pa_cons (pv 9) pa_nil)) (pg_name (i := 10) sc_l_outline.nd rfl (.inl rfl)))
      (pss_cons (ps_asg (pe_bm0 PySem.F.plainAttrs_list PySem.F.slot_list_pop PySem.F.type_list_pop mt_pop (pe_nget kt1 hr.units (pv 1) (pv 9) (fun _ _ => rfl))) (pg_name (i := 11) sc_l_outline.nd rfl (.inl rfl)))
      (pss_cons (ps_for PassesOwn.never rfl (pi_range1 (by rfl) g.range (pa_cons (pe_int) pa_nil)) (pg_name (i := 12) sc_l_outline.nd rfl (.inl rfl)) (pss_cons (ps_if (pt_cmpR (op_eqD hr.units) (pv 11) (pv 9) (nomark _)) (pss_one (ps_break)) pss_nil)
      (pss_cons (ps_asg (pe_ix ix_list (pv 10) (pe_un un_neg (pe_int)) (fun _ _ => rfl)) (pg_name (i := 13) sc_l_outline.nd rfl (.inl rfl)))
      (pss_cons (ps_expr (pe_bm PySem.F.plainAttrs_list PySem.F.slot_list_append PySem.F.type_list_append mt_append (pv 10) (pa_cons (pv 11) pa_nil)))
      (pss_cons (ps_asg (pe_nget kt1 hr.units (pv 1) (pv 11) (fun _ _ => rfl)) (pg_name (i := 14) sc_l_outline.nd rfl (.inl rfl)))
      (pss_cons (ps_asg (pe_utup (pa_cons (pe_op op_add (pe_op op_sub (pe_ix ix_tup (pv 11) (pe_int) (fun _ _ => rfl)) (pe_ix ix_tup (pv 11) (pe_int) (fun _ _ => rfl))) (pe_ix ix_tup (pv 13) (pe_int) (fun _ _ => rfl))) (pa_cons (pe_op op_sub (pe_op op_add (pe_ix ix_tup (pv 11) (pe_int) (fun _ _ => rfl)) (pe_ix ix_tup (pv 11) (pe_int) (fun _ _ => rfl))) (pe_ix ix_tup (pv 13) (pe_int) (fun _ _ => rfl))) pa_nil))) (pg_name (i := 15) sc_l_outline.nd rfl (.inl rfl)))
      (pss_one (ps_if (pt_cmpR (op_inD (hu65 hr)) (pv 15) (pv 14) (by with_unfolding_all rfl)) (pss_cons (ps_expr (pe_bm PySem.F.plainAttrs_list PySem.F.slot_list_remove PySem.F.type_list_remove (mt_removeD (hu65 hr)) (pv 14) (pa_cons (pv 15) pa_nil)))
      (pss_one (ps_asg (pv 15) (pg_name (i := 11) sc_l_outline.nd rfl (.inl rfl))))) (pss_one (ps_asg (pe_bm0 PySem.F.plainAttrs_list PySem.F.slot_list_pop PySem.F.type_list_pop mt_pop (pv 14)) (pg_name (i := 11) sc_l_outline.nd rfl (.inl rfl))))))))))))
      (pss_one (ps_expr (pe_bm PySem.F.plainAttrs_list PySem.F.slot_list_append PySem.F.type_list_append mt_append (pv 8) (pa_cons (pv 10) pa_nil))))))) pss_nil)))
      (pss_one (ps_ret (pv 8))))))), ?_⟩
    have hel : (edges cells).length ≤ 256 := Nat.le_trans edges_len (by omega)
    refine s_seq ?_
    refine s_asg ?_
    intro D H1 hD hs1 hnt
    walk_at "go"
    obtain ⟨xs, hx, _⟩ := id (hp.up trC hs1)
    refine u_list hx ?_
    refine u_items (as := cells) (Rr := Cn) (fun i σ H2 => ∃ a b c d e f kvs adr es, σ = [some (.ref p), some (.ref D), a, b, c, d, e, f, none, none, none, none, none, none, none, none] ∧ LV P w H H2 D kvs adr es ((cells.take i).flatMap (outE cells)) ∧ Same H H2 ∧ kvs.length ≤ ((cells.take i).flatMap (outE cells)).length)
      ⟨_, _, _, _, _, _, [], fun _ => none, fun _ => [], rfl, ⟨hnt, fun c => rfl, fun c a h => (by cases h), fun c c' a h => (by cases h), fun c h => rfl, fun c v => by simp⟩, hs1, Nat.zero_le _⟩ (fun i σ H2 _ h => by obtain ⟨_, _, _, _, _, _, _, _, _, _, _, s, _⟩ := h; exact hp.up trC s) (fun i cc y σ H2 hi hy h => ?_) (fun σ H2 h => ?_)
    · obtain ⟨a, b, c, d, e, f', kvs, adr, es, rfl, lv, s2, hkl⟩ := h
      obtain ⟨tc, rfl, htc⟩ := hy
      have hpre : ∀ j s, (sidesOf cc)[j]? = some s → ((cells.take i).flatMap (outE cells) ++ (((sidesOf cc).take j).filter fun s => decide (s.1 ∉ cells)).map fun s => s.2).length ≤ 256 := fun j s hj => by
        have h1 : ((cells.take i).flatMap (outE cells) ++ outE cells cc).length ≤ (edges cells).length := by
          have h2 : (cells.take (i + 1)).flatMap (outE cells) = (cells.take i).flatMap (outE cells) ++ outE cells cc := take_flat _ _ _ _ hi
          rw [← h2]
          unfold edges
          have h3 : cells.flatMap (outE cells) = (cells.take (i + 1)).flatMap (outE cells) ++ (cells.drop (i + 1)).flatMap (outE cells) := by rw [← List.flatMap_append, List.take_append_drop]
          rw [h3, List.length_append]
          omega
        have h4 : ((((sidesOf cc).take j).filter fun s => decide (s.1 ∉ cells)).map fun s => s.2).length ≤ (outE cells cc).length := by
          unfold outE
          rw [List.length_map, List.length_map]
          exact List.Sublist.length_le ((List.take_sublist _ _).filter _)
        rw [List.length_append] at h1 ⊢
        omega
      walk_at "go"
      refine u_cat (R := SdR) (as := [((cc.1, cc.2 - 1), (cc.1, cc.2), (cc.1 + 1, cc.2)), ((cc.1 + 1, cc.2), (cc.1 + 1, cc.2), (cc.1 + 1, cc.2 + 1))]) (bs := [((cc.1, cc.2 + 1), (cc.1 + 1, cc.2 + 1), (cc.1, cc.2 + 1)), ((cc.1 - 1, cc.2), (cc.1, cc.2 + 1), (cc.1, cc.2))]) trD
        ⟨_, by walk_at "f", .cons ⟨_, _, _, _, rfl, by walk_at "f", ⟨_, rfl, by walk_at "f"⟩, ⟨_, rfl, by walk_at "f"⟩, ⟨_, rfl, by walk_at "f"⟩⟩ (.cons ⟨_, _, _, _, rfl, by walk_at "f", ⟨_, rfl, by walk_at "f"⟩, ⟨_, rfl, by walk_at "f"⟩, ⟨_, rfl, by walk_at "f"⟩⟩ .nil)⟩
        ⟨_, by walk_at "f", .cons ⟨_, _, _, _, rfl, by walk_at "f", ⟨_, rfl, by walk_at "f"⟩, ⟨_, rfl, by walk_at "f"⟩, ⟨_, rfl, by walk_at "f"⟩⟩ (.cons ⟨_, _, _, _, rfl, by walk_at "f", ⟨_, rfl, by walk_at "f"⟩, ⟨_, rfl, by walk_at "f"⟩, ⟨_, rfl, by walk_at "f"⟩⟩ .nil)⟩ (show (2 + 2 : Nat) ≤ 100000 by decide) fun sl H3 hsl hs3 hm3 => ?_
      have hm3' : LsR SdR H3 sl (sidesOf cc) := hm3
      have hsl2 : H2 sl = none := nof hsl (by walk_at "sm")
      have s23 : Same H2 H3 := Same.trans (by walk_at "sm") hs3
      have lv3 := lv.up s23
      have nsl : ∀ c a, adr c = some a → a ≠ sl := fun c a h z => by
        obtain ⟨xs, hx, _⟩ := (lv.row c a h).1
        rw [z, hsl2] at hx
        cases hx
      have hDsl : D ≠ sl := fun z => by
        obtain ⟨o, ho⟩ := lv.nt
        have := ho.at_
        rw [z, hsl2] at this
        cases this
      walk_at "go"
      obtain ⟨xs3, hx3, _⟩ := id hm3'
      refine u_list hx3 ?_
      refine u_items (as := sidesOf cc) (Rr := SdR) (fun j σ H4 => ∃ a b c d e f kvs adr es, σ = [some (.ref p), some (.ref D), a, b, c, d, e, f, none, none, none, none, none, none, none, none] ∧ LV P w H H4 D kvs adr es ((cells.take i).flatMap (outE cells) ++ (((sidesOf cc).take j).filter fun s => decide (s.1 ∉ cells)).map fun s => s.2) ∧ Same H H4 ∧ kvs.length ≤ ((cells.take i).flatMap (outE cells) ++ (((sidesOf cc).take j).filter fun s => decide (s.1 ∉ cells)).map fun s => s.2).length ∧ LsR SdR H4 sl (sidesOf cc) ∧ ∀ c a, adr c = some a → a ≠ sl)
        ⟨_, _, _, _, _, _, kvs, adr, es, rfl, by simpa using lv3, Same.trans s2 s23, by simpa using hkl, hm3', nsl⟩ (fun j σ H4 _ h => by obtain ⟨_, _, _, _, _, _, _, _, _, _, _, _, _, h, _⟩ := h; exact h) (fun j sd y σ H4 hj hy h => ?_) (fun σ H4 h => ?_)
      · obtain ⟨a, b, c, d, e, f', kvs, adr, es, rfl, lv, s4, hkl, hsd, nsl⟩ := h
        obtain ⟨tsd, v1, v2, v3, rfl, htsd, hv1, hv2, hv3⟩ := hy
        have hLl := hpre j sd hj
        have htk := take_fm (f := fun s : Pt × Pt × Pt => decide (s.1 ∉ cells)) (g := fun s => s.2) hj
        walk_at "go"
        refine u_notInC hv1 (hp.up trC s4) ?_
        walk_at "go"
        refine ite3n (fun hn => ?_) (fun hn => ?_)
        · have hfe : (if decide (sd.1 ∉ cells) = true then [sd.2] else []) = [sd.2] := if_pos (decide_eq_true hn)
          rw [hfe] at htk
          walk_at "go"
          refine s_nsetd ?_
          walk_at "go"
          refine ⟨D, rfl, ⟨kvs, lv.nt⟩, ?_⟩
          walk_at "go"
          rename_i z H5 hz hs5 hm5
          have lv5 := lv.up hs5
          have hz0 : H z = none := nof hz s4
          have hzD : z ≠ D := fun q => by
            obtain ⟨o, ho⟩ := lv.nt
            have := ho.at_
            rw [← q, hz] at this
            cases this
          have hzsl : z ≠ sl := fun q => by
            obtain ⟨xs, hx, _⟩ := hsd
            rw [← q, hz] at hx
            cases hx
          refine ⟨kvs, sd.2.1, lv5.nt, by omega, hv2.up hs5, fun v hv => ?_, fun hno H6 nt6 bu6 _ => ?_⟩
          · have had := lv.ad sd.2.1
            rw [hv] at had
            obtain ⟨a0, ha0⟩ : ∃ a0, adr sd.2.1 = some a0 := by
              cases e : adr sd.2.1 with
              | some a0 => exact ⟨a0, rfl⟩
              | none => rw [e] at had; cases had
            rw [ha0] at had
            obtain rfl : v = V.ref a0 := Option.some.inj had
            obtain ⟨hrow, h0a, _⟩ := lv5.row _ _ ha0
            obtain ⟨ys, hys, pry⟩ := id hrow
            have hel2 : (es sd.2.1).length ≤ 256 := by
              have h1 := lv.rowLen sd.2.1
              omega
            walk_at "go"
            refine u_bmL hys ?_
            walk_at "go"
            refine u_appL trC hrow (hv3.up hs5) (by omega) fun H7 bu7 tk7 l7 => ?_
            refine ⟨_, _, _, _, _, _, kvs, adr, fun c => if c = sd.2.1 then es sd.2.1 ++ [sd.2.2] else es c, rfl, ?_, But.same bu7 (Same.trans s4 hs5) h0a, ?_, (hsd.up trD hs5).up2 trD tk7 fun xs e => bu7 _ _ (fun q => nsl _ _ ha0 q.symm) e, nsl⟩
            · rw [htk, ← List.append_assoc]
              exact lv5.push ha0 bu7 l7
            · rw [htk, ← List.append_assoc, List.length_append]
              omega
          · have had := lv.ad sd.2.1
            rw [hno] at had
            have ha0 : adr sd.2.1 = none := by
              cases e : adr sd.2.1 with
              | none => rfl
              | some a0 => rw [e] at had; cases had
            have hzl : LsR Cn H5 z [] := ⟨[], hm5, .nil⟩
            have hfz : ∀ c a, adr c = some a → a ≠ z := fun c a h q => by
              obtain ⟨xs, hx, _⟩ := (lv.row c a h).1
              rw [q, hz] at hx
              cases hx
            have lv6 := lv5.new ha0 hz0 hzD hzl hfz bu6 nt6
            have tk6 := lv5.nt.tupK bu6
            have haz : (fun c => if c = sd.2.1 then some z else adr c) sd.2.1 = some z := if_pos rfl
            obtain ⟨hrow, h0a, _⟩ := lv6.row _ _ haz
            obtain ⟨ys, hys, pry⟩ := id hrow
            have hes : es sd.2.1 = [] := lv.non _ ha0
            have htsd6 : H6 tsd = some (.tup [v1, v2, v3]) := tk6 _ _ (hs5 _ _ htsd)
            walk_at "go"
            refine u_bmL hys ?_
            walk_at "go"
            refine u_appL trC hrow ((hv3.up hs5).upT tk6) (by rw [hes]; decide) fun H7 bu7 tk7 l7 => ?_
            have hpl := put_len kvs sd.2.1 (.ref z)
            refine ⟨_, _, _, _, _, _, put kvs sd.2.1 (.ref z), fun c => if c = sd.2.1 then some z else adr c, fun c => if c = sd.2.1 then es sd.2.1 ++ [sd.2.2] else es c, rfl, ?_, But.same bu7 (But.same bu6 (Same.trans s4 hs5) hD) h0a, ?_, ((hsd.up trD hs5).up2 trD tk6 fun xs e => bu6 _ _ (fun q => hDsl q.symm) e).up2 trD tk7 fun xs e => bu7 _ _ (fun q => hzsl q.symm) e, fun c a h => ?_⟩
            · rw [htk, ← List.append_assoc]
              exact lv6.push haz bu7 l7
            · rw [htk, ← List.append_assoc, List.length_append]
              show _ ≤ _ + 1
              omega
            · have h : (if c = sd.2.1 then some z else adr c) = some a := h
              by_cases e : c = sd.2.1
              · rw [if_pos e] at h
                rw [← Option.some.inj h]
                exact hzsl
              · rw [if_neg e] at h
                exact nsl c a h
        · have hfe : (if decide (sd.1 ∉ cells) = true then [sd.2] else []) = ([] : List Ed) := if_neg (by simp; exact hn)
          rw [hfe, List.append_nil] at htk
          walk_at "go"
          refine ⟨_, _, _, _, _, _, kvs, adr, es, rfl, ?_, s4, ?_, hsd, nsl⟩
          · rw [htk]; exact lv
          · rw [htk]; exact hkl
      · obtain ⟨a, b, c, d, e, f', kvs, adr, es, rfl, lv, s4, hkl, hsd, nsl⟩ := h
        rw [List.take_length] at lv hkl
        have e1 : (cells.take (i + 1)).flatMap (outE cells) = (cells.take i).flatMap (outE cells) ++ (((sidesOf cc)).filter fun s => decide (s.1 ∉ cells)).map fun s => s.2 := take_flat _ _ _ _ hi
        refine ⟨_, _, _, _, _, _, kvs, adr, es, rfl, ?_, s4, ?_⟩
        · rw [e1]; exact lv
        · rw [e1]; exact hkl
    · obtain ⟨a, b, c, d, e, f', kvs, adr, es0, rfl, lv0, s2, hkl⟩ := h
      rw [List.take_length] at lv0 hkl
      have lv0 : LV P w H _ D kvs adr es0 (edges cells) := lv0
      walk_at "go"
      rename_i r H3 hr hs3 hm3
      have s3 : Same H H3 := Same.trans s2 hs3
      have hrH : H r = none := nof hr s2
      have lv3 := lv0.up hs3
      have hrow3 : ∀ c a, adr c = some a → (∃ o, H3 a = some o) ∧ a ≠ r := fun c a h => by
        obtain ⟨xs, hx, _⟩ := (lv0.row c a h).1
        refine ⟨⟨_, hs3 _ _ hx⟩, fun z => ?_⟩
        rw [z, hr] at hx
        cases hx
      have hDr : D ≠ r := fun z => by
        obtain ⟨o, ho⟩ := lv0.nt
        have := ho.at_
        rw [z, hr] at this
        cases this
      refine ⟨D, kvs, rfl, lv3.nt, fun ys ks pp H4 hpp hs4 hm4 hys hperm => ?_⟩
      have hks4 : LsR Cn H4 pp ks := ⟨ys, hm4, Paired.mono (fun a b r => Cn.up r hs4) hys⟩
      have hppr : ∀ c a, adr c = some a → pp ≠ a := fun c a h z => by
        obtain ⟨⟨o, ho⟩, _⟩ := hrow3 c a h
        rw [← z, hpp] at ho
        cases ho
      have hrpp : pp ≠ r := fun z => by rw [z, hm3] at hpp; cases hpp
      refine u_list hm4 ?_
      refine u_items (as := ks) (Rr := Cn) (fun i σ H5 => ∃ g9 g10 g11 g12 g13 g14 g15 es L lps, σ = [some (.ref p), some (.ref D), a, b, c, d, e, f', some (.ref r), g9, g10, g11, g12, g13, g14, g15] ∧ LV P w H H5 D kvs adr es L ∧ (∀ v, outc v L = inc v L) ∧ (∀ e ∈ L, e ∈ edges cells) ∧ Same H H5 ∧ LLF Cn H3 H5 r lps ∧ (∀ lp ∈ lps, LoopOk W Hh lp ∧ lp.length ≤ 900) ∧ lps.length + L.length ≤ 256 ∧ LsR Cn H5 pp ks ∧ SameF H3 H5)
        ⟨_, _, _, _, _, _, _, es0, edges cells, [], rfl, lv3.up hs4, edges_bal hnd, fun e h => h, Same.trans s3 hs4, ⟨[], hs4 _ _ hm3, .nil, fun a h => by cases h⟩, fun lp h => (by cases h), by simpa using hel, hks4, fun q h => nof h hs4⟩ (fun i σ H5 _ h => by obtain ⟨_, _, _, _, _, _, _, _, _, _, _, _, _, _, _, _, _, _, h, _⟩ := h; exact h) (fun i c0 y σ H5 hi hy h => ?_) (fun σ H5 h => ?_)
      · obtain ⟨g9, g10, g11, g12, g13, g14, g15, es, L, lps, rfl, lv, bal, hLe, s5, llf, lok, hcnt, hks, sf⟩ := h
        obtain ⟨t9, rfl, ht9⟩ := hy
        have hck : c0 ∈ kvs.map (·.1) := hperm.mem_iff.mp (List.mem_of_getElem? hi)
        obtain ⟨a0, ha0⟩ : ∃ a0, adr c0 = some a0 := by
          cases e : adr c0 with
          | some a0 => exact ⟨a0, rfl⟩
          | none =>
            have := lv.ad c0
            rw [e] at this
            exact absurd hck (look_none.mp this)
        have hl0 : look kvs c0 = some (.ref a0) := by rw [lv.ad, ha0]; rfl
        walk_at "go"
        refine u_nget (k := c0) (kvs := kvs) lv.nt ⟨t9, rfl, ht9⟩ hl0 ?_
        walk_at "go"
        refine u_len (lv.row _ _ ha0).1 ?_
        walk_at "go"
        refine ite3 (fun hpos => ?_) (fun hpos => ?_)
        · obtain ⟨init, x, hes⟩ : ∃ init x, es c0 = init ++ [x] := by
            have hne : es c0 ≠ [] := fun e => by rw [e] at hpos; simp at hpos
            exact ⟨(es c0).dropLast, (es c0).getLast hne, (List.dropLast_concat_getLast hne).symm⟩
          have hxL : (c0, x) ∈ L := lv.mem.mp (by rw [hes]; simp)
          walk_at "go"
          rename_i lp H6 hlp hs6 hm6
          have lv6 := lv.up hs6
          have hlpr : ∀ c a, adr c = some a → a ≠ lp := fun c a h z => by
            obtain ⟨xs, hx, _⟩ := (lv.row c a h).1
            rw [z, hlp] at hx
            cases hx
          have hDlp : D ≠ lp := fun z => by
            obtain ⟨o, ho⟩ := lv.nt
            have := ho.at_
            rw [z, hlp] at this
            cases this
          have hrlp : r ≠ lp := fun z => by
            obtain ⟨o, ho⟩ := llf.ex
            rw [z, hlp] at ho
            cases ho
          have hplp : pp ≠ lp := fun z => by
            obtain ⟨o, ho⟩ := hks.ex
            rw [z, hlp] at ho
            cases ho
          have hlp3 : H3 lp = none := sf _ hlp
          have hlpH : H lp = none := nof hlp s5
          have hlpH0 := hlp
          have hrow6 := (lv6.row _ _ ha0).1
          rw [hes] at hrow6
          have ht96 : H6 t9 = some (.tup [.int c0.1, .int c0.2]) := hs6 _ _ ht9
          refine s_bm0 ?_
          walk_at "go"
          refine u_nget (k := c0) (kvs := kvs) lv6.nt ⟨t9, rfl, ht96⟩ hl0 ?_
          refine u_pop trC hrow6 fun vx H7 bu7 tk7 l7 hx7 => ?_
          have lv7 := lv6.take ha0 bu7 l7 (by rw [hes]; exact List.perm_append_singleton x init)
          have h0a := (lv6.row _ _ ha0).2.1
          obtain ⟨⟨o3, ho3⟩, har⟩ := hrow3 _ _ ha0
          have eok := edges_ok hcl
          have cx := eok _ (hLe _ hxL)
          simp only at cx
          walk_at "go"
          refine u_rng1 (by omega) (by omega) ?_
          have hLl : (L.erase (c0, x)).length + 1 = L.length := by
            have := List.length_pos_of_mem hxL
            rw [List.length_erase_of_mem hxL]
            omega
          refine u_range (fun j σ H8 => ∃ vs g12 g13 g14 g15 s es L pre b', σ = [some (.ref p), some (.ref D), a, b, c, d, e, f', some (.ref r), some (.ref t9), some (.ref lp), some vs, g12, g13, g14, g15] ∧ LV P w H H8 D kvs adr es L ∧ Way L c0 s ∧ (∀ e ∈ L, e ∈ edges cells) ∧ Same H H8 ∧ LLA Cn lp H3 H8 r lps ∧ LsR Cn H8 pp ks ∧ SameF H3 H8 ∧ LsR Cn H8 lp (pre ++ [b']) ∧ Cn H8 vs s ∧ H8 t9 = some (.tup [.int c0.1, .int c0.2]) ∧ OnB W Hh s ∧ dst b' s = 1 ∧ (∀ z ∈ pre ++ [b'], OnB W Hh z) ∧ Near (pre ++ [b']) ∧ (pre ++ [b'])[0]? = some c0 ∧ pre.length + 1 + L.length + lps.length ≤ 256 ∧ L.length + j ≤ 256)
            ⟨vx, _, _, _, _, x, _, L.erase (c0, x), [], c0, rfl, lv7, Way.start bal hxL, fun e h => hLe e (List.mem_of_mem_erase h), But.same bu7 (Same.trans s5 hs6) h0a, llf.ne hlpH0 (fun l => (l.up trC hs6).but trC bu7 tk7 (fun z => har z.symm) ⟨o3, ho3⟩) (fun as e => bu7 _ _ (fun z => har z.symm) (hs6 _ _ e)), (hks.up trC hs6).up2 trC tk7 fun xs e => bu7 _ _ (hppr _ _ ha0) e, (sf.up hs6).but bu7 l7.ex, ⟨_, bu7 _ _ (fun z => hlpr _ _ ha0 z.symm) hm6, .cons ⟨t9, rfl, tk7 _ _ ht96⟩ .nil⟩, hx7, tk7 _ _ ht96, cx.2.1, cx.2.2, fun z hz => by rw [List.mem_singleton.mp hz]; exact cx.1, Near.one c0, rfl, by simp only [List.length_nil]; omega, by omega⟩ (fun j σ H8 hj h => ?_) (fun σ H8 h => ?_)
          · obtain ⟨vs, g12, g13, g14, g15, s, es8, L8, pre, b', rfl, lv8, way, hLe8, s8, llf8, hks8, sf8, hlp8, hvs, ht98, bs, dbs, hon, near, h00, hc8, hj8⟩ := h
            walk_at "go"
            refine u_eqC hvs ⟨t9, rfl, ht98⟩ ?_
            walk_at "go"
            refine ite3 (fun heq => ?_) (fun hne => ?_)
            · subst heq
              refine s_break ?_
              walk_at "go"
              obtain ⟨as8, hx8, _⟩ := id llf8.ll
              refine u_bmL hx8 ?_
              walk_at "go"
              refine u_appendLF trC llf8.ll hlp8 (fun z => hrlp z.symm) hlp3 (by omega) fun H9 bu9 tk9 ll9 => ?_
              refine ⟨_, _, _, _, _, _, _, es8, L8, lps ++ [pre ++ [b']], rfl, lv8.but bu9 tk9 hDr (fun c a h => (hrow3 c a h).2), way.done, hLe8, But.same bu9 s8 hrH, ll9, fun lq hq => ?_, ?_, hks8.up2 trC tk9 fun xs e => bu9 _ _ hrpp e, sf8.but bu9 ll9.ex⟩
              · rcases List.mem_append.mp hq with hq | hq
                · exact lok lq hq
                · rw [List.mem_singleton.mp hq]
                  exact ⟨loop_ok near dbs hon h00, by rw [List.length_append, List.length_singleton]; omega⟩
              · rw [List.length_append, List.length_singleton]
                omega
            · obtain ⟨t0, ht0⟩ := way.more hne
              obtain ⟨a1, ha1⟩ := lv8.has ht0
              have hl1 : look kvs s = some (.ref a1) := by rw [lv8.ad, ha1]; rfl
              have h1a := (lv8.row _ _ ha1).2.1
              obtain ⟨⟨o4, ho4⟩, har1⟩ := hrow3 _ _ ha1
              obtain ⟨ts, rfl, hts⟩ := hvs
              walk_at "go"
              refine u_ixL (a := b') hlp8 (atI_last _ _) fun vb hvb => ?_
              obtain ⟨tb, rfl, htb⟩ := hvb
              walk_at "go"
              obtain ⟨ysl, hysl, _⟩ := id hlp8
              refine u_bmL hysl ?_
              walk_at "go"
              refine u_appL trC hlp8 (x := s) ⟨ts, rfl, hts⟩ (by rw [List.length_append, List.length_singleton]; omega) fun H9 bu9 tk9 l9 => ?_
              have lv9 := lv8.but bu9 tk9 hDlp hlpr
              have llf9 := llf8.butz trC bu9 tk9 hrlp
              have hts9 := tk9 _ _ hts
              have htb9 := tk9 _ _ htb
              walk_at "go"
              refine u_nget (k := s) (kvs := kvs) lv9.nt ⟨ts, rfl, hts9⟩ hl1 ?_
              walk_at "go"
              rename_i qa H10 hq10 hs10 hm10
              have hA : Cn H10 (.ref qa) (s.1 - s.2 + b'.2, s.2 + s.1 - b'.1) := ⟨qa, rfl, hm10⟩
              have lv10 := lv9.up hs10
              have hrow10 := (lv10.row _ _ ha1).1
              have n1 : D ≠ a1 := fun z => (lv10.row _ _ ha1).2.2 z.symm
              have hlpa : lp ≠ a1 := fun z => hlpr _ _ ha1 z.symm
              have hppa : pp ≠ a1 := fun z => hppr _ _ ha1 z
              have hlen9 : (pre ++ [b'] ++ [s]).length = pre.length + 2 := by simp
              have fin : ∀ (t : Pt) (xs : List Pt) (vt : V) (H11 : Hp) (u14 u15 u13 : Option V), (es8 s).Perm (t :: xs) → But a1 H10 H11 → TupK H10 H11 → LsR Cn H11 a1 xs → Cn H11 vt t →
                ∃ vs g12 g13 g14 g15 s es L pre b', [some (.ref p), some (.ref D), a, b, c, d, e, f', some (.ref r), some (.ref t9), some (.ref lp), some vt, some (V.int (0 + ↑j)), u13, u14, u15] = [some (.ref p), some (.ref D), a, b, c, d, e, f', some (.ref r), some (.ref t9), some (.ref lp), some vs, g12, g13, g14, g15] ∧ LV P w H H11 D kvs adr es L ∧ Way L c0 s ∧ (∀ e ∈ L, e ∈ edges cells) ∧ Same H H11 ∧ LLA Cn lp H3 H11 r lps ∧ LsR Cn H11 pp ks ∧ SameF H3 H11 ∧ LsR Cn H11 lp (pre ++ [b']) ∧ Cn H11 vs s ∧ H11 t9 = some (.tup [.int c0.1, .int c0.2]) ∧ OnB W Hh s ∧ dst b' s = 1 ∧ (∀ z ∈ pre ++ [b'], OnB W Hh z) ∧ Near (pre ++ [b']) ∧ (pre ++ [b'])[0]? = some c0 ∧ pre.length + 1 + L.length + lps.length ≤ 256 ∧ L.length + (j + 1) ≤ 256 := fun t xs vt H11 u14 u15 u13 hpm b11 tk11 l11 hvt => by
                have htL : (s, t) ∈ L8 := lv8.mem.mp (hpm.mem_iff.mpr (List.mem_cons_self ..))
                have cy := eok _ (hLe8 _ htL)
                simp only at cy
                have hLl8 : (L8.erase (s, t)).length + 1 = L8.length := by
                  have := List.length_pos_of_mem htL
                  rw [List.length_erase_of_mem htL]
                  omega
                refine ⟨vt, _, u13, u14, u15, t, _, L8.erase (s, t), pre ++ [b'], s, rfl, lv10.take ha1 b11 l11 hpm, way.step htL, fun e h => hLe8 e (List.mem_of_mem_erase h), But.same b11 (Same.trans (But.same bu9 s8 hlpH) hs10) h1a, ?_, ((hks8.up2 trC tk9 fun xs e => bu9 _ _ hplp e).up trC hs10).up2 trC tk11 fun xs e => b11 _ _ hppa e, ((sf8.but bu9 l9.ex).up hs10).but b11 l11.ex, (l9.up trC hs10).up2 trC tk11 fun xs e => b11 _ _ hlpa e, hvt, tk11 _ _ (hs10 _ _ (tk9 _ _ ht98)), cy.2.1, cy.2.2, fun z hz => ?_, near.snoc dbs, ?_, ?_, by omega⟩
                · obtain ⟨as, e1, e2, e3⟩ := llf9
                  exact LLA.but trC ⟨as, hs10 _ _ e1, Paired.mono (fun a b r => r.up trC hs10) e2, e3⟩ b11 tk11 (fun z => har1 z.symm) ⟨o4, ho4⟩
                · rcases List.mem_append.mp hz with hz | hz
                  · exact hon z hz
                  · rw [List.mem_singleton.mp hz]; exact bs
                · rw [List.getElem?_append_left (by simp)]
                  exact h00
                · simp only [List.length_append, List.length_singleton]
                  omega
              refine u_inC hA hrow10 ?_
              refine ⟨_, rfl, ?_⟩
              refine ite3 (fun hin => ?_) (fun hnin => ?_)
              · walk_at "go"
                obtain ⟨yr, hyr, _⟩ := id hrow10
                refine u_bmL hyr ?_
                walk_at "go"
                refine u_remove hrow10 hA hin fun H11 b11 tk11 l11 => ?_
                walk_at "go"
                dsimp only
                exact fin _ _ _ _ (some (.ref a1)) (some (.ref qa)) (some (.ref tb)) (List.perm_cons_erase hin) b11 tk11 l11 ⟨qa, rfl, tk11 _ _ hm10⟩
              · walk_at "go"
                obtain ⟨init, x, hes⟩ : ∃ init x, es8 s = init ++ [x] := by
                  have hne : es8 s ≠ [] := fun e => by
                    have := lv8.mem.mpr ht0
                    rw [e] at this
                    cases this
                  exact ⟨(es8 s).dropLast, (es8 s).getLast hne, (List.dropLast_concat_getLast hne).symm⟩
                rw [hes] at hrow10
                refine s_bm0 ?_
                walk_at "go"
                refine u_pop trC hrow10 fun vx H11 b11 tk11 l11 hx11 => ?_
                walk_at "go"
                dsimp only
                exact fin x init vx H11 (some (.ref a1)) (some (.ref qa)) (some (.ref tb)) (by rw [hes]; exact List.perm_append_singleton x init) b11 tk11 l11 hx11
          · obtain ⟨vs, g12, g13, g14, g15, s, es8, L8, pre, b', rfl, lv8, way, hLe8, s8, llf8, hks8, sf8, hlp8, hvs, ht98, bs, dbs, hon, near, h00, hc8, hj8⟩ := h
            exfalso
            have : (400 : Int).toNat = 400 := rfl
            omega
        · walk_at "go"
          exact ⟨_, _, _, _, _, _, _, es, L, lps, rfl, lv, bal, hLe, s5, llf, lok, hcnt, hks, sf⟩
      · obtain ⟨g9, g10, g11, g12, g13, g14, g15, es, L, lps, rfl, lv, bal, hLe, s5, llf, lok, hcnt, hks, sf⟩ := h
        walk_at "go"
        exact k r H5 lps hrH s5 llf.ll lok (by omega)
end
end Cp
end
section
namespace Cp
open PySem PySem.Spec PyProof.Rows L2
local macro_rules | `(tactic| walk_at "f") => `(tactic| first | assumption | (refine' keep_of ?_ (by assumption); walk_at "f") | (refine Cn.up ?_ (by assumption); walk_at "f") | (refine Pr.up ?_ (by assumption); walk_at "f") | (refine NTab.up ?_ (by assumption); walk_at "f") | (refine PlI.up ?_ (by assumption); walk_at "f") | (refine LsR.up (by first | exact trC | exact trP | exact trI | assumption) ?_ (by assumption); walk_at "f"))
local macro_rules | `(tactic| walk_at "sm") => `(tactic| first | exact Same.refl _ | assumption | (refine same_tr ?_ (by assumption); walk_at "sm"))
local macro_rules | `(tactic| walk_at "fr") => `(tactic| first | assumption | (refine nof ?_ (by assumption); walk_at "fr"))
local macro_rules | `(tactic| walk_at "s1") => `(tactic| first
  | with_reducible refine s_seq ?_ | with_reducible refine s_ret ?_ | with_reducible refine s_asg ?_ | with_reducible refine s_if ?_ | with_reducible refine s_next ?_ | with_reducible refine s_drop ?_
  | ((with_reducible refine' s_var ?h ?q); (case h => exact rfl)) | with_reducible refine s_c ?_ | with_reducible refine s_op ?_ | with_reducible refine s_I0 ?_
  | with_reducible refine s_eqI ?_ | with_reducible refine s_neI ?_ | with_reducible refine s_eqS ?_ | with_reducible refine s_neS ?_
  | with_reducible refine s_test ?_ | with_reducible refine s_tB ?_ | with_reducible refine s_bl ?_ | with_reducible refine s_and ?_ | with_reducible refine s_or ?_ | with_reducible refine s_not ?_ | with_reducible refine s_andV ?_ | with_reducible refine s_chain ?_
  | with_reducible refine s_cons ?_ | with_reducible refine s_nil ?_ | with_reducible refine s_tup ?_ | with_reducible refine s_lst ?_
  | with_reducible refine s_CB ?_ | with_reducible refine s_call ?_ | with_reducible refine s_gname ?_ | with_reducible refine s_gcons ?_ | with_reducible refine s_gnil ?_
  | ((with_reducible refine' s_gtup ?h ?e ?q); (case h => walk_at "f"); (case e => exact rfl))
  | ((with_reducible refine' s_ixT ?h ?e ?q); (case h => walk_at "f"); (case e => exact rfl))
  | (with_reducible refine s_BM ?_) | ((with_reducible refine s_new ?z ?q); (case z => exact rfl); intro p H1 hp hs hv))
local macro_rules | `(tactic| walk_at "s2") => `(tactic| first
  | walk_at "s1" | with_reducible refine iteF ?_ | with_reducible refine iteT ?_ | with_reducible refine iteNT ?_ | with_reducible refine iteNF ?_ | with_reducible refine u_tup ?_ | with_reducible refine u_lst ?_ | ((with_reducible refine u_newT ?z ?q); (case z => exact rfl); intro p H1 hp hs hv) | ((with_reducible refine u_newL ?z ?q); (case z => exact rfl); intro p H1 hp hs hv) | with_reducible refine s_min2 ?_ | ((with_reducible refine' s_aug ?h ?q); (case h => exact rfl)) | with_reducible refine s_ipI ?_ | with_reducible refine s_sl2 ?_ | with_reducible refine s_part ?_ | with_reducible refine u_part ?_ | with_reducible refine s_nopart ?_ | with_reducible refine s_rev ?_ | with_reducible refine s_un ?_ | with_reducible refine s_U ?_ | with_reducible refine s_gsub ?_ | ((with_reducible refine s_lenS ?z ?q); (case z => assumption)) | with_reducible refine s_rng1 ?_ | with_reducible refine s_rng2 ?_ | with_reducible refine s_list ?_ | with_reducible refine s_istr ?_ | with_reducible refine u_str ?_ | with_reducible refine s_for ?_ | with_reducible refine s_lc ?_ | with_reducible refine s_lc2 ?_ | with_reducible refine s_yes ?_ | with_reducible refine s_bm ?_ | with_reducible refine s_mth ?_ | with_reducible refine s_abs ?_ | with_reducible refine s_int1 ?_ | with_reducible refine s_nget ?_ | with_reducible refine s_fld ?_
  | ((with_reducible refine' s_lenL ?h ?q); (case h => walk_at "f"))
  | ((with_reducible refine' s_lenT ?h ?q); (case h => walk_at "f")))
local macro_rules | `(tactic| walk_at "go") => `(tactic| repeat walk_at "s2")
section
variable {P : Program} {w : World} {K : PySem.W.Frag} {mg : Str → Option Value} {base : Heap} {C Pz : Addr}
theorem s_make {C : Addr} {sp : Sp} {dvs : List V} {E : XK} {t : TA} {σ : L2.St} {H : Hp} {Q : VK} (h : t σ H fun vs H1 => ∀ x dx, H1 x = none → H1 dx = none → dx ≠ x →
  sp (.ref x :: (vs ++ dvs)) (upd (upd H1 dx (.own x)) x (.ins C dx [])) (fun v H2 => v = .non ∧ Q (.ref x) H2) E) : tMake C sp dvs E t σ H Q := h
theorem paired_mem2 {α β : Type} {F G : α → β → Prop} : ∀ {l : List α} {m : List β}, Paired F l m → (∀ a ∈ l, ∀ b ∈ m, F a b → G a b) → Paired G l m
  | _, _, .nil, _ => .nil
  | _, _, .cons r t, h => .cons (h _ List.mem_cons_self _ List.mem_cons_self r) (paired_mem2 t fun a ha b hb => h a (List.mem_cons_of_mem _ ha) b (List.mem_cons_of_mem _ hb))
def RR (H : Hp) (r : Addr) (xs : List (List (List Int))) : Prop := ∃ as : List Addr, H r = some (.lst (as.map V.ref)) ∧ Paired (fun a xss => LLR In H a xss ∧ a ≠ r) as xs
theorem RR.up {H H' : Hp} {r : Addr} {xs : List (List (List Int))} (h : RR H r xs) (s : Same H H') : RR H' r xs := by
  obtain ⟨as, e, q⟩ := h
  exact ⟨as, s _ _ e, Paired.mono (fun a b r => ⟨r.1.up trI s, r.2⟩) q⟩
theorem LLR.wr {H H' : Hp} {a D : Addr} {xss : List (List Int)} {acc : List Addr} (h : LLR In H a xss) (ne : ∀ xs ∈ xss, xs ≠ []) (hD : H D = some (.lst (acc.map V.ref))) (haD : a ≠ D) (b : But D H H') : LLR In H' a xss := by
  obtain ⟨bs, e, pr, n⟩ := h
  refine ⟨bs, b _ _ haD e, paired_mem2 pr fun q _ xs hx r => ?_, n⟩
  obtain ⟨vs, e1, q1⟩ := r
  refine ⟨vs, b _ _ (fun z => ?_) e1, Paired.mono (fun _ _ r => r) q1⟩
  rw [z, hD] at e1
  have e2 : acc.map V.ref = vs := HO.lst.inj (Option.some.inj e1)
  subst e2
  have hne := ne xs hx
  cases q1' : acc with
  | nil =>
    rw [q1'] at q1
    cases q1
    exact hne rfl
  | cons c cs =>
    rw [q1'] at q1
    cases q1 with
    | cons r _ =>
      have : V.ref c = V.int _ := r
      cases this
theorem RR.push {H : Hp} {r a : Addr} {xs : List (List (List Int))} {xss : List (List Int)} {as : List Addr} (e : H r = some (.lst (as.map V.ref))) (q : Paired (fun a xss => LLR In H a xss ∧ a ≠ r) as xs) (hn : ∀ xss ∈ xs, ∀ x ∈ xss, x ≠ []) (h : LLR In H a xss) (hne : ∀ x ∈ xss, x ≠ []) (ha : a ≠ r) :
  RR (upd H r (.lst (as.map V.ref ++ [V.ref a]))) r (xs ++ [xss]) := by
  refine ⟨as ++ [a], by rw [List.map_append]; exact upd_same, Paired.snoc (paired_mem2 q fun b _ ys hy r => ⟨r.1.wr (hn ys hy) e r.2 (But.upd _ _ _), r.2⟩) ⟨h.wr hne e ha (But.upd _ _ _), ha⟩⟩
theorem u_ixRR {H : Hp} {Q : VK} {p : Addr} {xss : List (List (List Int))} {i : Int} {xs : List (List Int)} (h : RR H p xss) (e : atI xss i = some xs) (q : ∀ a, LLR In H a xs → Q (.ref a) H) : rIxL K (.ref p) (.int i) H Q := by
  obtain ⟨as, hx, pr⟩ := h
  obtain ⟨a, ha, r⟩ := paired_atI pr e
  have hm : atI (as.map V.ref) i = some (V.ref a) := by
    unfold atI at *
    rw [List.length_map]
    cases e2 : ixN as.length i with
    | none => rw [e2] at ha; cases ha
    | some j =>
      rw [e2] at ha
      show (as.map V.ref)[j]? = _
      rw [List.getElem?_map]
      have : as[j]? = some a := ha
      rw [this]
      rfl
  exact ⟨p, _, i, _, rfl, rfl, SqL.of hx, hm, q a r.1⟩
theorem u_maxL {H : Hp} {Q : VK} {p : Addr} {xs : List Int} (h : LsR In H p xs) (h0 : 0 < xs.length) (q : ∀ m, m ∈ xs → (∀ y, y ∈ xs → y ≤ m) → Q (.int m) H) : rMax K [.ref p] H Q := by
  obtain ⟨vs, e, pr⟩ := h
  refine ⟨p, xs, rfl, SqL.of ?_, h0, q⟩
  rw [e]
  congr 2
  clear e h0 q
  induction pr with
  | nil => rfl
  | cons r _ ih =>
    rw [List.map_cons, ← ih]
    congr 1
theorem reach_ne {L : Nat → Nat → Bool} {n most : Nat} (l : Lw L n most) (hm : n ≠ 0 → 0 < most) : ∀ xs ∈ reachL L n most, xs ≠ [] := fun xs h => by
  obtain ⟨a, ha, rfl⟩ := List.mem_map.mp h
  have han := List.mem_range.mp ha
  have : ((a + 1 : Nat) : Int) ∈ reachA L n most a := reachA_mem.mpr ⟨by omega, by omega, by have := hm (by omega); omega, by rw [Int.toNat_natCast]; exact l.one a han⟩
  intro e
  rw [e] at this
  cases this
theorem lw_most {L : Nat → Nat → Bool} {n most : Nat} (l : Lw L n most) (h : n ≠ 0) : 0 < most := by
  have := l.most 0 1 (by omega) (by omega) (l.one 0 (by omega))
  omega
def RwA (H : Hp) (v : V) (cs : List Pt) : Prop := ∃ a, v = .ref a ∧ LsR Cn H a cs
theorem LLR.rw' {H : Hp} {r : Addr} {lps : List (List Pt)} (h : LLR Cn H r lps) : ∃ as : List Addr, H r = some (.lst (as.map V.ref)) ∧ LsR RwA H r lps := by
  obtain ⟨as, e, q, n⟩ := h
  refine ⟨as, e, _, e, ?_⟩
  clear e n
  induction q with
  | nil => exact .nil
  | cons r _ ih => exact .cons ⟨_, rfl, r⟩ ih
def spLaw (K : PySem.W.Frag) (Pz : Addr) : Sp := fun vs H Q _ => ∃ a, ∃ ns : List Int, vs = [.ref a] ∧ (∀ H', LamX.ExtN H H' → SqL K H' a (ns.map V.int)) ∧ LamX.Tabs (lamT Pz) H ∧ ∀ H', Q (.bl true) H'
theorem sc_law : FnScope ["_law_script", "_law_board_here", "_law_table", "_law_texts_here", "_law_plane", "_law_loops", "_law_loop", "_law_reaches", "_law_k", "_law_d", "_law_turn", "_law_marks", "_law_step", "_law_varied_here"] ["_law_script"] (defScope s_law) := ⟨rfl, rfl, rfl, by decide +kernel, rfl, by decide +kernel, by decide +kernel⟩
theorem ok_law (g : Gs mg) (c_l_board : Cal P w K mg base 2 "_law_board" ["_law_cell_here", "_law_most"] spBoard) (c_l_cell : Cal P w K mg base 1 "_law_cell" ["_law_script", "_law_k"] (spCell K)) (c_l_fill : Cal P w K mg base 3 "_law_fill" ["_law_board_here", "_law_forced", "_law_bits_here"] (spFill P w)) (c_l_bits : Cal P w K mg base 2 "_law_bits" ["_law_script", "_law_k"] (spBits K)) (c_l_texts : Cal P w K mg base 1 "_law_texts" ["_law_board_here", "_law_table"] (spTexts P w)) (c_l_outline : Cal P w K mg base 1 "_law_outline" ["_law_cells_here"] spOutline) (c_l_cells : Cal P w K mg base 2 "_law_cells" ["_law_board_here", "_law_cell_here"] spCells) (c_l_reach : Cal P w K mg base 5 "_law_reach" ["_law_table", "_law_loop", "_law_most"] (spReach P w)) (c_l_loop_fits : Cal P w K mg base 9 "_law_loop_fits" ["_law_plane", "_law_loop", "_law_reach_here"] (spFits P w C)) (c_l_draws : Cal P w K mg base 1 "_law_draws" ["_law_cell_here", "_law_sizes"] spDraws) (c_l_varied : Cal P w K mg base 2 "_law_varied" ["_law_marks", "_law_size", "_law_cell_here"] spVaried) (c_l_accepts : Cal P w K mg base 7 "_law_accepts" ["_law_plane", "_law_loop", "_law_marks", "_law_wanted"] (spAcc P w C)) (c_l_are_least : Cal P w K mg base 1 "_law_are_least" ["_law_reach_here", "_law_marks"] spAreL) (cPlane : Mak P w K mg base 9 "Plane" C ["self", "board", "rising", "falling"] (spInit P w C Pz)) {f : Addr} {fd : FuncData} (F : FunD K "law" "law" (defArgs s_law) (defBody s_law) (defScope s_law) [] [] f fd) : FnOk P w K mg base CX0 13 f fd ["_law_script"] (spLaw K Pz) := by
  refine F.ok sc_law (fun vs H Q E h => ?_) (fun cdv A outer s H vs Q E hr h => ?_)
  · obtain ⟨_, _, rfl, _⟩ := h; rfl
  · obtain ⟨a, ns, rfl, ha, hT, k⟩ := h
    refine ⟨_, PSs.nox (pss_cons (ps_asg (pc c_l_board hr (pa_cons (pe_op op_add (pc c_l_cell hr (pa_cons (pv 0) (pa_cons (pe_int) pa_nil))) (pe_int)) (pa_cons (pe_int) pa_nil))) (pg_name (i := 1) sc_law.nd rfl (.inr rfl)))
      (pss_cons (ps_asg (pc c_l_fill hr (pa_cons (pv 1) (pa_cons (pe_nnew kt2) (pa_cons (pc c_l_bits hr (pa_cons (pv 0) (pa_cons (pe_int) pa_nil))) pa_nil)))) (pg_name (i := 2) sc_law.nd rfl (.inr rfl)))
      (pss_cons (ps_asg (pc c_l_texts hr (pa_cons (pv 1) (pa_cons (pv 2) pa_nil))) (pg_name (i := 3) sc_law.nd rfl (.inl rfl)))
      (pss_cons (ps_asg (pk cPlane hr (pa_cons (pv 1) (pa_cons (pe_ix ix_tup (pv 3) (pe_int) (fun _ _ => rfl)) (pa_cons (pe_ix ix_tup (pv 3) (pe_int) (fun _ _ => rfl)) pa_nil)))) (pg_name (i := 4) sc_law.nd rfl (.inl rfl)))
      (pss_cons (ps_asg (pc c_l_outline hr (pa_cons (pc c_l_cells hr (pa_cons (pv 1) (pa_cons (pc c_l_cell hr (pa_cons (pv 0) (pa_cons (pe_int) pa_nil))) pa_nil))) pa_nil)) (pg_name (i := 5) sc_law.nd rfl (.inl rfl)))
      (pss_cons (ps_setLc (i := 7) (own := [("_law_loop", 6)]) (g := gName 6) rfl sc_law.nd rfl rfl (sw_true rfl rfl rfl (by decide +kernel)) (pi_list (pv 5)) (blkOk_by (own := [("_law_loop", 6)]) (N := ["_law_script", "_law_board_here", "_law_table", "_law_texts_here", "_law_plane", "_law_loops", "_law_loop", "_law_reaches", "_law_k", "_law_d", "_law_turn", "_law_marks", "_law_step", "_law_varied_here"]) (sc := defScope s_law) (by decide +kernel)) (fun _ _ _ _ _ => pg_name (i := 6) sc_law.nd rfl (Or.inl rfl)) (fun _ _ _ _ _ => pts_nil) (fun _ _ _ _ _ => pc c_l_reach hr (pa_cons (pv 2) (pa_cons (pv 6) (pa_cons (pe_op op_add (pe_ix (r := rIxT K) ix_tup (pv 1) (pe_int) (fun _ _ => rfl)) (pe_ix (r := rIxT K) ix_tup (pv 1) (pe_int) (fun _ _ => rfl))) pa_nil)))))
      (pss_cons (ps_for PassesOwn.never rfl (pi_range1 (by rfl) g.range (pa_cons (pe_callB cr_len (by rfl) g.len (by rfl) (pa_cons (pv 5) pa_nil)) pa_nil)) (pg_name (i := 8) sc_law.nd rfl (.inl rfl)) (pss_one (ps_if (pt_not (pt_val (pc c_l_loop_fits hr (pa_cons (pv 4) (pa_cons (pe_ix ix_list (pv 5) (pv 8) (fun _ _ => rfl)) (pa_cons (pe_ix ix_list (pv 7) (pv 8) (fun _ _ => rfl)) pa_nil)))))) (pss_one (ps_ret (pe_bl))) pss_nil)))
      (pss_cons (ps_asg (pc c_l_draws hr (pa_cons (pc c_l_cell hr (pa_cons (pv 0) (pa_cons (pe_int) pa_nil))) (pa_cons (pe_ulst (pa_cons (pe_int) pa_nil)) pa_nil))) (pg_name (i := 9) sc_law.nd rfl (.inl rfl)))
      (pss_cons (ps_for PassesOwn.never rfl (pi_range1 (by rfl) g.range (pa_cons (pe_int) pa_nil)) (pg_name (i := 10) sc_law.nd rfl (.inl rfl)) (pss_one (ps_if (pt_cmpR op_gt (pe_callB cr_len (by rfl) g.len (by rfl) (pa_cons (pv 5) pa_nil)) (pe_int) (nomark _)) (pss_cons (ps_asg (pe_op op_modN (pe_callTy cr_int1 (by rfl) g.int (by rfl) (pa_cons (pe_op op_add (pe_ix ix_list (pv 9) (pe_int) (fun _ _ => rfl)) (pv 10)) pa_nil)) (pe_callB cr_len (by rfl) g.len (by rfl) (pa_cons (pv 5) pa_nil))) (pg_name (i := 8) sc_law.nd rfl (.inl rfl)))
      (pss_cons (ps_asg (pe_ulst (pa_cons (pe_int) pa_nil)) (pg_name (i := 11) sc_law.nd rfl (.inl rfl)))
      (pss_cons (ps_for PassesOwn.never rfl (pi_range1 (by rfl) g.range (pa_cons (pe_callB cr_len (by rfl) g.len (by rfl) (pa_cons (pe_ix ix_list (pv 5) (pv 8) (fun _ _ => rfl)) pa_nil)) pa_nil)) (pg_name (i := 12) sc_law.nd rfl (.inl rfl)) (pss_one (ps_if (pt_cmpR op_lt (pe_callB (cr_max rfl) (by rfl) g.max (by rfl) (pa_cons (pe_ix ix_list (pe_ix ix_list (pv 7) (pv 8) (fun _ _ => rfl)) (pe_ix ix_list (pv 11) (pe_un un_neg (pe_int)) (fun _ _ => rfl)) (fun _ _ => rfl)) pa_nil)) (pe_callB cr_len (by rfl) g.len (by rfl) (pa_cons (pe_ix ix_list (pv 5) (pv 8) (fun _ _ => rfl)) pa_nil)) (nomark _)) (pss_one (ps_expr (pe_bm PySem.F.plainAttrs_list PySem.F.slot_list_append PySem.F.type_list_append mt_append (pv 11) (pa_cons (pe_callB (cr_max rfl) (by rfl) g.max (by rfl) (pa_cons (pe_ix ix_list (pe_ix ix_list (pv 7) (pv 8) (fun _ _ => rfl)) (pe_ix ix_list (pv 11) (pe_un un_neg (pe_int)) (fun _ _ => rfl)) (fun _ _ => rfl)) pa_nil)) pa_nil)))) pss_nil)))
      (pss_cons (ps_asg (pc c_l_varied hr (pa_cons (pv 11) (pa_cons (pe_callB cr_len (by rfl) g.len (by rfl) (pa_cons (pe_ix ix_list (pv 5) (pv 8) (fun _ _ => rfl)) pa_nil)) (pa_cons (pc c_l_cell hr (pa_cons (pv 0) (pa_cons (pe_op op_add (pe_int) (pv 10)) pa_nil))) pa_nil)))) (pg_name (i := 13) sc_law.nd rfl (.inl rfl)))
      (pss_one (ps_if (pt_not (pt_val (pc c_l_accepts hr (pa_cons (pv 4) (pa_cons (pe_ix ix_list (pv 5) (pv 8) (fun _ _ => rfl)) (pa_cons (pv 13) (pa_cons (pc c_l_are_least hr (pa_cons (pe_ix ix_list (pv 7) (pv 8) (fun _ _ => rfl)) (pa_cons (pv 13) pa_nil))) pa_nil))))))) (pss_one (ps_ret (pe_bl))) pss_nil)))))) pss_nil)))
      (pss_one (ps_ret (pe_bl)))))))))))), ?_⟩
    walk_at "go"
    refine ⟨a, 0, ns, rfl, ha H (LamX.ExtN.refl H), fun m0 => ?_⟩
    walk_at "go"
    refine ⟨_, rfl, fun vb H1 W Hh hvb s1 hb hW4 hH4 => ?_⟩
    have hW : W ≤ 8 := by omega
    have hH : Hh ≤ 8 := by omega
    have cb : Cn H1 (.ref vb) ((W : Int), (Hh : Int)) := ⟨vb, rfl, hb⟩
    walk_at "go"
    intro fd H2 hfd s2 hnt
    walk_at "go"
    refine ⟨a, 1, ns, rfl, fun H' s => ha H' (.of (Same.trans (Same.trans s1 s2) s)), fun rb H3 bits hrb s3 hbits hb0 hb1 hb2 => ?_⟩
    walk_at "go"
    refine ⟨.ref vb, fd, rb, W, Hh, bits, rfl, (cb.up s2).up s3, hW, hH, hnt.up s3, hbits, hb0, hb1, hb2, fun D H4 kvs hD s4 nt4 fi => ?_⟩
    have vd := fi.vd
    have ad := FI.all fi
    have hlk : ∀ b ∈ AllB W Hh, look kvs b = some (.str (Fk kvs b)) := fun b hb => FI.get fi hb
    generalize hF : Fk kvs = F at vd ad hlk
    have s14 := Same.trans (Same.trans s2 s3) s4
    have cb4 := cb.up s14
    walk_at "go"
    refine ⟨.ref vb, D, W, Hh, F, kvs, rfl, cb4, hW, hH, vd, nt4, hlk, fun tp H5 z1 z2 htp s5 htx hz1 hz2 => ?_⟩
    walk_at "go"
    refine s_make ?_
    walk_at "go"
    intro x dx hx hdx hne
    have sN : Same H5 (upd (upd H5 dx (.own x)) x (.ins C dx [])) := fun b o e => by
      rw [upd_ne (ne_of_none e hx), upd_ne (ne_of_none e hdx)]
      exact e
    have h1 := half_ok vd ad (half := "rising") (.inl rfl)
    have h2 := half_ok vd ad (half := "falling") (.inr rfl)
    have s05 : Same H H5 := Same.trans s1 (Same.trans s14 s5)
    refine ⟨x, dx, .ref vb, z1, z2, W, Hh, F, lastG F, rfl, upd_same, ((cb4.up s5).up sN), hW, hH, ⟨hz1, h1.1, h1.2.1, h1.2.2⟩, ⟨hz2, h2.1, h2.2.1, h2.2.2⟩, (hT.ext s05).ext sN, fun H6 e6 t6 pl6 => ⟨rfl, ?_⟩⟩
    have e56 : LamX.ExtN H5 H6 := fun b o e n => e6 b o (ne_of_none e hx) (sN b o e) n
    have nt6 : NTab kt2 P w H6 D kvs := (nt4.up s5).upN e56
    have cb6 : Cn H6 (.ref vb) ((W : Int), (Hh : Int)) := (cb4.up s5).upN e56
    have ha6 : ∀ H', Same H6 H' → SqL K H' a (ns.map V.int) := fun H' s => ha H' ((LamX.ExtN.of s05).trans (e56.trans (.of s)))
    clear ha e6 e56 sN t6
    walk_at "go"
    refine ⟨a, 3, ns, rfl, ha6 H6 (Same.refl _), fun m3 => ?_⟩
    walk_at "go"
    refine ⟨.ref vb, m3, W, Hh, rfl, cb6, hW, hH, fun p H7 kept hp s7 hkept sub => ?_⟩
    walk_at "go"
    refine ⟨p, W, Hh, kept, rfl, hkept, sub.nodup (celL_nodup Hh W), hW, hH, fun c hc => celL_mem.mp (sub.subset hc), Nat.le_trans sub.length_le (by rw [celL_len]; have := Nat.mul_le_mul hW4 hH4; omega), fun r H8 lps hr s8 llr lok hcnt => ?_⟩
    have pl8 := (pl6.up s7).up s8
    have nt8 := (nt6.up s7).up s8
    have cb8 := (cb6.up s7).up s8
    have ha8 : ∀ H', Same H8 H' → SqL K H' a (ns.map V.int) := fun H' s => ha6 H' (Same.trans (Same.trans s7 s8) s)
    clear pl6 nt6 cb6 ha6
    walk_at "go"
    obtain ⟨las, hlx, _⟩ := llr.rw'
    refine u_list hlx ?_
    intro D2 hD2
    have vb8 : ∃ vs, H8 vb = some (.tup vs) ∧ vs = [V.int W, V.int Hh] := by
      obtain ⟨t, e1, e2⟩ := cb8
      cases e1
      exact ⟨_, e2, rfl⟩
    obtain ⟨vs8, hv8, rfl⟩ := vb8
    refine w_items (as := lps) (Rr := RwA) (fun i H9 => Same H8 H9 ∧ RR H9 D2 ((lps.take i).map fun cs => reachL (Ln F (clo cs)) cs.length (W + Hh))) ⟨Same.new hD2, [], upd_same, .nil⟩ (fun i H9 _ h9 => ((llr.up trC h9.1).rw').choose_spec.2) (fun i cs y H9 hi hy h9 => ?_) (fun H9 h9 => ?_)
    · obtain ⟨s9, rr9⟩ := h9
      obtain ⟨ca, rfl, hca⟩ := hy
      have hm := List.mem_of_getElem? hi
      have lo := (lok cs hm).1
      have pos := lo.1
      have lw := lw_of vd ad lo
      have hv9 := s9 _ _ hv8
      walk_at "go"
      refine ⟨rfl, ?_⟩
      walk_at "go"
      refine ⟨D, ca, W + Hh, W, Hh, F, kvs, cs, rfl, nt8.up s9, vd, hW, hH, hlk, hca, lo.on, lo.1, by have := (lok cs hm).2; omega, by omega, fun q H10 hq s10 hreach => ?_⟩
      have rr10 := rr9.up s10
      obtain ⟨as10, e10, p10⟩ := id rr10
      have n0 : cs.length ≠ 0 := by have := lo.1; omega
      have l10 := Paired.length p10
      have q2 : q ≠ D2 := fun z => by
        obtain ⟨as9, e9, _⟩ := rr9
        rw [z, e9] at hq
        cases hq
      walk_at "go"
      refine ⟨_, e10, Nat.lt_of_lt_of_le (by rw [List.length_map, l10, List.length_map, List.length_take]; omega : (as10.map V.ref).length < 100000) (by decide), ?_⟩
      refine ⟨But.same (But.upd _ _ _) (Same.trans s9 s10) hD2, ?_⟩
      have := RR.push e10 p10 (fun xss hx => by
        obtain ⟨cs', hc', rfl⟩ := List.mem_map.mp hx
        have lw' := lw_of vd ad (lok cs' (List.mem_of_mem_take hc')).1
        exact reach_ne lw' (lw_most lw')) hreach (reach_ne lw (lw_most lw)) q2
      rw [List.take_add_one, hi, List.map_append]
      exact this
    obtain ⟨s9, rr9⟩ := h9
    rw [List.take_length] at rr9
    have llr9 := llr.up trC s9
    have pl9 := pl8.up s9
    have nt9 := nt8.up s9
    have ha9 : ∀ H', Same H9 H' → SqL K H' a (ns.map V.int) := fun H' s => ha8 H' (Same.trans s9 s)
    clear pl8 nt8 cb8 ha8 hv8 hlx
    walk_at "go"
    refine u_lenLL llr9 ?_
    walk_at "go"
    refine u_rng1 (by omega) (by omega) ?_
    refine u_range (fun i σ H10 => ∃ a6 a8, σ = [some (.ref a), some (.ref vb), some (.ref D), some (.ref tp), some (.ref x), some (.ref r), a6, some (.ref D2), a8, none, none, none, none, none] ∧ Same H9 H10) ⟨_, _, rfl, Same.refl _⟩ (fun i σ H10 hi h => ?_) (fun σ H10 h => ?_)
    · obtain ⟨a6, a8, rfl, s10⟩ := h
      have hi' : i < lps.length := by omega
      have ei : lps[i]? = some lps[i] := List.getElem?_eq_getElem _
      have hm := List.getElem_mem hi'
      generalize lps[i] = cs at ei hm
      have lo := (lok cs hm).1
      have lw := lw_of vd ad lo
      walk_at "go"
      refine u_ixLL (xs := cs) (llr9.up trC s10) (by rw [Int.zero_add]; exact atI_nat ei) fun ca hca _ => ?_
      walk_at "go"
      refine u_ixRR (rr9.up s10) (by rw [Int.zero_add]; exact atI_nat (by rw [List.getElem?_map, ei]; rfl)) fun ra hra => ?_
      walk_at "go"
      refine ⟨x, ca, ra, W, Hh, W + Hh, F, cs, rfl, pl9.up s10, vd, hW, hH, hca, hra, lw, lo.on, lo.1, (lok cs hm).2, fun H11 s11 => ?_⟩
      walk_at "go"
      exact ⟨_, _, rfl, Same.trans s10 s11⟩
    · obtain ⟨a6, a8, rfl, s10⟩ := h
      walk_at "go"
      refine ⟨a, 4, ns, rfl, ha9 H10 s10, fun m4 => ?_⟩
      walk_at "go"
      rename_i lq H11 hlq s11 hm11
      refine ⟨m4, lq, [24], rfl, LsR.ints [24] hm11 rfl, by decide, by decide, by decide, fun dr H12 ds hdr s12 hds dok => ?_⟩
      have hdl : ds.length = 1 := dok.1
      obtain ⟨d0, rfl⟩ : ∃ d0, ds = [d0] := by
        cases ds with
        | nil => cases hdl
        | cons d0 t => cases t with
          | nil => exact ⟨d0, rfl⟩
          | cons _ _ => simp at hdl
      have hd0 := dok.2 0 d0 24 rfl rfl
      have s912 : Same H9 H12 := Same.trans s10 (Same.trans s11 s12)
      walk_at "go"
      refine u_rng1 (j := 3) (by decide) (by decide) ?_
      refine u_range (fun i σ H13 => ∃ a6 a8 a10 a11 a12 a13, σ = [some (.ref a), some (.ref vb), some (.ref D), some (.ref tp), some (.ref x), some (.ref r), a6, some (.ref D2), a8, some (.ref dr), a10, a11, a12, a13] ∧ Same H12 H13) ⟨_, _, _, _, _, _, rfl, Same.refl _⟩ (fun i σ H13 hi h => ?_) (fun σ H13 h => ?_)
      · obtain ⟨a6, a8, a10, a11, a12, a13, rfl, s13⟩ := h
        have s9' := Same.trans s912 s13
        walk_at "go"
        refine u_lenLL (llr9.up trC s9') ?_
        walk_at "go"
        refine ite3 (fun hpos => ?_) (fun _ => ?_)
        · walk_at "go"
          refine u_ixL (a := d0) (i := 0) (hds.up trI s13) (atI_nat (j := 0) rfl) fun v0 hv0 => ?_
          obtain rfl : v0 = V.int d0 := hv0
          walk_at "go"
          refine u_lenLL (llr9.up trC s9') ?_
          walk_at "go"
          refine s_I (by show ((lps.length : Nat) : Int) ≠ 0; omega) ?_
          have g1 := fmod_lo (a := d0 + (0 + (i : Int))) (b := ((lps.length : Nat) : Int)) (by omega)
          have g2 := fmod_hi (a := d0 + (0 + (i : Int))) (b := ((lps.length : Nat) : Int)) (by omega)
          generalize (d0 + (0 + (i : Int))).fmod ((lps.length : Nat) : Int) = kk at g1 g2
          obtain ⟨kn, rfl⟩ : ∃ kn : Nat, kk = kn := ⟨kk.toNat, by omega⟩
          have hk : kn < lps.length := by omega
          have ek : lps[kn]? = some lps[kn] := List.getElem?_eq_getElem _
          have hm := List.getElem_mem hk
          generalize lps[kn] = cs at ek hm
          have lo := (lok cs hm).1
          have l9 := (lok cs hm).2
          have lw := lw_of vd ad lo
          have ekr : (lps.map fun cs => reachL (Ln F (clo cs)) cs.length (W + Hh))[kn]? = some (reachL (Ln F (clo cs)) cs.length (W + Hh)) := by rw [List.getElem?_map, ek]; rfl
          generalize hL : Ln F (clo cs) = L at lw ekr
          walk_at "go"
          rename_i mk H14 hmk s14' hmm
          have s9m := Same.trans s9' s14'
          refine u_ixLL (xs := cs) (llr9.up trC s9m) (atI_nat ek) fun ca hca _ => ?_
          walk_at "go"
          refine u_len hca ?_
          walk_at "go"
          refine u_rng1 (by omega) (by omega) ?_
          refine u_range (fun j σ H15 => ∃ a12 init m, σ = [some (.ref a), some (.ref vb), some (.ref D), some (.ref tp), some (.ref x), some (.ref r), a6, some (.ref D2), some (.int kn), some (.ref dr), some (.int (0 + i)), some (.ref mk), a12, a13] ∧ Same H13 H15 ∧ LsR In H15 mk (init ++ [m]) ∧ (init.length : Int) ≤ m ∧ m < cs.length)
            ⟨_, [], 0, rfl, s14', LsR.ints [0] hmm rfl, by simp, by have := lo.1; omega⟩ (fun j σ H15 hj h => ?_) (fun σ H15 h => ?_)
          · obtain ⟨a12, init, m, rfl, s15, hms, hm1, hm2⟩ := h
            obtain ⟨mn, rfl⟩ : ∃ mn : Nat, m = mn := ⟨m.toNat, by omega⟩
            have s9n := Same.trans s9' s15
            have erow : atI (reachL L cs.length (W + Hh)) (mn : Int) = some (reachA L cs.length (W + Hh) mn) := atI_nat (by unfold reachL; rw [List.getElem?_map, List.getElem?_range (by omega)]; rfl)
            have hrow : 0 < (reachA L cs.length (W + Hh) mn).length := List.length_pos_of_mem (reachA_mem.mpr ⟨Int.le_refl ((mn : Int) + 1), by omega, by have := lw_most lw (by omega); omega, by rw [show ((mn : Int) + 1).toNat = mn + 1 by omega]; exact lw.one mn (by omega)⟩)
            walk_at "go"
            refine u_ixRR (rr9.up s9n) (atI_nat ekr) fun ra hra => ?_
            walk_at "go"
            refine u_ixL (a := (mn : Int)) hms (atI_last _ _) fun vm hvm => ?_
            obtain rfl : vm = V.int mn := hvm
            walk_at "go"
            refine u_ixLL hra erow fun qa hqa _ => ?_
            walk_at "go"
            refine u_maxL hqa hrow fun mx hmx hle => ?_
            walk_at "go"
            refine u_ixLL (xs := cs) (llr9.up trC s9n) (atI_nat ek) fun ca2 hca2 _ => ?_
            walk_at "go"
            refine u_len hca2 ?_
            walk_at "go"
            refine ite3 (fun hlt => ?_) (fun _ => ?_)
            · walk_at "go"
              obtain ⟨mvs, hmx3, _⟩ := id hms
              refine u_bmL hmx3 ?_
              walk_at "go"
              refine u_ixRR (rr9.up s9n) (atI_nat ekr) fun ra2 hra2 => ?_
              walk_at "go"
              refine u_ixL (a := (mn : Int)) hms (atI_last _ _) fun vm2 hvm2 => ?_
              obtain rfl : vm2 = V.int mn := hvm2
              walk_at "go"
              refine u_ixLL hra2 erow fun qa2 hqa2 _ => ?_
              walk_at "go"
              refine u_maxL hqa2 hrow fun my hmy hley => ?_
              walk_at "go"
              have b1 := (reachA_mem.mp hmy).1
              have b2 := hle my hmy
              refine u_appL trI hms (x := my) rfl (by rw [List.length_append, List.length_singleton]; omega) fun H16 b16 tk16 l16 => ?_
              exact ⟨_, init ++ [(mn : Int)], my, rfl, But.same b16 s15 hmk, l16, by rw [List.length_append, List.length_singleton]; omega, by omega⟩
            · walk_at "go"
              exact ⟨_, init, (mn : Int), rfl, s15, hms, hm1, hm2⟩
          · obtain ⟨a12, init, m, rfl, s15, hms, hm1, hm2⟩ := h
            have s9n := Same.trans s9' s15
            have e5 : (5 : Int) + (0 + (i : Int)) = ((5 + i : Nat) : Int) := by omega
            walk_at "go"
            refine u_ixLL (xs := cs) (llr9.up trC s9n) (atI_nat ek) fun ca2 hca2 _ => ?_
            walk_at "go"
            refine u_len hca2 ?_
            walk_at "go"
            rw [e5]
            refine ⟨a, 5 + i, ns, rfl, ha9 H15 s9n, fun m5 => ?_⟩
            walk_at "go"
            refine ⟨mk, m5, cs.length, _, rfl, hms, by simp, by rw [List.length_append, List.length_singleton]; omega, lo.1, l9, fun vr H17 s17 il => ?_⟩
            obtain ⟨zs, hzs, hzl⟩ := il
            have s9p := Same.trans s9n s17
            walk_at "go"
            refine u_ixLL (xs := cs) (llr9.up trC s9p) (atI_nat ek) fun ca3 hca3 _ => ?_
            walk_at "go"
            refine u_ixRR (rr9.up s9p) (atI_nat ekr) fun ra hra => ?_
            walk_at "go"
            refine ⟨ra, vr, L, cs.length, W + Hh, zs, rfl, hra, hzs, lw, l9, hzl, fun H18 s18 => ?_⟩
            walk_at "go"
            refine ⟨x, ca3, vr, W, Hh, F, cs, zs, by rw [hL]; rfl, pl9.up (Same.trans s9p s18), vd, hW, hH, hca3.up trC s18, hzs.up trI s18, lo.on, lo.1, by omega, hzl, fun H19 s19 => ?_⟩
            walk_at "go"
            exact ⟨_, _, _, _, _, _, rfl, Same.trans s13 (Same.trans s15 (Same.trans s17 (Same.trans s18 s19)))⟩
        · walk_at "go"
          exact ⟨_, _, _, _, _, _, rfl, s13⟩
      · obtain ⟨a6, a8, a10, a11, a12, a13, rfl, s13⟩ := h
        walk_at "go"
        exact k _
end
end Cp
end
section
namespace Cp
open PySem PySem.Spec PyProof.Rows L2
abbrev R : PySem.W.OpenRow := PySem.W.OpenLaw.row PySem.Challenge.rw_cornerplane_k52_whole_least_marks
def tf : List He.Defn := [("pairs_by_steps", none)]
abbrev hk : PySem.W.Hook := He.hookX 5 fa fn [] tf fun _ => true
def ob (s : PySem.W.SharedT) : He.AlX := He.obsX 5 fa fn [] tf (fun _ => true) (HandSHeadRun.getT s)
theorem ob_eq (s : PySem.W.SharedT) : ob s = hk.obs s.abs := He.obsX_eq (HandSHeadRun.getT_eq s)
def loose1 : List Str := ["_wall", "PlaneError", "OffBoard", "BadTable", "BrokenTable", "RISING", "FALLING", "corners_of", "on_board", "rising_pairs", "falling_pairs", "pairs_of", "steps_between", "pairs_by_steps", "steep_letter", "moved", "is_walked_line", "farthest", "least_marks", "is_least_marks", "least_chain", "has_table_form", "letters_by_pair", "first_letter", "before", "last_letters"]
def loose2 : List Str := ["find_broken_pair", "Plane", "_law_cell", "_law_draws", "_law_board", "_law_all_cells", "_law_moved", "_law_letter", "_law_walk", "_law_line", "_law_pairs", "_law_texts", "_law_bits", "_law_fill", "_law_is_integer", "_law_is_corner", "_law_is_row", "_law_outline", "_law_cells", "_law_is_line", "_law_reach", "_law_fewest", "_law_are_least", "_law_varied", "_law_accepts", "_law_loop_fits"]
def loose : List Str := loose1 ++ loose2
theorem run (w : World) : HandSHeadRun.RunEq R (PySem.W.view R.prog [58]) hk ob 4000 loose w := by
  intro os
  kernel_rfl
end Cp
end
section
namespace Cp
open PySem PySem.Spec PyProof.Rows L2
theorem facts {l : PySem.W.OpenLaw} {w : World} {K : PySem.W.Frag} {h : Heap} {mg : Str → Option Value} {f : Addr} (X : K.In h) (G : h.Ns mainGlobals mg) (hfa : mg "law" = some (.ref f)) (c : He.SaysX fa fn [] tf (fun _ => true) w h K) :
    LamX.LawAtS l w K CX0 13 63 "_law_script" mg f h := by
  have D : He.SaysD fa fn K := He.SaysT.d c.t
  obtain ⟨fd, F⟩ := (D.def_ 48 (d := d_law) rfl)
  have e := hfa.symm.trans (He.glo_ok X G (D.fact 44 (f := .glo "law") rfl))
  cases e
  have hp : (("pairs_by_steps", none) : He.Defn) ∈ tf := List.mem_singleton.mpr rfl
  have b := FunD.bindsA (ps := ["_law_script"]) F fun _ _ _ _ _ _ us hl => match us, hl with | [_], _ => rfl
  refine ⟨fd, [He.cT K ("pairs_by_steps", none)], spLaw K (He.cT K ("pairs_by_steps", none)).2, ?_, ?_, ?_, fun s v => b s [v] rfl, ?_, ?_⟩
  · intro p q
    rw [List.mem_singleton.mp q]
    exact c.empty _ hp
  · intro p q
    rw [List.mem_singleton.mp q]
    exact c.out _ hp
  · intro p q
    rw [List.mem_singleton.mp q]
    exact PySem.W.codeHd_of_K X (c.hd _ hp)
  · intro H a ns hl _ ht hS
    have ht' := ht _ (List.mem_singleton.mpr rfl)
    refine ⟨a, ns, rfl, fun H' s => ?_, ?_, fun _ => rfl⟩
    · rcases hS with (hS | ⟨o, hS⟩) | hS
      · exact .inl (.inl (s _ _ hS fun _ z => by cases z))
      · exact .inl (.inr ⟨o, s _ _ hS fun _ z => by cases z⟩)
      · exact .inr hS
    · intro p q
      rw [List.mem_singleton.mp q]
      exact LamX.TabS.nil ht'
  · intro base XB GB TBs
    have g : Gs mg := ⟨He.free_ok X G (D.fact 45 (f := .free "range") rfl), He.free_ok X G (D.fact 46 (f := .free "len") rfl), He.free_ok X G (D.fact 47 (f := .free "sorted") rfl), He.free_ok X G (D.fact 48 (f := .free "abs") rfl), He.free_ok X G (D.fact 49 (f := .free "zip") rfl), He.free_ok X G (D.fact 50 (f := .free "list") rfl), He.free_ok X G (D.fact 51 (f := .free "tuple") rfl), He.free_ok X G (D.fact 52 (f := .free "int") rfl), He.free_ok X G (D.fact 53 (f := .free "bool") rfl), He.free_ok X G (D.fact 54 (f := .free "min") rfl), He.free_ok X G (D.fact 55 (f := .free "max") rfl), He.free_ok X G (D.fact 56 (f := .free "isinstance") rfl), He.str_ok X G (D.fact 57 (f := .str "RISING" "rising") rfl), He.str_ok X G (D.fact 58 (f := .str "FALLING" "falling") rfl)⟩
    have pc0 : PlC K (He.ga K "Plane") := ⟨He.cls_ok (D.fact 60 (f := .cls "Plane") rfl), He.noat_ok (D.fact 62 (f := .noat "Plane" "board") rfl), He.noat_ok (D.fact 63 (f := .noat "Plane" "rising") rfl), He.noat_ok (D.fact 64 (f := .noat "Plane" "falling") rfl), He.noat_ok (D.fact 65 (f := .noat "Plane" "letters") rfl)⟩
    generalize hPz : (He.cT K ("pairs_by_steps", none)).2 = Pz
    have TB : ∀ c, CodeAt K (He.ga K "pairs_by_steps") c → LamX.TabB base mg c Pz := fun cc hc => by
      obtain ⟨oc, od, fd', osl, lk, e⟩ := hc
      have e1 : He.codeOf K ("pairs_by_steps", none) = cc := He.codeOf_eq lk e
      have := TBs _ (List.mem_singleton.mpr rfl)
      rw [hPz] at this
      rw [← e1]
      exact this
    generalize hP : l.prog = P
    have c_on_board := Cp.c_on_board (P := P) (w := w) (base := base) g  (He.glo_ok X G (D.fact 1 (f := .glo "on_board") rfl)) (D.def_ 1 (d := d_on_board) rfl)
    have c_steps_between := Cp.c_steps_between (P := P) (w := w) (base := base) g  (He.glo_ok X G (D.fact 5 (f := .glo "steps_between") rfl)) (D.def_ 5 (d := d_steps_between) rfl)
    have c_steep_letter := Cp.c_steep_letter (P := P) (w := w) (base := base) g  (He.glo_ok X G (D.fact 7 (f := .glo "steep_letter") rfl)) (D.def_ 7 (d := d_steep_letter) rfl)
    have c_moved := Cp.c_moved (P := P) (w := w) (base := base) g  (He.glo_ok X G (D.fact 8 (f := .glo "moved") rfl)) (D.def_ 8 (d := d_moved) rfl)
    have c_l_moved := Cp.c_l_moved (P := P) (w := w) (base := base) g  (He.glo_ok X G (D.fact 24 (f := .glo "_law_moved") rfl)) (D.def_ 28 (d := d_l_moved) rfl)
    have c_before := Cp.c_before (P := P) (w := w) (base := base) g  (He.glo_ok X G (D.fact 17 (f := .glo "before") rfl)) (D.def_ 17 (d := d_before) rfl)
    have c_first_letter := Cp.c_first_letter (P := P) (w := w) (base := base) g  (He.glo_ok X G (D.fact 16 (f := .glo "first_letter") rfl)) (D.def_ 16 (d := d_first_letter) rfl)
    have c_l_letter := Cp.c_l_letter (P := P) (w := w) (base := base) g  (He.glo_ok X G (D.fact 25 (f := .glo "_law_letter") rfl)) (D.def_ 29 (d := d_l_letter) rfl)
    have c_corners_of := Cp.c_corners_of (P := P) (w := w) (base := base) g  (He.glo_ok X G (D.fact 0 (f := .glo "corners_of") rfl)) (D.def_ 0 (d := d_corners_of) rfl)
    have c_rising_pairs := Cp.c_rising_pairs (P := P) (w := w) (base := base) g c_corners_of (He.glo_ok X G (D.fact 2 (f := .glo "rising_pairs") rfl)) (D.def_ 2 (d := d_rising_pairs) rfl)
    have c_falling_pairs := Cp.c_falling_pairs (P := P) (w := w) (base := base) g c_corners_of (He.glo_ok X G (D.fact 3 (f := .glo "falling_pairs") rfl)) (D.def_ 3 (d := d_falling_pairs) rfl)
    have c_pairs_of := Cp.c_pairs_of (P := P) (w := w) (base := base) g c_rising_pairs c_falling_pairs (He.glo_ok X G (D.fact 4 (f := .glo "pairs_of") rfl)) (D.def_ 4 (d := d_pairs_of) rfl)
    have c_pairs_by_steps := Cp.c_pairs_by_steps (P := P) (w := w) (base := base) (Pt := Pz) g c_pairs_of c_steps_between TB (He.glo_ok X G (D.fact 6 (f := .glo "pairs_by_steps") rfl)) (D.def_ 6 (d := d_pairs_by_steps) rfl)
    have c_has_table_form := Cp.c_has_table_form (P := P) (w := w) (base := base) g c_pairs_of c_steep_letter (He.glo_ok X G (D.fact 14 (f := .glo "has_table_form") rfl)) (D.def_ 14 (d := d_has_table_form) rfl)
    have c_letters_by_pair := Cp.c_letters_by_pair (P := P) (w := w) (base := base) g c_pairs_of (He.glo_ok X G (D.fact 15 (f := .glo "letters_by_pair") rfl)) (D.def_ 15 (d := d_letters_by_pair) rfl)
    have c_last_letters := Cp.c_last_letters (P := P) (w := w) (base := base) (Pt := Pz) g c_pairs_by_steps c_first_letter c_moved (He.glo_ok X G (D.fact 18 (f := .glo "last_letters") rfl)) (D.def_ 18 (d := d_last_letters) rfl)
    have c_find_broken_pair := Cp.c_find_broken_pair (P := P) (w := w) (base := base) (Pt := Pz) g c_letters_by_pair c_last_letters c_pairs_by_steps c_first_letter c_before (He.glo_ok X G (D.fact 19 (f := .glo "find_broken_pair") rfl)) (D.def_ 19 (d := d_find_broken_pair) rfl)
    have c_P_letter := Cp.c_P_letter (P := P) (w := w) (base := base) g pc0 c_first_letter (He.cls_ok (D.fact 60 (f := .cls "Plane") rfl)) (He.meth_ok (D.fact 66 (f := .meth "Plane" "letter") rfl)) (D.def_ 21 (d := d_P_letter) rfl)
    have c_P_walked := Cp.c_P_walked (P := P) (w := w) (base := base) g c_P_letter c_moved (He.cls_ok (D.fact 60 (f := .cls "Plane") rfl)) (He.meth_ok (D.fact 67 (f := .meth "Plane" "walked") rfl)) (D.def_ 22 (d := d_P_walked) rfl)
    have c_P_line := Cp.c_P_line (P := P) (w := w) (base := base) g pc0 c_P_walked c_on_board (He.cls_ok (D.fact 60 (f := .cls "Plane") rfl)) (He.meth_ok (D.fact 68 (f := .meth "Plane" "line") rfl)) (D.def_ 23 (d := d_P_line) rfl)
    have c_P_init := Cp.c_P_init (P := P) (w := w) (base := base) (Pt := Pz) g pc0 c_has_table_form c_find_broken_pair c_letters_by_pair (He.glo_ok X G (D.fact 59 (f := .glo "Plane") rfl)) (He.mkr_ok (D.fact 61 (f := .mkr "Plane") rfl)) (D.def_ 20 (d := d_P_init) rfl)
    have c_is_walked_line := Cp.c_is_walked_line (P := P) (w := w) (base := base) g c_P_line (He.glo_ok X G (D.fact 9 (f := .glo "is_walked_line") rfl)) (D.def_ 9 (d := d_is_walked_line) rfl)
    have c_farthest := Cp.c_farthest (P := P) (w := w) (base := base) g c_is_walked_line (He.glo_ok X G (D.fact 10 (f := .glo "farthest") rfl)) (D.def_ 10 (d := d_farthest) rfl)
    have c_least_marks := Cp.c_least_marks (P := P) (w := w) (base := base) g c_farthest (He.glo_ok X G (D.fact 11 (f := .glo "least_marks") rfl)) (D.def_ 11 (d := d_least_marks) rfl)
    have c_is_least_marks := Cp.c_is_least_marks (P := P) (w := w) (base := base) g c_is_walked_line (He.glo_ok X G (D.fact 12 (f := .glo "is_least_marks") rfl)) (D.def_ 12 (d := d_is_least_marks) rfl)
    have c_least_chain := Cp.c_least_chain (P := P) (w := w) (base := base) g c_least_marks (He.glo_ok X G (D.fact 13 (f := .glo "least_chain") rfl)) (D.def_ 13 (d := d_least_chain) rfl)
    have c_l_cell := Cp.c_l_cell (P := P) (w := w) (base := base) g  (He.glo_ok X G (D.fact 20 (f := .glo "_law_cell") rfl)) (D.def_ 24 (d := d_l_cell) rfl)
    have c_l_draws := Cp.c_l_draws (P := P) (w := w) (base := base) g  (He.glo_ok X G (D.fact 21 (f := .glo "_law_draws") rfl)) (D.def_ 25 (d := d_l_draws) rfl)
    have c_l_board := Cp.c_l_board (P := P) (w := w) (base := base) g c_l_draws (He.glo_ok X G (D.fact 22 (f := .glo "_law_board") rfl)) (D.def_ 26 (d := d_l_board) rfl)
    have c_l_all_cells := Cp.c_l_all_cells (P := P) (w := w) (base := base) g  (He.glo_ok X G (D.fact 23 (f := .glo "_law_all_cells") rfl)) (D.def_ 27 (d := d_l_all_cells) rfl)
    have c_l_walk := Cp.c_l_walk (P := P) (w := w) (base := base) g c_l_moved c_l_letter (He.glo_ok X G (D.fact 26 (f := .glo "_law_walk") rfl)) (D.def_ 30 (d := d_l_walk) rfl)
    have c_l_line := Cp.c_l_line (P := P) (w := w) (base := base) g c_l_walk (He.glo_ok X G (D.fact 27 (f := .glo "_law_line") rfl)) (D.def_ 31 (d := d_l_line) rfl)
    have c_l_bits := Cp.c_l_bits (P := P) (w := w) (base := base) g c_l_draws c_l_cell (He.glo_ok X G (D.fact 30 (f := .glo "_law_bits") rfl)) (D.def_ 34 (d := d_l_bits) rfl)
    have c_l_pairs := Cp.c_l_pairs (P := P) (w := w) (base := base) g  (He.glo_ok X G (D.fact 28 (f := .glo "_law_pairs") rfl)) (D.def_ 32 (d := d_l_pairs) rfl)
    have c_l_texts := Cp.c_l_texts (P := P) (w := w) (base := base) g  (He.glo_ok X G (D.fact 29 (f := .glo "_law_texts") rfl)) (D.def_ 33 (d := d_l_texts) rfl)
    have c_l_fill := Cp.c_l_fill (P := P) (w := w) (base := base) g c_l_pairs c_l_walk c_l_moved c_l_letter (He.glo_ok X G (D.fact 31 (f := .glo "_law_fill") rfl)) (D.def_ 35 (d := d_l_fill) rfl)
    have c_l_is_integer := Cp.c_l_is_integer (P := P) (w := w) (base := base) g  (He.glo_ok X G (D.fact 32 (f := .glo "_law_is_integer") rfl)) (D.def_ 36 (d := d_l_is_integer) rfl)
    have c_l_is_corner := Cp.c_l_is_corner (P := P) (w := w) (base := base) g c_l_is_integer (He.glo_ok X G (D.fact 33 (f := .glo "_law_is_corner") rfl)) (D.def_ 37 (d := d_l_is_corner) rfl)
    have c_l_is_row := Cp.c_l_is_row (P := P) (w := w) (base := base) g c_l_is_corner (He.glo_ok X G (D.fact 34 (f := .glo "_law_is_row") rfl)) (D.def_ 38 (d := d_l_is_row) rfl)
    have c_l_is_line := Cp.c_l_is_line (P := P) (w := w) (base := base) g c_l_line (He.glo_ok X G (D.fact 37 (f := .glo "_law_is_line") rfl)) (D.def_ 41 (d := d_l_is_line) rfl)
    have c_l_reach := Cp.c_l_reach (P := P) (w := w) (base := base) g c_l_is_line (He.glo_ok X G (D.fact 38 (f := .glo "_law_reach") rfl)) (D.def_ 42 (d := d_l_reach) rfl)
    have c_l_fewest := Cp.c_l_fewest (P := P) (w := w) (base := base) g  (He.glo_ok X G (D.fact 39 (f := .glo "_law_fewest") rfl)) (D.def_ 43 (d := d_l_fewest) rfl)
    have c_l_are_least := Cp.c_l_are_least (P := P) (w := w) (base := base) g  (He.glo_ok X G (D.fact 40 (f := .glo "_law_are_least") rfl)) (D.def_ 44 (d := d_l_are_least) rfl)
    have c_l_accepts := Cp.c_l_accepts (P := P) (w := w) (base := base) g c_is_least_marks (He.glo_ok X G (D.fact 42 (f := .glo "_law_accepts") rfl)) (D.def_ 46 (d := d_l_accepts) rfl)
    have c_l_loop_fits := Cp.c_l_loop_fits (P := P) (w := w) (base := base) g c_least_marks c_least_chain c_l_is_integer c_l_are_least c_l_fewest c_l_is_row c_l_accepts (He.glo_ok X G (D.fact 43 (f := .glo "_law_loop_fits") rfl)) (D.def_ 47 (d := d_l_loop_fits) rfl)
    have c_l_cells := Cp.c_l_cells (P := P) (w := w) (base := base) g c_l_draws c_l_all_cells (He.glo_ok X G (D.fact 36 (f := .glo "_law_cells") rfl)) (D.def_ 40 (d := d_l_cells) rfl)
    have c_l_varied := Cp.c_l_varied (P := P) (w := w) (base := base) g c_l_draws (He.glo_ok X G (D.fact 41 (f := .glo "_law_varied") rfl)) (D.def_ 45 (d := d_l_varied) rfl)
    have c_l_outline := Cp.c_l_outline (P := P) (w := w) (base := base) g  (He.glo_ok X G (D.fact 35 (f := .glo "_law_outline") rfl)) (D.def_ 39 (d := d_l_outline) rfl)
    exact ok_law g c_l_board c_l_cell c_l_fill c_l_bits c_l_texts c_l_outline c_l_cells c_l_reach c_l_loop_fits c_l_draws c_l_varied c_l_accepts c_l_are_least c_P_init F
end Cp
end
section
open PySem PySem.W PySem.Calls PyProof.Rows
theorem PySem.Challenge.cw_cornerplane_k52_whole_least_marks_holds : PySem.Challenge.rw_cornerplane_k52_whole_least_marks.Holds := by
  w_on; o_law
  refine HandSHeadRun.head_any (r := OpenLaw.row PySem.Challenge.rw_cornerplane_k52_whole_least_marks) (q := view (OpenLaw.row PySem.Challenge.rw_cornerplane_k52_whole_least_marks).prog [58]) (H := Cp.hk) (ob := Cp.ob) (M := 4000) (loose := Cp.loose) (d := HandSHeadRun.topDef (OpenLaw.row PySem.Challenge.rw_cornerplane_k52_whole_least_marks).prog 58) (kwd := []) Cp.ob_eq
    (by kernel_rfl) (fun s => by kernel_rfl) Cp.run (by kernel_rfl) (by kernel_rfl) (by kernel_rfl) (by rfl) (by first | assumption | decide +kernel) (by decide +kernel) ⟨rfl, rfl, rfl, rfl, rfl, by decide +kernel⟩ ?hw ?hc
  case hw => w_witness2
  case hc =>
    refine LamX.walk_ofTsE (l := PySem.Challenge.rw_cornerplane_k52_whole_least_marks) (n := 63) (k := 13) (x := "_law_script") (CX := fun _ => L2.CX0) rfl (by decide) (by kernel_rfl) ⟨rfl, by decide, by decide⟩ ?F (fun _ _ _ _ _ z => z)
    intro w mg fa h Y G hmg0
    obtain ⟨K, KX, c⟩ := Y
    have hmg : mg ("law" : PySem.Str) = some (.ref fa) := by
      have e : (HandSHeadRun.topDef (OpenLaw.row PySem.Challenge.rw_cornerplane_k52_whole_least_marks).prog 58).name = ("law" : PySem.Str) := by kernel_rfl
      rw [← e]
      exact hmg0
    exact ⟨K, KX, Cp.facts KX G hmg c⟩
end
